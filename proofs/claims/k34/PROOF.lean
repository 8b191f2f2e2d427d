import PyProof.Rows.All
import Wide.All
import OpenK.AllK
import Wide.FinOn
import HandS.ForMost
import HandS.Flow
import HandS.WideBits
import HandS.TupAny
import HandS.IsInst
import HandS.Lambda
import HandS.Nested
import HandS.TupMul
import HandS.Wide
import KE.DataMinMax
import PyProof.ReprRoads
import HandS.More
import HandS.SetFor
import HandS.Remove
import KE.GoesEnum
import HandS.Deep
import HandS.EndTab
import HandS.Style
import KE.SortKeyHeap
import HandS.Conv
import HandS.Sort
import PySem.Challenge.RW_allnights_k34_whole_cutting_and_seats
set_option Elab.async false
set_option linter.all false
set_option maxRecDepth 100000
/-! Values as PyData, an abstract store of mutable lists, and readings made of pure functions. -/
namespace Ev
open PySem PySem.Spec PyProof.Rows L2

abbrev D := PyData
/-- a mutable object of the store -/
inductive Ob where
  | lst (l : List D)
/-- a value: data that nobody changes, or an object of the store -/
inductive R where
  | val (d : D)
  | ref (i : Nat)
abbrev M := List Ob
abbrev Sl := List (Option R)

/-- the tables of code objects, with the name of what they tell -/
abbrev Tbs := List (Addr × Str)
/-- the addresses of the store's objects; those that are hidden (lists that comprehensions fill) -/
structure Ad where
  s : List Addr
  h : List Addr
  t : List (Addr × Str)
def Ad.all (φ : Ad) : List Addr := φ.s ++ φ.h
def Ad.add (φ : Ad) (p : Addr) : Ad := ⟨φ.s ++ [p], φ.h, φ.t⟩
def Ad.hide (φ : Ad) (p : Addr) : Ad := ⟨φ.s, p :: φ.h, φ.t⟩
theorem Ad.mem {φ : Ad} {a : Addr} : a ∈ φ.all ↔ a ∈ φ.s ∨ a ∈ φ.h := List.mem_append
/-- no table -/
def noT : Option HO → Option HO
  | some (.tbl _) => none
  | o => o
def isTb : HO → Bool
  | .tbl _ => true
  | _ => false
theorem noT_some {x : Option HO} {o : HO} : noT x = some o ↔ x = some o ∧ isTb o = false := by
  cases x with
  | none => exact ⟨fun z => (nomatch z), fun z => (nomatch z.1)⟩
  | some y =>
    cases y with
    | tbl ps => exact ⟨fun z => (nomatch z), fun z => by
        obtain ⟨z1, z2⟩ := z
        cases z1
        exact (nomatch z2)⟩
    | _ => exact ⟨fun z => ⟨z, by cases z; rfl⟩, fun z => z.1⟩
/-- the heap without the store's objects, the hidden ones and tables -/
def off (φ : Ad) (H : Hp) : Hp := fun a => if a ∈ φ.all then none else noT (H a)
theorem off_some {φ : Ad} {H : Hp} {a : Addr} {o : HO} : off φ H a = some o ↔ a ∉ φ.all ∧ H a = some o ∧ isTb o = false := by
  unfold off
  by_cases h : a ∈ φ.all
  · rw [if_pos h]
    exact Iff.intro (fun z => nomatch z) (fun z => absurd h z.1)
  · rw [if_neg h]
    exact Iff.intro (fun z => And.intro h (noT_some.mp z)) (fun z => noT_some.mpr z.2)
theorem sqT_mono {K : PySem.W.Frag} {H H' : Hp} {a : Addr} {xs : List V} (e : Same H H') (h : SqT K H a xs) : SqT K H' a xs := by
  rcases h with (h | ⟨o, h⟩) | h
  · exact Or.inl (Or.inl (e _ _ h))
  · exact Or.inl (Or.inr ⟨o, e _ _ h⟩)
  · exact Or.inr h
mutual
theorem dp_mono {K : PySem.W.Frag} {H H' : Hp} (e : Same H H') : ∀ {d : D} {v : V}, Dp K H v d → Dp K H' v d
  | _, _, .non => .non
  | _, _, .bl b => .bl b
  | _, _, .int i => .int i
  | _, _, .str x => .str x
  | _, _, .lst h ha => .lst (e.seq h) (dps_mono e ha)
  | _, _, .tup h ha => .tup (sqT_mono e h) (dps_mono e ha)
theorem dps_mono {K : PySem.W.Frag} {H H' : Hp} (e : Same H H') : ∀ {ds : List D} {vs : List V}, DpAll K H vs ds → DpAll K H' vs ds
  | _, _, .nil => .nil
  | _, _, .cons h t => .cons (dp_mono e h) (dps_mono e t)
end
theorem DpAll.len {K : PySem.W.Frag} {H : Hp} : ∀ {ds : List D} {vs : List V}, DpAll K H vs ds → vs.length = ds.length
  | _, _, .nil => rfl
  | _, _, .cons _ t => by
    rw [List.length_cons, List.length_cons, DpAll.len t]
theorem DpAll.append {K : PySem.W.Frag} {H : Hp} : ∀ {ds es : List D} {vs us : List V}, DpAll K H vs ds → DpAll K H us es → DpAll K H (vs ++ us) (ds ++ es)
  | _, _, _, _, .nil, h => h
  | _, _, _, _, .cons a t, h => .cons a (DpAll.append t h)
theorem DpAll.get {K : PySem.W.Frag} {H : Hp} : ∀ {ds : List D} {vs : List V} {i : Nat} {d : D}, DpAll K H vs ds → ds[i]? = some d → ∃ v, vs[i]? = some v ∧ Dp K H v d
  | _, _, _, _, .nil, e => by simp at e
  | _, _, 0, _, .cons (v := v) a t, e => by
    simp at e
    subst e
    exact ⟨v, rfl, a⟩
  | _, _, i + 1, _, .cons a t, e => by
    obtain ⟨v, h1, h2⟩ := DpAll.get (i := i) t (by simpa using e)
    exact ⟨v, by simpa using h1, h2⟩
theorem DpAll.get' {K : PySem.W.Frag} {H : Hp} : ∀ {ds : List D} {vs : List V} {i : Nat} {v : V}, DpAll K H vs ds → vs[i]? = some v → ∃ d, ds[i]? = some d ∧ Dp K H v d
  | _, _, _, _, .nil, e => by simp at e
  | _, _, 0, _, .cons (d := d) a t, e => by
    simp at e
    subst e
    exact ⟨d, rfl, a⟩
  | _, _, i + 1, _, .cons a t, e => by
    obtain ⟨v, h1, h2⟩ := DpAll.get' (i := i) t (by simpa using e)
    exact ⟨v, by simpa using h1, h2⟩
theorem DpAll.set {K : PySem.W.Frag} {H : Hp} {v : V} {d : D} (h : Dp K H v d) : ∀ {ds : List D} {vs : List V} (i : Nat), DpAll K H vs ds → DpAll K H (vs.set i v) (ds.set i d)
  | _, _, _, .nil => .nil
  | _, _, 0, .cons _ t => .cons h t
  | _, _, i + 1, .cons a t => .cons a (DpAll.set h i t)
theorem DpAll.take {K : PySem.W.Frag} {H : Hp} : ∀ {ds : List D} {vs : List V} (n : Nat), DpAll K H vs ds → DpAll K H (vs.take n) (ds.take n)
  | _, _, 0, _ => by simp; exact .nil
  | _, _, _ + 1, .nil => by simp; exact .nil
  | _, _, n + 1, .cons a t => by simp; exact .cons a (DpAll.take n t)
theorem DpAll.drop {K : PySem.W.Frag} {H : Hp} : ∀ {ds : List D} {vs : List V} (n : Nat), DpAll K H vs ds → DpAll K H (vs.drop n) (ds.drop n)
  | _, _, 0, h => by simpa using h
  | _, _, _ + 1, .nil => by simp; exact .nil
  | _, _, n + 1, .cons _ t => by simpa using DpAll.drop n t
theorem dpAll_ints {K : PySem.W.Frag} {H : Hp} : ∀ ns : List Int, DpAll K H (ns.map V.int) (ns.map PyData.int)
  | [] => .nil
  | n :: r => .cons (.int n) (dpAll_ints r)
theorem ints_of_dpAll {K : PySem.W.Frag} {H : Hp} : ∀ {ns : List Int} {vs : List V}, DpAll K H vs (ns.map PyData.int) → vs = ns.map V.int
  | [], _, h => by cases h; rfl
  | n :: r, _, h => by
    cases h with
    | cons a t =>
      cases a
      rw [ints_of_dpAll t]
      rfl

/-- an object of the store at an address -/
def OR (K : PySem.W.Frag) (Ho H : Hp) (a : Addr) : Ob → Prop
  | .lst ds => ∃ xs, H a = some (.lst xs) ∧ DpAll K Ho xs ds
theorem OR.mono {K : PySem.W.Frag} {Ho Ho' H H' : Hp} {a : Addr} {o : Ob} (e : Same Ho Ho') (k : ∀ u, H a = some u → H' a = some u) (h : OR K Ho H a o) : OR K Ho' H' a o := by
  cases o with
  | lst ds =>
    obtain ⟨xs, h1, h2⟩ := h
    exact ⟨xs, k _ h1, dps_mono e h2⟩
theorem OR.here {K : PySem.W.Frag} {Ho H : Hp} {a : Addr} {o : Ob} (h : OR K Ho H a o) : ∃ u, H a = some u := by
  cases o with
  | lst ds =>
    obtain ⟨xs, h1, h2⟩ := h
    exact ⟨_, h1⟩

structure SR (ζ : Tbs) (K : PySem.W.Frag) (φ : Ad) (H : Hp) (m : M) : Prop where
  len : φ.s.length = m.length
  nd : φ.all.Nodup
  obj : ∀ (i : Nat) (o : Ob) (a : Addr), m[i]? = some o → φ.s[i]? = some a → OR K (off φ H) H a o
  hid : ∀ a ∈ φ.h, (∃ u, H a = some u ∧ isTb u = false) ∨ ∃ q, (a, q) ∈ φ.t
  teq : φ.t = ζ
  tin : ∀ p ∈ φ.t, p.1 ∈ φ.h
  tab : LamX.Tabs φ.t H
structure Gr (φ : Ad) (H : Hp) (φ' : Ad) (H' : Hp) : Prop where
  pre : φ.s <+: φ'.s
  eqh : φ'.h = φ.h
  eqt : φ'.t = φ.t
  same : Same (off φ H) (off φ' H')
  stay : ∀ a ∈ φ.h, ∀ u, H a = some u → (∀ ps, u ≠ .tbl ps) → H' a = some u
/-- growth that says nothing of the hidden ones -/
structure Gw (φ : Ad) (H : Hp) (φ' : Ad) (H' : Hp) : Prop where
  pre : φ.s <+: φ'.s
  same : Same (off φ H) (off φ' H')
theorem Gr.w {φ φ' : Ad} {H H' : Hp} (g : Gr φ H φ' H') : Gw φ H φ' H' := ⟨g.pre, g.same⟩
theorem Gw.trans {φ φ' φ2 : Ad} {H H' H2 : Hp} (a : Gw φ H φ' H') (b : Gw φ' H' φ2 H2) : Gw φ H φ2 H2 := ⟨a.pre.trans b.pre, a.same.trans b.same⟩
def RR (K : PySem.W.Frag) (φ : Ad) (H : Hp) (v : V) : R → Prop
  | .val d => Dp K (off φ H) v d
  | .ref i => ∃ a, v = .ref a ∧ φ.s[i]? = some a
abbrev RRs (K : PySem.W.Frag) (φ : Ad) (H : Hp) : List V → List R → Prop := Paired (RR K φ H)
structure ER (K : PySem.W.Frag) (φ : Ad) (H : Hp) (σ : L2.St) (env : Sl) : Prop where
  len : σ.length = env.length
  at_ : ∀ (i : Nat) (r : R), env[i]? = some (some r) → ∃ v, σ[i]? = some (some v) ∧ RR K φ H v r

section
variable {K : PySem.W.Frag} {φ φ' φ2 : Ad} {H H' H2 : Hp} {m m' : M} {σ : L2.St} {env : Sl} {v : V} {r : R}
theorem Gr.refl : Gr φ H φ H := ⟨List.prefix_refl _, rfl, rfl, fun _ _ h => h, fun _ _ _ h _ => h⟩
theorem Gr.trans (a : Gr φ H φ' H') (b : Gr φ' H' φ2 H2) : Gr φ H φ2 H2 := ⟨a.pre.trans b.pre, b.eqh.trans a.eqh, b.eqt.trans a.eqt, a.same.trans b.same, fun c hc u e n => b.stay c (by rw [a.eqh]; exact hc) u (a.stay c hc u e n) n⟩
theorem prefix_get {α : Type} {l l' : List α} (h : l <+: l') {i : Nat} {x : α} (e : l[i]? = some x) : l'[i]? = some x := by
  obtain ⟨t, rfl⟩ := h
  rw [List.getElem?_append_left (List.getElem?_eq_some_iff.mp e).1]
  exact e
theorem RR.monoW (g : Gw φ H φ' H') : ∀ {r : R} {v : V}, RR K φ H v r → RR K φ' H' v r
  | .val _, _, h => dp_mono g.same h
  | .ref _, _, ⟨a, e, h⟩ => ⟨a, e, prefix_get g.pre h⟩
theorem RR.mono (g : Gr φ H φ' H') {r : R} {v : V} (h : RR K φ H v r) : RR K φ' H' v r := h.monoW g.w
theorem RRs.mono (g : Gr φ H φ' H') : ∀ {rs : List R} {vs : List V}, RRs K φ H vs rs → RRs K φ' H' vs rs
  | _, _, .nil => .nil
  | _, _, .cons a t => .cons (RR.mono g a) (RRs.mono g t)
theorem ER.monoW (g : Gw φ H φ' H') (e : ER K φ H σ env) : ER K φ' H' σ env := ⟨e.len, fun i r h => by
  obtain ⟨v, h1, h2⟩ := e.at_ i r h
  exact ⟨v, h1, h2.monoW g⟩⟩
theorem ER.mono (g : Gr φ H φ' H') (e : ER K φ H σ env) : ER K φ' H' σ env := e.monoW g.w
theorem SR.in_ (s : SR ζ K φ H m) {a : Addr} (h : a ∈ φ.all) : ∃ u, H a = some u := by
  rcases Ad.mem.mp h with h | h
  · obtain ⟨i, hi, e⟩ := List.mem_iff_getElem.mp h
    have hm : i < m.length := by rw [← s.len]; exact hi
    exact (s.obj i m[i] a (List.getElem?_eq_getElem hm) (by rw [List.getElem?_eq_getElem hi, e])).here
  · rcases s.hid a h with ⟨u, e, _⟩ | ⟨q, e⟩
    · exact ⟨u, e⟩
    · obtain ⟨ps, e1, _⟩ := s.tab _ e
      exact ⟨_, e1⟩
theorem SR.new (s : SR ζ K φ H m) {p : Addr} (h : H p = none) : p ∉ φ.all := fun z => by
  obtain ⟨u, e⟩ := s.in_ z
  rw [h] at e
  cases e
theorem upd_stay {p b : Addr} {o u : HO} (h : H p = none) (e : H b = some u) : upd H p o b = some u := by
  rw [upd_ne (ne_of_none e h)]
  exact e
theorem gr_alloc {p : Addr} {o : HO} (h : H p = none) : Gr φ H φ (upd H p o) := ⟨List.prefix_refl _, rfl, rfl, fun b u e => by
  rw [off_some] at e ⊢
  exact ⟨e.1, upd_stay h e.2.1, e.2.2⟩, fun _ _ _ e _ => upd_stay h e⟩
theorem SR.alloc (s : SR ζ K φ H m) {p : Addr} {o : HO} (h : H p = none) : SR ζ K φ (upd H p o) m := ⟨s.len, s.nd, fun i ob a e1 e2 =>
  (s.obj i ob a e1 e2).mono (gr_alloc h).same fun u z => upd_stay h z, fun a ha => by
    exact (s.hid a ha).imp (fun ⟨u, e, n⟩ => ⟨u, upd_stay h e, n⟩) id, s.teq, s.tin, s.tab.ext fun b u e => upd_stay h e⟩
/-- the new object enters the store -/
theorem gr_enter {p : Addr} {o : HO} (h : H p = none) : Gr φ H (φ.add p) (upd H p o) := ⟨List.prefix_append _ _, rfl, rfl, fun b u e => by
  rw [off_some] at e ⊢
  have hb : b ≠ p := ne_of_none e.2.1 h
  refine ⟨fun z => ?_, upd_stay h e.2.1, e.2.2⟩
  rcases Ad.mem.mp z with z | z
  · rcases List.mem_append.mp z with z | z
    · exact e.1 (Ad.mem.mpr (.inl z))
    · simp at z
      exact hb z
  · exact e.1 (Ad.mem.mpr (.inr z)), fun _ _ _ e _ => upd_stay h e⟩
theorem nodup_add {p : Addr} (h : φ.all.Nodup) (np : p ∉ φ.all) : (φ.add p).all.Nodup := by
  unfold Ad.all Ad.add at *
  rw [List.append_assoc, List.nodup_append] at *
  obtain ⟨h1, h2, h3⟩ := h
  refine ⟨h1, ?_, fun a ha b hb => ?_⟩
  · show (p :: φ.h).Nodup
    exact List.nodup_cons.mpr ⟨fun z => np (List.mem_append_right _ z), h2⟩
  · rcases List.mem_cons.mp (show b ∈ p :: φ.h from hb) with e | e
    · subst e
      exact fun z => np (List.mem_append_left _ (z ▸ ha))
    · exact h3 a ha b e
theorem SR.enter (s : SR ζ K φ H m) {p : Addr} {xs : List V} {ds : List D} (h : H p = none) (hd : DpAll K (off φ H) xs ds) : SR ζ K (φ.add p) (upd H p (.lst xs)) (m ++ [.lst ds]) := by
  have np := s.new h
  have g : Gr φ H (φ.add p) (upd H p (.lst xs)) := gr_enter h
  refine ⟨by unfold Ad.add; rw [List.length_append, List.length_append, s.len]; rfl, nodup_add s.nd np, fun i ob a e1 e2 => ?_, fun a ha => ?_, s.teq, s.tin, s.tab.ext fun b u e => upd_stay h e⟩
  · unfold Ad.add at e2
    simp only at e2
    by_cases hi : i < m.length
    · rw [List.getElem?_append_left hi] at e1
      rw [List.getElem?_append_left (by rw [s.len]; exact hi)] at e2
      exact (s.obj i ob a e1 e2).mono g.same fun u z => upd_stay h z
    · have e : i = m.length := by
        have := (List.getElem?_eq_some_iff.mp e1).1
        rw [List.length_append] at this
        simp at this
        omega
      subst e
      rw [List.getElem?_append_right (Nat.le_refl _), Nat.sub_self] at e1
      rw [← s.len, List.getElem?_append_right (Nat.le_refl _), Nat.sub_self] at e2
      simp at e1 e2
      subst e1 e2
      exact ⟨xs, upd_same, dps_mono g.same hd⟩
  · exact (s.hid a ha).imp (fun ⟨u, e, n⟩ => ⟨u, upd_stay h e, n⟩) id
/-- an object of the store is changed -/
theorem nodup_at {α : Type} : ∀ {l : List α} {i j : Nat} {x : α}, l.Nodup → l[i]? = some x → l[j]? = some x → i = j := fun {l i j x} hn a b => by
  obtain ⟨h1, e1⟩ := List.getElem?_eq_some_iff.mp a
  obtain ⟨h2, e2⟩ := List.getElem?_eq_some_iff.mp b
  exact (List.getElem_inj hn).mp (e1.trans e2.symm)
theorem SR.nds (s : SR ζ K φ H m) : φ.s.Nodup := (List.nodup_append.mp s.nd).1
theorem SR.apart (s : SR ζ K φ H m) {a : Addr} (h : a ∈ φ.s) : a ∉ φ.h := fun z => (List.nodup_append.mp s.nd).2.2 a h a z rfl
/-- tables do not mind what is no table and no code object -/
theorem tabs_keep {T : List (Addr × Str)} {H H' : Hp} (t : LamX.Tabs T H) (e : ∀ b o, H b = some o → ((∃ ps, o = .tbl ps) ∨ ∃ q, o = LamX.CodeO b q) → H' b = some o) : LamX.Tabs T H' := fun p hp => by
  obtain ⟨ps, h1, h2, h3⟩ := t p hp
  refine ⟨ps, e _ _ h1 (.inl ⟨ps, rfl⟩), h2, fun pos cv hc => ?_⟩
  obtain ⟨c, e1, e2⟩ := h3 pos cv hc
  exact ⟨c, e1, e _ _ e2 (.inr ⟨_, rfl⟩)⟩
theorem codeO_lst {b : Addr} {q : Str} {xs : List V} : HO.lst xs ≠ LamX.CodeO b q := fun z => by
  unfold LamX.CodeO at z
  cases z
theorem tabs_write {T : List (Addr × Str)} {H : Hp} {a : Addr} {xs : List V} {o : HO} (t : LamX.Tabs T H) (h : H a = some (.lst xs)) : LamX.Tabs T (upd H a o) := tabs_keep t fun b u e k => by
  have nb : b ≠ a := fun z => by
    rw [z, h] at e
    cases e
    rcases k with ⟨ps, k⟩ | ⟨q, k⟩
    · cases k
    · exact codeO_lst k
  rw [upd_ne nb]
  exact e
theorem gr_write {a : Addr} {o : HO} (h : a ∈ φ.s) (hn : a ∉ φ.h) : Gr φ H φ (upd H a o) := ⟨List.prefix_refl _, rfl, rfl, fun b u e => by
  rw [off_some] at e ⊢
  refine ⟨e.1, ?_, e.2.2⟩
  rw [upd_ne (fun z : b = a => e.1 (Ad.mem.mpr (.inl (by rw [z]; exact h))))]
  exact e.2.1, fun b hb u e _ => by
  rw [upd_ne (fun z : b = a => hn (by rw [← z]; exact hb))]
  exact e⟩
theorem SR.write (s : SR ζ K φ H m) {a : Addr} {i : Nat} {xs : List V} {ds : List D} (h : φ.s[i]? = some a) (hd : DpAll K (off φ H) xs ds) : SR ζ K φ (upd H a (.lst xs)) (m.set i (.lst ds)) := by
  have ha : a ∈ φ.s := List.mem_of_getElem? h
  have hn := s.apart ha
  have g : Gr φ H φ (upd H a (.lst xs)) := gr_write ha hn
  have hi : i < m.length := by rw [← s.len]; exact (List.getElem?_eq_some_iff.mp h).1
  obtain ⟨ob0, hob0⟩ : ∃ ob, m[i]? = some ob := ⟨m[i], List.getElem?_eq_getElem hi⟩
  have hl0 : ∃ ys, H a = some (.lst ys) := by
    have q := s.obj i ob0 a hob0 h
    cases ob0 with
    | lst ds0 =>
      obtain ⟨ys, q, _⟩ := q
      exact ⟨ys, q⟩
  obtain ⟨ys0, hl0⟩ := hl0
  refine ⟨by rw [List.length_set]; exact s.len, s.nd, fun j ob b e1 e2 => ?_, fun b hb => ?_, s.teq, s.tin, tabs_write s.tab hl0⟩
  · by_cases hj : j = i
    · subst hj
      rw [List.getElem?_set_self hi] at e1
      rw [h] at e2
      cases e1
      cases e2
      exact ⟨xs, upd_same, dps_mono g.same hd⟩
    · rw [List.getElem?_set_ne (fun z => hj z.symm)] at e1
      have nb : b ≠ a := fun z => hj (nodup_at s.nds (z ▸ e2) h)
      exact (s.obj j ob b e1 e2).mono g.same fun u z => by rw [upd_ne nb]; exact z
  · exact (s.hid b hb).imp (fun ⟨u, e, n⟩ => ⟨u, by rw [upd_ne (fun z : b = a => hn (by rw [← z]; exact hb))]; exact e, n⟩) id
theorem ER.get (e : ER K φ H σ env) {i : Nat} {r : R} (h : env[i]? = some (some r)) : ∃ v, σ[i]? = some (some v) ∧ RR K φ H v r := e.at_ i r h
theorem ER.set (e : ER K φ H σ env) (h : RR K φ H v r) (i : Nat) : ER K φ H (σ.set i (some v)) (env.set i (some r)) := ⟨by rw [List.length_set, List.length_set]; exact e.len, fun j r' he => by
  by_cases hj : j = i
  · subst hj
    have hlt : j < env.length := by
      have := (List.getElem?_eq_some_iff.mp he).1
      rwa [List.length_set] at this
    rw [List.getElem?_set_self hlt] at he
    cases he
    exact ⟨v, by rw [List.getElem?_set_self (by rw [e.len]; exact hlt)], h⟩
  · rw [List.getElem?_set_ne (fun z => hj z.symm)] at he ⊢
    exact e.at_ j r' he⟩
end

/-! ### readings of functions -/
abbrev EF := Sl → M → Option (R × M)
abbrev AF := Sl → M → Option (List R × M)
abbrev TF := Sl → M → Option (Bool × M)
def tE (ζ : Tbs) (K : PySem.W.Frag) (f : EF) : TE := fun σ H Q => ∃ φ env m r m', SR ζ K φ H m ∧ ER K φ H σ env ∧ f env m = some (r, m') ∧
  ∀ φ' H' v, Gr φ H φ' H' → SR ζ K φ' H' m' → RR K φ' H' v r → Q v H'
def tA (ζ : Tbs) (K : PySem.W.Frag) (f : AF) : TA := fun σ H Q => ∃ φ env m rs m', SR ζ K φ H m ∧ ER K φ H σ env ∧ f env m = some (rs, m') ∧
  ∀ φ' H' vs, Gr φ H φ' H' → SR ζ K φ' H' m' → RRs K φ' H' vs rs → Q vs H'
def tT (ζ : Tbs) (K : PySem.W.Frag) (f : TF) : TT := fun σ H Q => ∃ φ env m b m', SR ζ K φ H m ∧ ER K φ H σ env ∧ f env m = some (b, m') ∧
  ∀ φ' H', Gr φ H φ' H' → SR ζ K φ' H' m' → Q b H'
/-- an operation of two values -/
def r2P (ζ : Tbs) (K : PySem.W.Frag) (p : R → R → M → Option (R × M)) : R2 := fun x y H Q => ∃ φ m r1 r2 r m', SR ζ K φ H m ∧ RR K φ H x r1 ∧ RR K φ H y r2 ∧ p r1 r2 m = some (r, m') ∧
  ∀ φ' H' v, Gr φ H φ' H' → SR ζ K φ' H' m' → RR K φ' H' v r → Q v H'
def r1P (ζ : Tbs) (K : PySem.W.Frag) (p : R → M → Option (R × M)) : V → Hp → VK → Prop := fun x H Q => ∃ φ m r1 r m', SR ζ K φ H m ∧ RR K φ H x r1 ∧ p r1 m = some (r, m') ∧
  ∀ φ' H' v, Gr φ H φ' H' → SR ζ K φ' H' m' → RR K φ' H' v r → Q v H'
def rsP (ζ : Tbs) (K : PySem.W.Frag) (p : List R → M → Option (R × M)) : List V → Hp → VK → Prop := fun xs H Q => ∃ φ m rs r m', SR ζ K φ H m ∧ RRs K φ H xs rs ∧ p rs m = some (r, m') ∧
  ∀ φ' H' v, Gr φ H φ' H' → SR ζ K φ' H' m' → RR K φ' H' v r → Q v H'

theorem pe_imp {X : Cx} {e : Expr} {t t' : TE} (h : PE X e t) (k : ∀ σ H Q, t' σ H Q → t σ H Q) : PE X e t' := ⟨fun pins s σ H Q I q => h.run pins s σ H Q I (k σ H Q q)⟩
theorem pt_imp {X : Cx} {e : Expr} {t t' : TT} (h : PT X e t) (k : ∀ σ H Q, t' σ H Q → t σ H Q) : PT X e t' := ⟨fun pins s σ H Q I q => h.run pins s σ H Q I (k σ H Q q)⟩
theorem pw_imp {X : Cx} {e : Expr} {t t' : TT} (h : PW X e t) (k : ∀ σ H Q, t' σ H Q → t σ H Q) : PW X e t' := ⟨fun wh pins s σ H Q I q => h.run wh pins s σ H Q I (k σ H Q q)⟩
theorem pa_imp {X : Cx} {e : List Expr} {t t' : TA} (h : PA X e t) (k : ∀ σ H Q, t' σ H Q → t σ H Q) : PA X e t' := ⟨fun ps pins s σ H Q I q => h.run ps pins s σ H Q I (k σ H Q q)⟩
theorem ps_imp {X : Cx} {e : Stmt} {t t' : TS} (h : PS X e t) (k : ∀ D σ H, t' D σ H → t D σ H) : PS X e t' := ⟨fun pins s σ H D I q => h.run pins s σ H D I (k D σ H q)⟩
theorem pss_imp {X : Cx} {e : List Stmt} {t t' : TS} (h : PSs X e t) (k : ∀ D σ H, t' D σ H → t D σ H) : PSs X e t' := ⟨fun pins s σ H D I q => h.run pins s σ H D I (k D σ H q)⟩
theorem pi_imp {X : Cx} {tg e : Expr} {t t' : TI} (h : PI X tg e t) (k : ∀ σ H R, t' σ H R → t σ H R) : PI X tg e t' := ⟨fun pins s σ H R I q => h.run pins s σ H R I (k σ H R q)⟩

/-! ### the functions -/
def eVar (i : Nat) : EF := fun env m => match env[i]? with
  | some (some r) => some (r, m)
  | _ => none
def eC (d : D) : EF := fun _ m => some (.val d, m)
def eBin (p : R → R → M → Option (R × M)) (f g : EF) : EF := fun env m => (f env m).bind fun x => (g env x.2).bind fun y => p x.1 y.1 y.2
def eUn (p : R → M → Option (R × M)) (f : EF) : EF := fun env m => (f env m).bind fun x => p x.1 x.2
def aNil : AF := fun _ m => some ([], m)
def aCons (f : EF) (g : AF) : AF := fun env m => (f env m).bind fun x => (g env x.2).bind fun y => some (x.1 :: y.1, y.2)
def eAp (p : List R → M → Option (R × M)) (f : AF) : EF := fun env m => (f env m).bind fun x => p x.1 x.2
def asB : R → Option Bool
  | .val (.bool b) => some b
  | _ => none
def tOf (f : EF) : TF := fun env m => (f env m).bind fun x => (asB x.1).bind fun b => some (b, x.2)
def tNotF (f : TF) : TF := fun env m => (f env m).bind fun x => some (!x.1, x.2)
def tAndF (f g : TF) : TF := fun env m => (f env m).bind fun x => if x.1 = true then g env x.2 else some (false, x.2)
def tOrF (f g : TF) : TF := fun env m => (f env m).bind fun x => if x.1 = true then some (true, x.2) else g env x.2
def eOf (f : TF) : EF := fun env m => (f env m).bind fun x => some (.val (.bool x.1), x.2)
def eIf (c : TF) (f g : EF) : EF := fun env m => (c env m).bind fun x => if x.1 = true then f env x.2 else g env x.2
/-- a op b op' c -/
def eChain (p q : R → R → M → Option (R × M)) (f g h : EF) : EF := fun env m => (f env m).bind fun x => (g env x.2).bind fun y => (p x.1 y.1 y.2).bind fun z =>
  (asB z.1).bind fun b => if b = true then (h env z.2).bind fun w => q y.1 w.1 w.2 else some (.val (.bool false), z.2)
theorem bind_some_iff {α β : Type} {o : Option α} {f : α → Option β} {b : β} (h : o.bind f = some b) : ∃ a, o = some a ∧ f a = some b := by
  cases o with
  | none => cases h
  | some a => exact ⟨a, rfl, h⟩
theorem asB_some {r : R} {b : Bool} (h : asB r = some b) : r = .val (.bool b) := by
  cases r with
  | ref i => cases h
  | val d =>
    cases d with
    | bool c =>
      cases h
      rfl
    | _ => cases h
theorem rr_bool {K : PySem.W.Frag} {φ : Ad} {H : Hp} {v : V} {b : Bool} (h : RR K φ H v (.val (.bool b))) : v = .bl b := by
  have h' : Dp K (off φ H) v (.bool b) := h
  cases h'
  rfl

section
variable {X : Cx} {a b c e : Expr} {es : List Expr} {f g h : EF} {fa : AF} {tf tg : TF} {pos : Pos}
theorem x_var {i : Nat} {x : Str} (hp : PE X (.Name x pos) (tVar i)) : PE X (.Name x pos) (tE ζ X.K (eVar i)) := pe_imp hp fun σ H Q q => by
  obtain ⟨φ, env, m, r, m', S, E, hf, k⟩ := q
  have hr : env[i]? = some (some r) ∧ m = m' := by
    unfold eVar at hf
    split at hf
    · rename_i r' h
      cases hf
      exact ⟨h, rfl⟩
    · cases hf
  obtain ⟨v, h1, h2⟩ := E.get hr.1
  exact ⟨v, h1, k φ H v .refl (hr.2 ▸ S) h2⟩
theorem x_c {d : D} {v : V} (hp : PE X e (tC v)) (hv : ∀ H, Dp X.K H v d) : PE X e (tE ζ X.K (eC d)) := pe_imp hp fun σ H Q q => by
  obtain ⟨φ, env, m, r, m', S, E, hf, k⟩ := q
  cases hf
  exact k φ H v .refl S (hv _)
theorem x_int {i : Int} {j : Nat} : PE X (.Constant (.int i) j pos) (tE ζ X.K (eC (.int i))) := x_c pe_int fun _ => .int i
theorem x_bl {i : Bool} {j : Nat} : PE X (.Constant (.bool i) j pos) (tE ζ X.K (eC (.bool i))) := x_c pe_bl fun _ => .bl i
theorem x_non {j : Nat} : PE X (.Constant .none j pos) (tE ζ X.K (eC .none)) := x_c pe_non fun _ => .non
theorem x_str {z : Str} {j : Nat} : PE X (.Constant (.str z) j pos) (tE ζ X.K (eC (.str z))) := x_c pe_str fun _ => .str z
/-- two values one after the other, then an operation -/
theorem two_imp {K : PySem.W.Frag} {p : R → R → M → Option (R × M)} {σ : L2.St} {H : Hp} {Q : VK} (q : tE ζ K (eBin p f g) σ H Q) : tOp (r2P ζ K p) (tE ζ K f) (tE ζ K g) σ H Q := by
  obtain ⟨φ, env, m, r, m', S, E, hf, k⟩ := q
  obtain ⟨⟨r1, m1⟩, h1, hf⟩ := bind_some_iff hf
  obtain ⟨⟨r2, m2⟩, h2, hf⟩ := bind_some_iff hf
  refine ⟨φ, env, m, r1, m1, S, E, h1, fun φ1 H1 v1 g1 S1 R1 => ?_⟩
  refine ⟨φ1, env, m1, r2, m2, S1, E.mono g1, h2, fun φ2 H2 v2 g2 S2 R2 => ?_⟩
  exact ⟨φ2, m2, r1, r2, r, m', S2, R1.mono g2, R2, hf, fun φ3 H3 v3 g3 S3 R3 => k φ3 H3 v3 (g1.trans (g2.trans g3)) S3 R3⟩
theorem x_bin {op : Operator} {p : R → R → M → Option (R × M)} (ho : OpR X (binaryOp op) (r2P ζ X.K p)) (ha : PE X a (tE ζ X.K f)) (hb : PE X b (tE ζ X.K g)) : PE X (.BinOp a op b pos) (tE ζ X.K (eBin p f g)) :=
  pe_imp (pe_op ho ha hb) fun _ _ _ q => two_imp q
theorem x_cmp {op : CmpOp} {p : R → R → M → Option (R × M)} (ho : OpR X (compareOp op) (r2P ζ X.K p)) (ha : PE X a (tE ζ X.K f)) (hb : PE X b (tE ζ X.K g)) (hm : behindInMarks op b = false) : PE X (.Compare a [op] [b] pos) (tE ζ X.K (eBin p f g)) :=
  pe_imp (pe_cmpR ho ha hb hm) fun _ _ _ q => two_imp q
theorem x_un {op : UnaryOp} {p : R → M → Option (R × M)} (ho : UnR X (unaryOp op) (r1P ζ X.K p)) (ha : PE X a (tE ζ X.K f)) : PE X (.UnaryOp op a pos) (tE ζ X.K (eUn p f)) :=
  pe_imp (pe_un ho ha) fun σ H Q q => by
    obtain ⟨φ, env, m, r, m', S, E, hf, k⟩ := q
    obtain ⟨⟨r1, m1⟩, h1, hf⟩ := bind_some_iff hf
    refine ⟨φ, env, m, r1, m1, S, E, h1, fun φ1 H1 v1 g1 S1 R1 => ?_⟩
    exact ⟨φ1, m1, r1, r, m', S1, R1, hf, fun φ3 H3 v3 g3 S3 R3 => k φ3 H3 v3 (g1.trans g3) S3 R3⟩
/-- a value known to be a bool, as a test -/
theorem tst_imp {K : PySem.W.Frag} {σ : L2.St} {H : Hp} {Q : Bool → Hp → Prop} (q : tT ζ K (tOf f) σ H Q) : tTest (tE ζ K f) σ H Q := by
  obtain ⟨φ, env, m, r, m', S, E, hf, k⟩ := q
  obtain ⟨⟨r1, m1⟩, h1, hf⟩ := bind_some_iff hf
  obtain ⟨b, hb, hf⟩ := bind_some_iff hf
  cases hf
  have hb' := asB_some hb
  simp only at hb'
  subst hb'
  exact ⟨φ, env, m, _, m1, S, E, h1, fun φ1 H1 v1 g1 S1 R1 => ⟨_, rr_bool R1, k φ1 H1 g1 S1⟩⟩
theorem y_cmp {op : CmpOp} {p : R → R → M → Option (R × M)} (ho : OpR X (compareOp op) (r2P ζ X.K p)) (ha : PE X a (tE ζ X.K f)) (hb : PE X b (tE ζ X.K g)) (hm : behindInMarks op b = false) : PT X (.Compare a [op] [b] pos) (tT ζ X.K (tOf (eBin p f g))) :=
  pt_imp (pt_cmpR ho ha hb hm) fun σ H Q q => by
    have h1 := tst_imp q
    exact two_imp (Q := fun x H' => ∃ k, x = .bl k ∧ Q k H') h1
/-- any expression without a way of its own as a test -/
theorem y_val (he : PE X e (tE ζ X.K f)) (hw : ∀ whole, isTrue e X.env whole = (do let v ← whole; standAt e.pos; holding [v] (truthy v)) := by intro _; rfl) : PT X e (tT ζ X.K (tOf f)) :=
  pt_imp (pt_val he hw) fun _ _ _ q => tst_imp q
theorem chain_imp {K : PySem.W.Frag} {p p' : R → R → M → Option (R × M)} {σ : L2.St} {H : Hp} {Q : VK} (q : tE ζ K (eChain p p' f g h) σ H Q) : tChain (r2P ζ K p) (r2P ζ K p') (tE ζ K f) (tE ζ K g) (tE ζ K h) σ H Q := by
  obtain ⟨φ, env, m, r, m', S, E, hf, k⟩ := q
  obtain ⟨⟨r1, m1⟩, h1, hf⟩ := bind_some_iff hf
  obtain ⟨⟨r2, m2⟩, h2, hf⟩ := bind_some_iff hf
  obtain ⟨⟨r3, m3⟩, h3, hf⟩ := bind_some_iff hf
  obtain ⟨b, hb, hf⟩ := bind_some_iff hf
  have hb' := asB_some hb
  simp only at hb'
  subst hb'
  refine ⟨φ, env, m, r1, m1, S, E, h1, fun φ1 H1 v1 g1 S1 R1 => ?_⟩
  refine ⟨φ1, env, m1, r2, m2, S1, E.mono g1, h2, fun φ2 H2 v2 g2 S2 R2 => ?_⟩
  refine ⟨φ2, m2, r1, r2, _, m3, S2, R1.mono g2, R2, h3, fun φ3 H3 v3 g3 S3 R3 => ⟨b, rr_bool R3, ?_⟩⟩
  cases b with
  | false =>
    rw [if_neg Bool.false_ne_true]
    simp only [Bool.false_eq_true, if_false] at hf
    cases hf
    exact k φ3 H3 _ (g1.trans (g2.trans g3)) S3 (Dp.bl false)
  | true =>
    rw [if_pos rfl]
    simp only [if_true] at hf
    obtain ⟨⟨r4, m4⟩, h4, hf⟩ := bind_some_iff hf
    refine ⟨φ3, env, m3, r4, m4, S3, E.mono (g1.trans (g2.trans g3)), h4, fun φ4 H4 v4 g4 S4 R4 => ?_⟩
    exact ⟨φ4, m4, r2, r4, r, m', S4, R2.mono (g3.trans g4), R4, hf, fun φ5 H5 v5 g5 S5 R5 => k φ5 H5 v5 (g1.trans (g2.trans (g3.trans (g4.trans g5)))) S5 R5⟩
theorem x_chain {op op' : CmpOp} {p p' : R → R → M → Option (R × M)} (ho : OpR X (compareOp op) (r2P ζ X.K p)) (ho' : OpR X (compareOp op') (r2P ζ X.K p')) (ha : PE X a (tE ζ X.K f)) (hb : PE X b (tE ζ X.K g)) (hc : PE X c (tE ζ X.K h))
    (hm : lastMarks [op, op'] [b, c] = false := by with_unfolding_all rfl) : PE X (.Compare a [op, op'] [b, c] pos) (tE ζ X.K (eChain p p' f g h)) :=
  pe_imp (pe_chain ho ho' ha hb hc hm) fun _ _ _ q => chain_imp q
theorem y_chain {op op' : CmpOp} {p p' : R → R → M → Option (R × M)} (ho : OpR X (compareOp op) (r2P ζ X.K p)) (ho' : OpR X (compareOp op') (r2P ζ X.K p')) (ha : PE X a (tE ζ X.K f)) (hb : PE X b (tE ζ X.K g)) (hc : PE X c (tE ζ X.K h))
    (hm : lastMarks [op, op'] [b, c] = false := by with_unfolding_all rfl) : PT X (.Compare a [op, op'] [b, c] pos) (tT ζ X.K (tOf (eChain p p' f g h))) :=
  pt_imp (pt_chain ho ho' ha hb hc hm) fun σ H Q q => by
    have h1 := tst_imp q
    exact chain_imp (Q := fun x H' => ∃ k, x = .bl k ∧ Q k H') h1
theorem y_not (ha : PT X a (tT ζ X.K tf)) : PT X (.UnaryOp .Not a pos) (tT ζ X.K (tNotF tf)) := pt_imp (pt_not ha) fun σ H Q q => by
  obtain ⟨φ, env, m, r, m', S, E, hf, k⟩ := q
  obtain ⟨⟨r1, m1⟩, h1, hf⟩ := bind_some_iff hf
  cases hf
  exact ⟨φ, env, m, r1, m1, S, E, h1, fun φ1 H1 g1 S1 => k φ1 H1 g1 S1⟩
theorem w_and1 (ha : PT X a (tT ζ X.K tf)) : PW X (.BoolOp .And [a] pos) (tT ζ X.K tf) := pw_and1 ha
theorem w_or1 (ha : PT X a (tT ζ X.K tf)) : PW X (.BoolOp .Or [a] pos) (tT ζ X.K tf) := pw_or1 ha
theorem w_and (ha : PT X a (tT ζ X.K tf)) (hb : PW X (.BoolOp .And (b :: es) pos) (tT ζ X.K tg)) : PW X (.BoolOp .And (a :: b :: es) pos) (tT ζ X.K (tAndF tf tg)) := pw_imp (pw_and ha hb) fun σ H Q q => by
  obtain ⟨φ, env, m, r, m', S, E, hf, k⟩ := q
  obtain ⟨⟨r1, m1⟩, h1, hf⟩ := bind_some_iff hf
  refine ⟨φ, env, m, r1, m1, S, E, h1, fun φ1 H1 g1 S1 => ?_⟩
  cases r1 with
  | false =>
    rw [if_neg Bool.false_ne_true]
    simp only [Bool.false_eq_true, if_false] at hf
    cases hf
    exact k φ1 H1 g1 S1
  | true =>
    rw [if_pos rfl]
    simp only [if_true] at hf
    exact ⟨φ1, env, m1, r, m', S1, E.mono g1, hf, fun φ2 H2 g2 S2 => k φ2 H2 (g1.trans g2) S2⟩
theorem w_or (ha : PT X a (tT ζ X.K tf)) (hb : PW X (.BoolOp .Or (b :: es) pos) (tT ζ X.K tg)) : PW X (.BoolOp .Or (a :: b :: es) pos) (tT ζ X.K (tOrF tf tg)) := pw_imp (pw_or ha hb) fun σ H Q q => by
  obtain ⟨φ, env, m, r, m', S, E, hf, k⟩ := q
  obtain ⟨⟨r1, m1⟩, h1, hf⟩ := bind_some_iff hf
  refine ⟨φ, env, m, r1, m1, S, E, h1, fun φ1 H1 g1 S1 => ?_⟩
  cases r1 with
  | true =>
    rw [if_pos rfl]
    simp only [if_true] at hf
    cases hf
    exact k φ1 H1 g1 S1
  | false =>
    rw [if_neg Bool.false_ne_true]
    simp only [Bool.false_eq_true, if_false] at hf
    exact ⟨φ1, env, m1, r, m', S1, E.mono g1, hf, fun φ2 H2 g2 S2 => k φ2 H2 (g1.trans g2) S2⟩
/-- the same as values (bools) -/
theorem x_not (ha : PE X a (tE ζ X.K (eOf tf))) : PE X (.UnaryOp .Not a pos) (tE ζ X.K (eOf (tNotF tf))) := pe_imp (pe_not ha) fun σ H Q q => by
  obtain ⟨φ, env, m, r, m', S, E, hf, k⟩ := q
  obtain ⟨⟨r0, m0⟩, h0, hf⟩ := bind_some_iff hf
  obtain ⟨⟨r1, m1⟩, h1, h0⟩ := bind_some_iff h0
  cases h0
  cases hf
  exact ⟨φ, env, m, .val (.bool r1), m1, S, E, by unfold eOf; rw [h1]; rfl, fun φ1 H1 v1 g1 S1 R1 => ⟨r1, rr_bool R1, k φ1 H1 _ g1 S1 (Dp.bl _)⟩⟩
theorem x_eOf (ha : PE X a (tE ζ X.K f)) : PE X a (tE ζ X.K (eOf (tOf f))) := pe_imp ha fun σ H Q q => by
  obtain ⟨φ, env, m, r, m', S, E, hf, k⟩ := q
  obtain ⟨⟨r0, m0⟩, h0, hf⟩ := bind_some_iff hf
  obtain ⟨⟨r1, m1⟩, h1, h0⟩ := bind_some_iff h0
  obtain ⟨b, hb, h0⟩ := bind_some_iff h0
  cases h0
  cases hf
  have hb' := asB_some hb
  simp only at hb'
  subst hb'
  exact ⟨φ, env, m, _, m1, S, E, h1, fun φ1 H1 v1 g1 S1 R1 => k φ1 H1 v1 g1 S1 R1⟩
theorem x_and1 (ha : PE X a (tE ζ X.K (eOf tf))) : PE X (.BoolOp .And [a] pos) (tE ζ X.K (eOf tf)) := pe_one ha
theorem x_or1 (ha : PE X a (tE ζ X.K (eOf tf))) : PE X (.BoolOp .Or [a] pos) (tE ζ X.K (eOf tf)) := pe_one ha
theorem x_and (ha : PE X a (tE ζ X.K (eOf tf))) (hb : PE X (.BoolOp .And (b :: es) pos) (tE ζ X.K (eOf tg))) : PE X (.BoolOp .And (a :: b :: es) pos) (tE ζ X.K (eOf (tAndF tf tg))) := pe_imp (pe_and ha hb) fun σ H Q q => by
  obtain ⟨φ, env, m, r, m', S, E, hf, k⟩ := q
  obtain ⟨⟨r0, m0⟩, h0, hf⟩ := bind_some_iff hf
  obtain ⟨⟨r1, m1⟩, h1, h0⟩ := bind_some_iff h0
  cases hf
  refine ⟨φ, env, m, .val (.bool r1), m1, S, E, by unfold eOf; rw [h1]; rfl, fun φ1 H1 v1 g1 S1 R1 => ⟨r1, rr_bool R1, ?_⟩⟩
  cases r1 with
  | false =>
    rw [if_neg Bool.false_ne_true]
    simp only [Bool.false_eq_true, if_false] at h0
    cases h0
    exact k φ1 H1 _ g1 S1 (Dp.bl _)
  | true =>
    rw [if_pos rfl]
    simp only [if_true] at h0
    exact ⟨φ1, env, m1, _, m0, S1, E.mono g1, by unfold eOf; rw [h0]; rfl, fun φ2 H2 v2 g2 S2 R2 => k φ2 H2 v2 (g1.trans g2) S2 R2⟩
theorem x_or (ha : PE X a (tE ζ X.K (eOf tf))) (hb : PE X (.BoolOp .Or (b :: es) pos) (tE ζ X.K (eOf tg))) : PE X (.BoolOp .Or (a :: b :: es) pos) (tE ζ X.K (eOf (tOrF tf tg))) := pe_imp (pe_or ha hb) fun σ H Q q => by
  obtain ⟨φ, env, m, r, m', S, E, hf, k⟩ := q
  obtain ⟨⟨r0, m0⟩, h0, hf⟩ := bind_some_iff hf
  obtain ⟨⟨r1, m1⟩, h1, h0⟩ := bind_some_iff h0
  cases hf
  refine ⟨φ, env, m, .val (.bool r1), m1, S, E, by unfold eOf; rw [h1]; rfl, fun φ1 H1 v1 g1 S1 R1 => ⟨r1, rr_bool R1, ?_⟩⟩
  cases r1 with
  | true =>
    rw [if_pos rfl]
    simp only [if_true] at h0
    cases h0
    exact k φ1 H1 _ g1 S1 (Dp.bl _)
  | false =>
    rw [if_neg Bool.false_ne_true]
    simp only [Bool.false_eq_true, if_false] at h0
    exact ⟨φ1, env, m1, _, m0, S1, E.mono g1, by unfold eOf; rw [h0]; rfl, fun φ2 H2 v2 g2 S2 R2 => k φ2 H2 v2 (g1.trans g2) S2 R2⟩
theorem x_if (hc : PT X c (tT ζ X.K tf)) (ha : PE X a (tE ζ X.K f)) (hb : PE X b (tE ζ X.K g)) : PE X (.IfExp c a b pos) (tE ζ X.K (eIf tf f g)) := pe_imp (pe_ifExp hc ha hb) fun σ H Q q => by
  obtain ⟨φ, env, m, r, m', S, E, hf, k⟩ := q
  obtain ⟨⟨r1, m1⟩, h1, hf⟩ := bind_some_iff hf
  refine ⟨φ, env, m, r1, m1, S, E, h1, fun φ1 H1 g1 S1 => ?_⟩
  cases r1 with
  | false =>
    rw [if_neg Bool.false_ne_true]
    simp only [Bool.false_eq_true, if_false] at hf
    exact ⟨φ1, env, m1, r, m', S1, E.mono g1, hf, fun φ2 H2 v2 g2 S2 R2 => k φ2 H2 v2 (g1.trans g2) S2 R2⟩
  | true =>
    rw [if_pos rfl]
    simp only [if_true] at hf
    exact ⟨φ1, env, m1, r, m', S1, E.mono g1, hf, fun φ2 H2 v2 g2 S2 R2 => k φ2 H2 v2 (g1.trans g2) S2 R2⟩
theorem x_nil : PA X [] (tA ζ X.K aNil) := pa_imp pa_nil fun σ H Q q => by
  obtain ⟨φ, env, m, r, m', S, E, hf, k⟩ := q
  cases hf
  exact k φ H [] .refl S .nil
theorem x_cons (ha : PE X e (tE ζ X.K f)) (hr : PA X es (tA ζ X.K fa)) (hs : starEach (e :: es) X.env = (false, eval e X.env) :: starEach es X.env := by rfl) : PA X (e :: es) (tA ζ X.K (aCons f fa)) := pa_imp (pa_cons ha hr hs) fun σ H Q q => by
  obtain ⟨φ, env, m, r, m', S, E, hf, k⟩ := q
  obtain ⟨⟨r1, m1⟩, h1, hf⟩ := bind_some_iff hf
  obtain ⟨⟨r2, m2⟩, h2, hf⟩ := bind_some_iff hf
  cases hf
  refine ⟨φ, env, m, r1, m1, S, E, h1, fun φ1 H1 v1 g1 S1 R1 => ?_⟩
  exact ⟨φ1, env, m1, r2, m2, S1, E.mono g1, h2, fun φ2 H2 v2 g2 S2 R2 => k φ2 H2 _ (g1.trans g2) S2 (.cons (R1.mono g2) R2)⟩
/-- all of them data -/
def vals : List R → Option (List D)
  | [] => some []
  | .val d :: rs => (vals rs).bind fun ds => some (d :: ds)
  | .ref _ :: _ => none
theorem vals_rr {K : PySem.W.Frag} {φ : Ad} {H : Hp} : ∀ {rs : List R} {ds : List D} {vs : List V}, vals rs = some ds → RRs K φ H vs rs → DpAll K (off φ H) vs ds
  | [], _, _, e, h => by
    cases e
    cases h
    exact .nil
  | .val d :: rs, _, _, e, h => by
    obtain ⟨ds', e1, e2⟩ := bind_some_iff e
    cases e2
    cases h with
    | cons a t => exact .cons a (vals_rr e1 t)
  | .ref _ :: _, _, _, e, _ => by cases e
def pTup (rs : List R) (m : M) : Option (R × M) := (vals rs).bind fun ds => if ds.length ≤ sizeLine then some (.val (.tuple ds), m) else none
def pLst (rs : List R) (m : M) : Option (R × M) := (vals rs).bind fun ds => if ds.length ≤ sizeLine then some (.val (.list ds), m) else none
theorem rr_newT {K : PySem.W.Frag} {φ : Ad} {H : Hp} {m : M} {vs : List V} {ds : List D} {p : Addr} (S : SR ζ K φ H m) (hp : H p = none) (h : DpAll K (off φ H) vs ds) : RR K φ (upd H p (.tup vs)) (.ref p) (.val (.tuple ds)) :=
  Dp.tup (.inl (.inl (off_some.mpr ⟨S.new hp, upd_same, rfl⟩))) (dps_mono (gr_alloc hp).same h)
theorem rr_newL {K : PySem.W.Frag} {φ : Ad} {H : Hp} {m : M} {vs : List V} {ds : List D} {p : Addr} (S : SR ζ K φ H m) (hp : H p = none) (h : DpAll K (off φ H) vs ds) : RR K φ (upd H p (.lst vs)) (.ref p) (.val (.list ds)) :=
  Dp.lst (.inl (.inl (off_some.mpr ⟨S.new hp, upd_same, rfl⟩))) (dps_mono (gr_alloc hp).same h)
theorem x_tup {x1} (h : PA X es (tA ζ X.K fa)) : PE X (.Tuple es x1 pos) (tE ζ X.K (eAp pTup fa)) := pe_imp (pe_tup h) fun σ H Q q => by
  obtain ⟨φ, env, m, r, m', S, E, hf, k⟩ := q
  obtain ⟨⟨rs, m1⟩, h1, hf⟩ := bind_some_iff hf
  obtain ⟨ds, h2, hf⟩ := bind_some_iff hf
  split at hf
  · rename_i hl
    cases hf
    refine ⟨φ, env, m, rs, m1, S, E, h1, fun φ1 H1 vs g1 S1 R1 => ?_⟩
    have hd := vals_rr h2 R1
    exact ⟨by rw [DpAll.len hd]; exact hl, fun p hp => k φ1 _ _ (g1.trans (gr_alloc hp)) (S1.alloc hp) (rr_newT S1 hp hd)⟩
  · cases hf
theorem x_lst (h : PA X es (tA ζ X.K fa)) : PE X (.List es pos) (tE ζ X.K (eAp pLst fa)) := pe_imp (pe_lst h) fun σ H Q q => by
  obtain ⟨φ, env, m, r, m', S, E, hf, k⟩ := q
  obtain ⟨⟨rs, m1⟩, h1, hf⟩ := bind_some_iff hf
  obtain ⟨ds, h2, hf⟩ := bind_some_iff hf
  split at hf
  · rename_i hl
    cases hf
    refine ⟨φ, env, m, rs, m1, S, E, h1, fun φ1 H1 vs g1 S1 R1 => ?_⟩
    have hd := vals_rr h2 R1
    exact ⟨by rw [DpAll.len hd]; exact hl, fun p hp => k φ1 _ _ (g1.trans (gr_alloc hp)) (S1.alloc hp) (rr_newL S1 hp hd)⟩
  · cases hf
/-- a call of a builtin by values -/
theorem ap_imp {K : PySem.W.Frag} {p : List R → M → Option (R × M)} {σ : L2.St} {H : Hp} {Q : VK} (q : tE ζ K (eAp p fa) σ H Q) : tCB (rsP ζ K p) (tA ζ K fa) σ H Q := by
  obtain ⟨φ, env, m, r, m', S, E, hf, k⟩ := q
  obtain ⟨⟨rs, m1⟩, h1, hf⟩ := bind_some_iff hf
  exact ⟨φ, env, m, rs, m1, S, E, h1, fun φ1 H1 vs g1 S1 R1 => ⟨φ1, m1, rs, r, m', S1, R1, hf, fun φ2 H2 v g2 S2 R2 => k φ2 H2 v (g1.trans g2) S2 R2⟩⟩
theorem x_callB {id : String} {x : Str} {p0 : Pos} {p : List R → M → Option (R × M)} (hc : CallR X (.builtin id) (rsP ζ X.K p)) (hg : Gl X x) (hm : X.mg x = none) (hv : bootBuiltins x = some (.builtin id)) (ha : PA X (e :: es) (tA ζ X.K fa)) (hn : x ≠ "__name__" := by decide) (hdb : (x == ("__debug__" : Str)) = false := by decide)
    (he : starEach (e :: es) X.env = (false, eval e X.env) :: starEach es X.env := by rfl) (hpl : (backTo pos (starEach es X.env)).any (·.1) = false := by rfl) : PE X (.Call (.Name x p0) (e :: es) [] pos) (tE ζ X.K (eAp p fa)) :=
  pe_imp (pe_callB hc hg hm hv ha hn hdb he hpl) fun _ _ _ q => ap_imp q
theorem x_callTy {T : String} {x : Str} {p0 : Pos} {p : List R → M → Option (R × M)} (hc : CallR X (.type T) (rsP ζ X.K p)) (hg : Gl X x) (hm : X.mg x = none) (hv : bootBuiltins x = some (.type T)) (ha : PA X (e :: es) (tA ζ X.K fa)) (hn : x ≠ "__name__" := by decide) (hdb : (x == ("__debug__" : Str)) = false := by decide)
    (he : starEach (e :: es) X.env = (false, eval e X.env) :: starEach es X.env := by rfl) (hpl : (backTo pos (starEach es X.env)).any (·.1) = false := by rfl) : PE X (.Call (.Name x p0) (e :: es) [] pos) (tE ζ X.K (eAp p fa)) :=
  pe_imp (pe_callTy hc hg hm hv ha hn hdb he hpl) fun _ _ _ q => ap_imp q
end
end Ev

set_option Elab.async false
set_option linter.all false
set_option maxRecDepth 100000
/-! Statements, loops, functions. -/
namespace Ev
open PySem PySem.Spec PyProof.Rows L2

inductive Fl where
  | nx (env : Sl) (m : M)
  | rt (r : R) (m : M)
  | bk (env : Sl) (m : M)
  | ct (env : Sl) (m : M)
abbrev SF := Sl → M → Option Fl
abbrev GF := R → Sl → M → Option (Sl × M)
abbrev GsF := List R → Sl → M → Option (Sl × M)

def EnvK (ζ : Tbs) (K : PySem.W.Frag) (φ : Ad) (H : Hp) (env : Sl) (m : M) (Q : L2.St → Hp → Prop) : Prop := ∀ φ' σ' H', Gr φ H φ' H' → SR ζ K φ' H' m → ER K φ' H' σ' env → Q σ' H'
def ValK (ζ : Tbs) (K : PySem.W.Frag) (φ : Ad) (H : Hp) (r : R) (m : M) (Q : VK) : Prop := ∀ φ' H' v, Gr φ H φ' H' → SR ζ K φ' H' m → RR K φ' H' v r → Q v H'
def FlOk (ζ : Tbs) (K : PySem.W.Frag) (φ : Ad) (H : Hp) (W : Ends) : Fl → Prop
  | .nx env m => EnvK ζ K φ H env m W.nx
  | .rt r m => ValK ζ K φ H r m W.rt
  | .bk env m => EnvK ζ K φ H env m W.bk
  | .ct env m => EnvK ζ K φ H env m W.ct
def tS (ζ : Tbs) (K : PySem.W.Frag) (f : SF) : TS := fun W σ H => ∃ φ env m fl, SR ζ K φ H m ∧ ER K φ H σ env ∧ f env m = some fl ∧ FlOk ζ K φ H W fl
def tG (ζ : Tbs) (K : PySem.W.Frag) (g : GF) : TG := fun v σ H Q => ∃ φ env m r env' m', SR ζ K φ H m ∧ ER K φ H σ env ∧ RR K φ H v r ∧ g r env m = some (env', m') ∧ EnvK ζ K φ H env' m' Q
def tGs (ζ : Tbs) (K : PySem.W.Frag) (g : GsF) : TGs := fun vs σ H Q => ∃ φ env m rs env' m', SR ζ K φ H m ∧ ER K φ H σ env ∧ RRs K φ H vs rs ∧ g rs env m = some (env', m') ∧ EnvK ζ K φ H env' m' Q
section
variable {K : PySem.W.Frag} {φ φ' : Ad} {H H' : Hp} {m : M} {env : Sl} {r : R} {Q : L2.St → Hp → Prop} {P : VK} {W : Ends} {fl : Fl}
theorem EnvK.mono (g : Gr φ H φ' H') (h : EnvK ζ K φ H env m Q) : EnvK ζ K φ' H' env m Q := fun _ _ _ g2 S E => h _ _ _ (g.trans g2) S E
theorem ValK.mono (g : Gr φ H φ' H') (h : ValK ζ K φ H r m P) : ValK ζ K φ' H' r m P := fun _ _ _ g2 S E => h _ _ _ (g.trans g2) S E
theorem FlOk.mono (g : Gr φ H φ' H') (h : FlOk ζ K φ H W fl) : FlOk ζ K φ' H' W fl := by
  cases fl with
  | nx e m => exact EnvK.mono g h
  | rt e m => exact ValK.mono g h
  | bk e m => exact EnvK.mono g h
  | ct e m => exact EnvK.mono g h
end
theorem tg_imp {X : Cx} {e : Expr} {t t' : TG} (h : PG X e t) (k : ∀ v σ H Q, t' v σ H Q → t v σ H Q) : PG X e t' := ⟨fun pins s σ H v u Q I r q => h.run pins s σ H v u Q I r (k v σ H Q q)⟩
theorem tgs_imp {X : Cx} {e : List Expr} {t t' : TGs} (h : PGs X e t) (k : ∀ v σ H Q, t' v σ H Q → t v σ H Q) : PGs X e t' := ⟨fun pins s σ H v u Q I r q => h.run pins s σ H v u Q I r (k v σ H Q q)⟩

/-! ### the functions -/
def sNext : SF := fun env m => some (.nx env m)
def sNever : SF := fun _ _ => none
def sBreak : SF := fun env m => some (.bk env m)
def sCont : SF := fun env m => some (.ct env m)
def thenF (fl : Fl) (g : SF) : Option Fl := match fl with
  | .nx e m => g e m
  | x => some x
def sSeq (f g : SF) : SF := fun env m => (f env m).bind fun fl => thenF fl g
def sRet (f : EF) : SF := fun env m => (f env m).bind fun x => some (.rt x.1 x.2)
def sRetN : SF := fun _ m => some (.rt (.val .none) m)
def sExpr (f : EF) : SF := fun env m => (f env m).bind fun x => some (.nx env x.2)
def sIf (c : TF) (f g : SF) : SF := fun env m => (c env m).bind fun x => if x.1 = true then f env x.2 else g env x.2
def sAsg (f : EF) (g : GF) : SF := fun env m => (f env m).bind fun x => (g x.1 env x.2).bind fun y => some (.nx y.1 y.2)
def gNm (i : Nat) : GF := fun r env m => some (env.set i (some r), m)
def gsNil : GsF := fun rs env m => match rs with
  | [] => some (env, m)
  | _ => none
def gsCons (g : GF) (h : GsF) : GsF := fun rs env m => match rs with
  | r :: rs => (g r env m).bind fun x => h rs x.1 x.2
  | [] => none
def gTp (n : Nat) (g : GsF) : GF := fun r env m => match r with
  | .val (.tuple ds) => if ds.length = n then g (ds.map R.val) env m else none
  | _ => none
/-- a, b = x, y by names -/
def sPar (i j : Nat) (f : AF) : SF := fun env m => (f env m).bind fun x => match x.1 with
  | [a, b] => some (.nx ((env.set i (some a)).set j (some b)) x.2)
  | _ => none

theorem dpAll_rrs {K : PySem.W.Frag} {φ : Ad} {H : Hp} : ∀ {ds : List D} {vs : List V}, DpAll K (off φ H) vs ds → RRs K φ H vs (ds.map R.val)
  | _, _, .nil => .nil
  | _, _, .cons a t => .cons a (dpAll_rrs t)
theorem off_same {φ : Ad} {H : Hp} : Same (off φ H) H := fun b o e => (off_some.mp e).2.1

section
variable {X : Cx} {e e2 c : Expr} {es : List Expr} {st : Stmt} {sts sts2 : List Stmt} {f : EF} {fa : AF} {tc : TF} {sf sg : SF} {gf : GF} {gsf : GsF} {pos : Pos}
theorem z_nil : PSs X [] (tS ζ X.K sNext) := pss_imp pss_nil fun W σ H q => by
  obtain ⟨φ, env, m, fl, S, E, hf, k⟩ := q
  cases hf
  exact k φ σ H .refl S E
theorem z_cons (h1 : PS X st (tS ζ X.K sf)) (h2 : PSs X sts (tS ζ X.K sg)) : PSs X (st :: sts) (tS ζ X.K (sSeq sf sg)) := pss_imp (pss_cons h1 h2) fun W σ H q => by
  obtain ⟨φ, env, m, fl, S, E, hf, k⟩ := q
  obtain ⟨fl1, h1, hf⟩ := bind_some_iff hf
  refine ⟨φ, env, m, fl1, S, E, h1, ?_⟩
  cases fl1 with
  | nx e1 m1 => exact fun φ1 σ1 H1 g1 S1 E1 => ⟨φ1, e1, m1, fl, S1, E1, hf, k.mono g1⟩
  | rt r1 m1 =>
    cases hf
    exact k
  | bk e1 m1 =>
    cases hf
    exact k
  | ct e1 m1 =>
    cases hf
    exact k
theorem z_one (h1 : PS X st (tS ζ X.K sf)) : PSs X [st] (tS ζ X.K sf) := pss_one h1
theorem s_pass : PS X (.Pass pos) (tS ζ X.K sNext) := ps_imp ps_pass fun W σ H q => by
  obtain ⟨φ, env, m, fl, S, E, hf, k⟩ := q
  cases hf
  exact k φ σ H .refl S E
theorem s_break : PS X (.Break pos) (tS ζ X.K sBreak) := ps_imp ps_break fun W σ H q => by
  obtain ⟨φ, env, m, fl, S, E, hf, k⟩ := q
  cases hf
  exact k φ σ H .refl S E
theorem s_cont : PS X (.Continue pos) (tS ζ X.K sCont) := ps_imp ps_continue fun W σ H q => by
  obtain ⟨φ, env, m, fl, S, E, hf, k⟩ := q
  cases hf
  exact k φ σ H .refl S E
theorem s_never : PS X st (tS ζ X.K sNever) := ps_imp ps_never fun W σ H q => by
  obtain ⟨φ, env, m, fl, S, E, hf, k⟩ := q
  cases hf
theorem s_expr (he : PE X e (tE ζ X.K f)) (hs : swapsWith e none pos.line X.env = pure false := by rfl) : PS X (.Expr e pos) (tS ζ X.K (sExpr f)) := ps_imp (ps_expr he hs) fun W σ H q => by
  obtain ⟨φ, env, m, fl, S, E, hf, k⟩ := q
  obtain ⟨⟨r1, m1⟩, h1, hf⟩ := bind_some_iff hf
  cases hf
  exact ⟨φ, env, m, r1, m1, S, E, h1, fun φ1 H1 v g1 S1 R1 => k φ1 σ H1 g1 S1 (E.mono g1)⟩
theorem s_ret (he : PE X e (tE ζ X.K f)) : PS X (.Return (some e) pos) (tS ζ X.K (sRet f)) := ps_imp (ps_ret he) fun W σ H q => by
  obtain ⟨φ, env, m, fl, S, E, hf, k⟩ := q
  obtain ⟨⟨r1, m1⟩, h1, hf⟩ := bind_some_iff hf
  cases hf
  exact ⟨φ, env, m, r1, m1, S, E, h1, fun φ1 H1 v g1 S1 R1 => k φ1 H1 v g1 S1 R1⟩
theorem s_retN : PS X (.Return none pos) (tS ζ X.K sRetN) := ps_imp ps_retN fun W σ H q => by
  obtain ⟨φ, env, m, fl, S, E, hf, k⟩ := q
  cases hf
  exact k φ H _ .refl S Dp.non
theorem s_if (hc : PT X c (tT ζ X.K tc)) (ha : PSs X sts (tS ζ X.K sf)) (hb : PSs X sts2 (tS ζ X.K sg)) : PS X (.If c sts sts2 pos) (tS ζ X.K (sIf tc sf sg)) := ps_imp (ps_if hc ha hb) fun W σ H q => by
  obtain ⟨φ, env, m, fl, S, E, hf, k⟩ := q
  obtain ⟨⟨r1, m1⟩, h1, hf⟩ := bind_some_iff hf
  refine ⟨φ, env, m, r1, m1, S, E, h1, fun φ1 H1 g1 S1 => ?_⟩
  cases r1 with
  | false =>
    rw [if_neg Bool.false_ne_true]
    simp only [Bool.false_eq_true, if_false] at hf
    exact ⟨φ1, env, m1, fl, S1, E.mono g1, hf, k.mono g1⟩
  | true =>
    rw [if_pos rfl]
    simp only [if_true] at hf
    exact ⟨φ1, env, m1, fl, S1, E.mono g1, hf, k.mono g1⟩
theorem g_imp {K : PySem.W.Frag} {W : Ends} {σ : L2.St} {H : Hp} (q : tS ζ K (sAsg f gf) W σ H) : tAsg (tE ζ K f) (tG ζ K gf) W σ H := by
  obtain ⟨φ, env, m, fl, S, E, hf, k⟩ := q
  obtain ⟨⟨r1, m1⟩, h1, hf⟩ := bind_some_iff hf
  obtain ⟨⟨e2, m2⟩, h2, hf⟩ := bind_some_iff hf
  cases hf
  exact ⟨φ, env, m, r1, m1, S, E, h1, fun φ1 H1 v g1 S1 R1 => ⟨φ1, env, m1, r1, e2, m2, S1, E.mono g1, R1, h2, EnvK.mono g1 k⟩⟩
theorem gnm_imp {K : PySem.W.Frag} {i : Nat} {v : V} {σ : L2.St} {H : Hp} {Q : L2.St → Hp → Prop} (q : tG ζ K (gNm i) v σ H Q) : gName i v σ H Q := by
  obtain ⟨φ, env, m, r, e', m', S, E, Rv, hf, k⟩ := q
  cases hf
  exact k φ _ H .refl S (E.set Rv i)
theorem s_set {i : Nat} {x : Str} {pos' : Pos} (hN : X.N.Nodup) (hi : X.N[i]? = some x) (hx : Loc X.env.scope x) (he : PE X e (tE ζ X.K f)) (hs : swapsWith e (some (.Name x pos')) pos.line X.env = pure false := by rfl) (hf : X.fn x = true ∨ X.env.scope.names.lookup x = some .local := by first | exact .inl rfl | exact .inr rfl | assumption) :
    PS X (.Assign [.Name x pos'] e pos) (tS ζ X.K (sAsg f (gNm i))) := ps_imp (ps_set hN hi hx he hs hf) fun W σ H q => by
  obtain ⟨φ, env, m, r, m', S, E, h1, k⟩ := g_imp q
  exact ⟨φ, env, m, r, m', S, E, h1, fun φ1 H1 v g1 S1 R1 => gnm_imp (k φ1 H1 v g1 S1 R1)⟩
theorem g_name {i : Nat} {x : Str} (hN : X.N.Nodup) (hi : X.N[i]? = some x) (hx : Loc X.env.scope x) (hf : X.fn x = true ∨ X.env.scope.names.lookup x = some .local := by first | exact .inl rfl | exact .inr rfl | assumption) : PG X (.Name x pos) (tG ζ X.K (gNm i)) :=
  tg_imp (pg_name hN hi hx hf) fun _ _ _ _ q => gnm_imp q
theorem g_nil : PGs X [] (tGs ζ X.K gsNil) := tgs_imp pgs_nil fun vs σ H Q q => by
  obtain ⟨φ, env, m, rs, e', m', S, E, Rv, hf, k⟩ := q
  cases Rv with
  | nil =>
    cases hf
    exact ⟨rfl, k φ σ H .refl S E⟩
  | cons a t => cases hf
theorem g_cons (h1 : PG X e (tG ζ X.K gf)) (h2 : PGs X es (tGs ζ X.K gsf)) (hs : (assignEach (e :: es) X.env).map (·.2) = assign e X.env :: (assignEach es X.env).map (·.2) := by rfl) : PGs X (e :: es) (tGs ζ X.K (gsCons gf gsf)) :=
  tgs_imp (pgs_cons h1 h2 hs) fun vs σ H Q q => by
  obtain ⟨φ, env, m, rs, e', m', S, E, Rv, hf, k⟩ := q
  cases Rv with
  | nil => cases hf
  | cons a t =>
    obtain ⟨⟨e1, m1⟩, h1, hf⟩ := bind_some_iff hf
    exact ⟨_, _, rfl, φ, env, m, _, e1, m1, S, E, a, h1, fun φ1 σ1 H1 g1 S1 E1 => ⟨φ1, e1, m1, _, e', m', S1, E1, RRs.mono g1 t, hf, EnvK.mono g1 k⟩⟩
theorem g_tup {k n : Nat} (hc : X.calm = true) (h : PGs X es (tGs ζ X.K gsf)) (hn : (assignEach es X.env).length = n := by rfl) (hst : (assignEach es X.env).findIdx? (·.1) = none := by rfl) : PG X (.Tuple es k pos) (tG ζ X.K (gTp n gsf)) :=
  tg_imp (pg_tup hc h hn hst) fun v σ H Q q => by
  obtain ⟨φ, env, m, r, e', m', S, E, Rv, hf, k⟩ := q
  unfold gTp at hf
  split at hf
  · rename_i ds
    split at hf
    · rename_i hl
      have Rv' : Dp X.K (off φ H) v (.tuple ds) := Rv
      cases Rv' with
      | tup hs ha => exact ⟨_, _, rfl, sqT_mono off_same hs, by rw [DpAll.len ha]; exact hl, φ, env, m, _, e', m', S, E, dpAll_rrs ha, hf, k⟩
    · cases hf
  · cases hf
theorem s_asg {tg : Expr} (he : PE X e (tE ζ X.K f)) (hg : PG X tg (tG ζ X.K gf)) (hs : swapsWithSole [tg] e pos.line X.env = pure false := by rfl) (hw : swappedStores [tg] e X.env = pure none := by rfl)
    (h1 : (assignEach [tg] X.env).map (·.2) = [assign tg X.env] := by rfl) : PS X (.Assign [tg] e pos) (tS ζ X.K (sAsg f gf)) := ps_imp (ps_asg he hg hs hw h1) fun _ _ _ q => g_imp q
theorem s_par {i j : Nat} {x y : Str} {a b : Expr} {px py pt : Pos} {kt k2 : Nat} {pt2 : Pos} (hc : X.calm = true) (hN : X.N.Nodup) (hi : X.N[i]? = some x) (hj : X.N[j]? = some y) (hij : i ≠ j)
    (hx : X.env.scope.names.lookup x = some .local) (hy : X.env.scope.names.lookup y = some .local) (ha : PA X [a, b] (tA ζ X.K fa))
    (hw : swappedStores [.Tuple [.Name x px, .Name y py] kt pt] (.Tuple [a, b] k2 pt2) X.env = pure (some [x, y]))
    (hs : swapsWithSole [.Tuple [.Name x px, .Name y py] kt pt] (.Tuple [a, b] k2 pt2) pos.line X.env = pure false := by rfl) :
    PS X (.Assign [.Tuple [.Name x px, .Name y py] kt pt] (.Tuple [a, b] k2 pt2) pos) (tS ζ X.K (sPar i j fa)) := ps_imp (ps_par hc hN hi hj hij hx hy ha hw hs) fun W σ H q => by
  obtain ⟨φ, env, m, fl, S, E, hf, k⟩ := q
  obtain ⟨⟨rs, m1⟩, h1, hf⟩ := bind_some_iff hf
  simp only at hf
  split at hf
  · cases hf
    refine ⟨φ, env, m, _, m1, S, E, h1, fun φ1 H1 vs g1 S1 R1 => ?_⟩
    cases R1 with
    | cons a1 t1 =>
      cases t1 with
      | cons a2 t2 =>
        cases t2
        exact ⟨_, _, rfl, k φ1 _ H1 g1 S1 (((E.mono g1).set a1 i).set a2 j)⟩
  · cases hf
end

/-! ### loops -/
/-- where the items come from: stuck, at the end, or an item -/
abbrev Src := Nat → M → Option (Option D)
def srcL (ds : List D) : Src := fun i _ => some ds[i]?
def srcR (k : Nat) : Src := fun i m => match m[k]? with
  | some (.lst ds) => some ds[i]?
  | _ => none
structure JOk (ζ : Tbs) (K : PySem.W.Frag) (J : It) (φ : Ad) (H : Hp) (src : Src) : Prop where
  stop : ∀ φ' H' m i, Gw φ H φ' H' → SR ζ K φ' H' m → src i m = some none → J.stop i H'
  go : ∀ φ' H' m i d, Gw φ H φ' H' → SR ζ K φ' H' m → src i m = some (some d) → J.go i H'
  yld : ∀ φ' H' m i d x H'', Gw φ H φ' H' → SR ζ K φ' H' m → src i m = some (some d) → J.yld i H' x H'' → Gr φ' H' φ' H'' ∧ SR ζ K φ' H'' m ∧ RR K φ' H'' x (.val d)
/-- the source, a bound of turns, the store -/
abbrev IF := Sl → M → Option ((Src × Nat) × M)
def tI (ζ : Tbs) (K : PySem.W.Frag) (f : IF) : TI := fun σ H Q => ∃ φ env m src n m', SR ζ K φ H m ∧ ER K φ H σ env ∧ f env m = some ((src, n), m') ∧
  ∀ φ' H' J, Gr φ H φ' H' → SR ζ K φ' H' m' → JOk ζ K J φ' H' src → Q J H'
/-- behind a turn: on, or out -/
def aftF (fl : Fl) (next : Sl → M → Option Fl) : Option Fl := match fl with
  | .nx e m => next e m
  | .ct e m => next e m
  | .bk e m => some (.nx e m)
  | .rt r m => some (.rt r m)
def loop (src : Src) (g : GF) (body : SF) : Nat → Nat → SF
  | 0, i => fun env m => (src i m).bind fun o => match o with
    | none => some (.nx env m)
    | some _ => none
  | n + 1, i => fun env m => (src i m).bind fun o => match o with
    | none => some (.nx env m)
    | some d => (g (.val d) env m).bind fun x => (body x.1 x.2).bind fun fl => aftF fl (loop src g body n (i + 1))
def sFor (it : IF) (g : GF) (body : SF) : SF := fun env m => (it env m).bind fun x => loop x.1.1 g body x.1.2 0 env x.2
/-- the same over a list -/
def loopL (g : GF) (body : SF) : List D → SF
  | [] => sNext
  | d :: ds => fun env m => (g (.val d) env m).bind fun x => (body x.1 x.2).bind fun fl => aftF fl (loopL g body ds)
def iL (ds : List D) (m : M) : Option ((Src × Nat) × M) := some ((srcL ds, ds.length), m)
theorem loop_srcL {g : GF} {body : SF} : ∀ (ds all : List D) (i : Nat) (env : Sl) (m : M), all.drop i = ds → loop (srcL all) g body ds.length i env m = loopL g body ds env m
  | [], all, i, env, m, h => by
    have e : all[i]? = none := List.getElem?_eq_none (by simpa using h)
    simp [loop, srcL, e, loopL, sNext]
  | d :: ds, all, i, env, m, h => by
    have e : all[i]? = some d := by
      have := congrArg (·[0]?) h
      simpa using this
    have h' : all.drop (i + 1) = ds := by
      have := congrArg (List.drop 1) h
      simpa [List.drop_drop, Nat.add_comm] using this
    have ih := fun env m => loop_srcL (g := g) (body := body) ds all (i + 1) env m h'
    have ih' : loop (srcL all) g body ds.length (i + 1) = loopL g body ds := by
      funext env m
      exact ih env m
    simp only [List.length_cons, loop, srcL, e, Option.bind_some, loopL]
    rw [ih']
theorem sFor_L {it : IF} {g : GF} {body : SF} {env : Sl} {m m' : M} {ds : List D} (h : it env m = iL ds m') : sFor it g body env m = loopL g body ds env m' := by
  unfold sFor
  rw [h]
  exact loop_srcL ds ds 0 env m' rfl
def wloop (c : TF) (body : SF) : Nat → SF
  | 0 => fun _ _ => none
  | n + 1 => fun env m => (c env m).bind fun x => if x.1 = true then (body env x.2).bind fun fl => aftF fl (wloop c body n) else some (.nx env x.2)
section
variable {X : Cx} {c e tg : Expr} {sts : List Stmt} {tc : TF} {sf : SF} {gf : GF} {it : IF} {pos : Pos}
theorem s_while {n : Nat} (hp : PassesOwn (model X.prog X.w) X.A X.env X.xe) (hc : PT X c (tT ζ X.K tc)) (hb : PSs X sts (tS ζ X.K sf)) : PS X (.While c sts [] pos) (tS ζ X.K (wloop tc sf n)) := ps_imp (ps_while hp hc hb) fun W σ H q => by
  obtain ⟨φ, env, m, fl, S, E, hf, k⟩ := q
  refine ⟨fun n σ1 H1 => ∃ φ1 env1 m1 fl1, SR ζ X.K φ1 H1 m1 ∧ ER X.K φ1 H1 σ1 env1 ∧ wloop tc sf n env1 m1 = some fl1 ∧ FlOk ζ X.K φ1 H1 W fl1, ⟨n, φ, env, m, fl, S, E, hf, k⟩, ?_⟩
  intro n σ1 H1 ⟨φ1, env1, m1, fl1, S1, E1, hf1, k1⟩
  cases n with
  | zero => cases hf1
  | succ n =>
    obtain ⟨⟨b, m2⟩, h1, hf1⟩ := bind_some_iff hf1
    refine ⟨φ1, env1, m1, b, m2, S1, E1, h1, fun φ2 H2 g2 S2 => ?_⟩
    cases b with
    | false =>
      rw [if_neg Bool.false_ne_true]
      simp only [Bool.false_eq_true, if_false] at hf1
      cases hf1
      exact k1 φ2 σ1 H2 g2 S2 (E1.mono g2)
    | true =>
      rw [if_pos rfl]
      simp only [if_true] at hf1
      obtain ⟨fl2, h2, hf1⟩ := bind_some_iff hf1
      refine ⟨fun σ3 H3 => ∃ φ3 env3 m3, SR ζ X.K φ3 H3 m3 ∧ ER X.K φ3 H3 σ3 env3 ∧ wloop tc sf n env3 m3 = some fl1 ∧ FlOk ζ X.K φ3 H3 W fl1, fun σ3 H3 ⟨φ3, env3, m3, S3, E3, h3, k3⟩ => ⟨n, Nat.lt_succ_self n, φ3, env3, m3, fl1, S3, E3, h3, k3⟩, ?_⟩
      refine ⟨φ2, env1, m2, fl2, S2, E1.mono g2, h2, ?_⟩
      cases fl2 with
      | nx e4 m4 => exact fun φ3 σ3 H3 g3 S3 E3 => ⟨φ3, e4, m4, S3, E3, hf1, k1.mono (g2.trans g3)⟩
      | ct e4 m4 => exact fun φ3 σ3 H3 g3 S3 E3 => ⟨φ3, e4, m4, S3, E3, hf1, k1.mono (g2.trans g3)⟩
      | bk e4 m4 =>
        cases hf1
        exact EnvK.mono g2 k1
      | rt e4 m4 =>
        cases hf1
        exact ValK.mono g2 k1
theorem for_imp {K : PySem.W.Frag} {W : Ends} {σ : L2.St} {H : Hp} (q : tS ζ K (sFor it gf sf) W σ H) : tFor (tI ζ K it) (tG ζ K gf) (tS ζ K sf) W σ H := by
  obtain ⟨φ, env, m, fl, S, E, hf, k⟩ := q
  obtain ⟨⟨⟨src, n⟩, m'⟩, h1, hf⟩ := bind_some_iff hf
  refine ⟨φ, env, m, src, n, m', S, E, h1, fun φ1 H1 J g1 S1 JJ => ?_⟩
  refine ⟨fun i n σ2 H2 => ∃ φ2 env2 m2, Gr φ1 H1 φ2 H2 ∧ SR ζ K φ2 H2 m2 ∧ ER K φ2 H2 σ2 env2 ∧ loop src gf sf n i env2 m2 = some fl ∧ FlOk ζ K φ2 H2 W fl, ⟨n, φ1, env, m', .refl, S1, E.mono g1, hf, k.mono g1⟩, ?_⟩
  intro i n σ2 H2 ⟨φ2, env2, m2, g2, S2, E2, h2, k2⟩
  have cas : ∃ o, src i m2 = some o := by
    cases n <;> (obtain ⟨o, ho, _⟩ := bind_some_iff h2; exact ⟨o, ho⟩)
  obtain ⟨o, ho⟩ := cas
  cases o with
  | none =>
    refine .inl ⟨JJ.stop φ2 H2 m2 i g2.w S2 ho, ?_⟩
    have e : loop src gf sf n i env2 m2 = some (.nx env2 m2) := by
      cases n <;> simp [loop, ho]
    rw [e] at h2
    cases h2
    exact k2 φ2 σ2 H2 .refl S2 E2
  | some d =>
    cases n with
    | zero => simp [loop, ho] at h2
    | succ n =>
      refine .inr ⟨JJ.go φ2 H2 m2 i d g2.w S2 ho, fun σ3 H3 => ∃ φ3 env3 m3, Gr φ1 H1 φ3 H3 ∧ SR ζ K φ3 H3 m3 ∧ ER K φ3 H3 σ3 env3 ∧ loop src gf sf n (i + 1) env3 m3 = some fl ∧ FlOk ζ K φ3 H3 W fl, fun σ3 H3 z => ⟨n, Nat.lt_succ_self n, z⟩, fun x H3 hy => ?_⟩
      obtain ⟨g3, S3, R3⟩ := JJ.yld φ2 H2 m2 i d x H3 g2.w S2 ho hy
      simp only [loop, ho, Option.bind_some] at h2
      obtain ⟨⟨e4, m4⟩, h4, h2⟩ := bind_some_iff h2
      obtain ⟨fl5, h5, h2⟩ := bind_some_iff h2
      refine ⟨φ2, env2, m2, .val d, e4, m4, S3, E2.mono g3, R3, h4, fun φ6 σ6 H6 g6 S6 E6 => ?_⟩
      refine ⟨φ6, e4, m4, fl5, S6, E6, h5, ?_⟩
      cases fl5 with
      | nx e7 m7 => exact fun φ7 σ7 H7 g7 S7 E7 => ⟨φ7, e7, m7, g2.trans (g3.trans (g6.trans g7)), S7, E7, h2, k2.mono (g3.trans (g6.trans g7))⟩
      | ct e7 m7 => exact fun φ7 σ7 H7 g7 S7 E7 => ⟨φ7, e7, m7, g2.trans (g3.trans (g6.trans g7)), S7, E7, h2, k2.mono (g3.trans (g6.trans g7))⟩
      | bk e7 m7 =>
        cases h2
        exact EnvK.mono (g3.trans g6) k2
      | rt e7 m7 =>
        cases h2
        exact ValK.mono (g3.trans g6) k2
theorem s_for (hp : PassesOwn (model X.prog X.w) X.A X.env X.xe) (hc : X.calm = true) (hi : PI X tg e (tI ζ X.K it)) (hg : PG X tg (tG ζ X.K gf)) (hb : PSs X sts (tS ζ X.K sf)) (hs : ∀ x, foldedSetIterable e X.env x = pure x := by intro _; rfl) :
    PS X (.For tg e sts [] pos) (tS ζ X.K (sFor it gf sf)) := ps_imp (ps_for hp hc hi hg hb hs) fun _ _ _ q => for_imp q
end

/-! ### what is walked -/
theorem off_of_same {φ φ' : Ad} {H H' : Hp} (g : Gr φ H φ' H') {a : Addr} {o : HO} (h : off φ H a = some o) : H' a = some o := (off_some.mp (g.same a o h)).2.1
theorem jok_list {K : PySem.W.Frag} {φ : Ad} {H : Hp} {a : Addr} {xs : List V} {ds : List D} (h : SqL K (off φ H) a xs) (hd : DpAll K (off φ H) xs ds) : JOk ζ K (Itl K a) φ H (srcL ds) where
  stop := fun φ' H' m i g S e => ⟨xs, (off_same.seq (g.same.seq h)), by
    have e' : ds[i]? = none := Option.some.inj e
    rw [DpAll.len hd]
    exact List.getElem?_eq_none_iff.mp e'⟩
  go := fun φ' H' m i d g S e => by
    have e' : ds[i]? = some d := Option.some.inj e
    obtain ⟨v, h1, h2⟩ := DpAll.get hd e'
    exact ⟨xs, v, off_same.seq (g.same.seq h), h1⟩
  yld := fun φ' H' m i d x H'' g S e y => by
    have e' : ds[i]? = some d := Option.some.inj e
    obtain ⟨v, h1, h2⟩ := DpAll.get hd e'
    obtain ⟨rfl, y⟩ := y
    have q := y xs (off_same.seq (g.same.seq h))
    rw [h1] at q
    cases q
    exact ⟨.refl, S, dp_mono g.same h2⟩
theorem jok_tup {K : PySem.W.Frag} {φ : Ad} {H : Hp} {a : Addr} {xs : List V} {ds : List D} (h : SqT K (off φ H) a xs) (hd : DpAll K (off φ H) xs ds) : JOk ζ K (Itt K a) φ H (srcL ds) where
  stop := fun φ' H' m i g S e => ⟨xs, (sqT_mono off_same (sqT_mono g.same h)), by
    have e' : ds[i]? = none := Option.some.inj e
    rw [DpAll.len hd]
    exact List.getElem?_eq_none_iff.mp e'⟩
  go := fun φ' H' m i d g S e => by
    have e' : ds[i]? = some d := Option.some.inj e
    obtain ⟨v, h1, h2⟩ := DpAll.get hd e'
    exact ⟨xs, v, sqT_mono off_same (sqT_mono g.same h), h1⟩
  yld := fun φ' H' m i d x H'' g S e y => by
    have e' : ds[i]? = some d := Option.some.inj e
    obtain ⟨v, h1, h2⟩ := DpAll.get hd e'
    obtain ⟨rfl, y⟩ := y
    have q := y xs (sqT_mono off_same (sqT_mono g.same h))
    rw [h1] at q
    cases q
    exact ⟨.refl, S, dp_mono g.same h2⟩
theorem jok_live {K : PySem.W.Frag} {φ : Ad} {H : Hp} {k : Nat} {a : Addr} (h : φ.s[k]? = some a) : JOk ζ K (Itl K a) φ H (srcR k) where
  stop := fun φ' H' m i g S e => by
    unfold srcR at e
    split at e
    · rename_i ds hm
      obtain ⟨xs, h1, h2⟩ := S.obj k _ a hm (prefix_get g.pre h)
      have e' : ds[i]? = none := Option.some.inj e
      exact ⟨xs, .inl (.inl h1), by rw [DpAll.len h2]; exact List.getElem?_eq_none_iff.mp e'⟩
    · cases e
  go := fun φ' H' m i d g S e => by
    unfold srcR at e
    split at e
    · rename_i ds hm
      obtain ⟨xs, h1, h2⟩ := S.obj k _ a hm (prefix_get g.pre h)
      have e' : ds[i]? = some d := Option.some.inj e
      obtain ⟨v, h3, h4⟩ := DpAll.get h2 e'
      exact ⟨xs, v, .inl (.inl h1), h3⟩
    · cases e
  yld := fun φ' H' m i d x H'' g S e y => by
    unfold srcR at e
    split at e
    · rename_i ds hm
      obtain ⟨xs, h1, h2⟩ := S.obj k _ a hm (prefix_get g.pre h)
      have e' : ds[i]? = some d := Option.some.inj e
      obtain ⟨v, h3, h4⟩ := DpAll.get h2 e'
      obtain ⟨rfl, y⟩ := y
      have q := y xs (.inl (.inl h1))
      rw [h3] at q
      cases q
      exact ⟨.refl, S, h4⟩
    · cases e
theorem jok_range {K : PySem.W.Frag} {φ : Ad} {H : Hp} {lo : Int} {n : Nat} : JOk ζ K (Itr lo n) φ H (srcL ((List.range n).map fun j : Nat => PyData.int (lo + (j : Int)))) where
  stop := fun φ' H' m i g S e => by
    have e' := List.getElem?_eq_none_iff.mp (Option.some.inj e)
    have e2 : n ≤ i := by simpa using e'
    exact e2
  go := fun φ' H' m i d g S e => by
    have e' := (List.getElem?_eq_some_iff.mp (Option.some.inj e)).1
    have e2 : i < n := by simpa using e'
    exact e2
  yld := fun φ' H' m i d x H'' g S e y => by
    obtain ⟨hi, e'⟩ := List.getElem?_eq_some_iff.mp (Option.some.inj e)
    simp at e'
    obtain ⟨rfl, rfl⟩ := y
    subst e'
    exact ⟨.refl, S, Dp.int _⟩
/-- a list (of the store or not) or a tuple walked -/
def itSeq (f : EF) : IF := fun env m => (f env m).bind fun x => match x.1 with
  | .val (.list ds) => iL ds x.2
  | .ref k => match x.2[k]? with
    | some (.lst ds) => some ((srcR k, ds.length), x.2)
    | _ => none
  | _ => none
def itTup (f : EF) : IF := fun env m => (f env m).bind fun x => match x.1 with
  | .val (.tuple ds) => iL ds x.2
  | _ => none
def rngD (lo : Int) (n : Nat) : List D := (List.range n).map fun j : Nat => PyData.int (lo + (j : Int))
def itRng1 (f : AF) : IF := fun env m => (f env m).bind fun x => match x.1 with
  | [.val (.int j)] => if -(2 ^ 62) ≤ j ∧ j < 2 ^ 62 then iL (rngD 0 j.toNat) x.2 else none
  | _ => none
def itRng2 (f : AF) : IF := fun env m => (f env m).bind fun x => match x.1 with
  | [.val (.int i), .val (.int j)] => if -(2 ^ 62) ≤ i ∧ i < 2 ^ 62 ∧ -(2 ^ 62) ≤ j ∧ j < 2 ^ 62 then iL (rngD i (j - i).toNat) x.2 else none
  | _ => none
section
variable {X : Cx} {tg e a b : Expr} {f : EF} {fa : AF} {p pos : Pos}
theorem i_list (he : PE X e (tE ζ X.K f)) : PI X tg e (tI ζ X.K (itSeq f)) := pi_imp (pi_list he) fun σ H Q q => by
  obtain ⟨φ, env, m, src, n, m', S, E, hf, k⟩ := q
  obtain ⟨⟨r, m1⟩, h1, hf⟩ := bind_some_iff hf
  refine ⟨φ, env, m, r, m1, S, E, h1, fun φ1 H1 v g1 S1 R1 => ?_⟩
  cases r with
  | val d =>
    cases d with
    | list ds =>
      cases hf
      have R1' : Dp X.K (off φ1 H1) v (.list ds) := R1
      cases R1' with
      | lst hs ha => exact ⟨_, rfl, ⟨_, off_same.seq hs⟩, k φ1 H1 _ g1 S1 (jok_list hs ha)⟩
    | _ => cases hf
  | ref j =>
    simp only at hf
    split at hf
    · rename_i ds hm
      cases hf
      obtain ⟨ad, e1, e2⟩ := R1
      obtain ⟨xs, h3, h4⟩ := S1.obj j _ ad hm e2
      exact ⟨ad, e1, ⟨xs, .inl (.inl h3)⟩, k φ1 H1 _ g1 S1 (jok_live e2)⟩
    · cases hf
theorem i_tup (he : PE X e (tE ζ X.K f)) : PI X tg e (tI ζ X.K (itTup f)) := pi_imp (pi_tup he) fun σ H Q q => by
  obtain ⟨φ, env, m, src, n, m', S, E, hf, k⟩ := q
  obtain ⟨⟨r, m1⟩, h1, hf⟩ := bind_some_iff hf
  refine ⟨φ, env, m, r, m1, S, E, h1, fun φ1 H1 v g1 S1 R1 => ?_⟩
  cases r with
  | val d =>
    cases d with
    | tuple ds =>
      cases hf
      have R1' : Dp X.K (off φ1 H1) v (.tuple ds) := R1
      cases R1' with
      | tup hs ha => exact ⟨_, rfl, ⟨_, sqT_mono off_same hs⟩, k φ1 H1 _ g1 S1 (jok_tup hs ha)⟩
    | _ => cases hf
  | ref j => cases hf
theorem i_range1 (hg : Gl X "range") (hm : X.mg "range" = none) (ha : PA X [a] (tA ζ X.K fa)) (hs : starEach [a] X.env = [(false, eval a X.env)] := by rfl) : PI X tg (.Call (.Name "range" p) [a] [] pos) (tI ζ X.K (itRng1 fa)) :=
  pi_imp (pi_range1 hg hm ha hs) fun σ H Q q => by
  obtain ⟨φ, env, m, src, n, m', S, E, hf, k⟩ := q
  obtain ⟨⟨rs, m1⟩, h1, hf⟩ := bind_some_iff hf
  simp only at hf
  split at hf
  · rename_i j
    split at hf
    · rename_i hj
      cases hf
      refine ⟨φ, env, m, _, _, S, E, h1, fun φ1 H1 vs g1 S1 R1 => ?_⟩
      cases R1 with
      | cons a1 t1 =>
        cases t1
        have a1' : Dp X.K (off φ1 H1) _ (.int j) := a1
        cases a1'
        exact ⟨j, rfl, hj.1, hj.2, k φ1 H1 _ g1 S1 jok_range⟩
    · cases hf
  · cases hf
theorem i_range2 (hg : Gl X "range") (hm : X.mg "range" = none) (ha : PA X [a, b] (tA ζ X.K fa)) (hs : starEach [a, b] X.env = [(false, eval a X.env), (false, eval b X.env)] := by rfl) (hs2 : starEach [b] X.env = [(false, eval b X.env)] := by rfl) : PI X tg (.Call (.Name "range" p) [a, b] [] pos) (tI ζ X.K (itRng2 fa)) :=
  pi_imp (pi_range2 hg hm ha hs hs2) fun σ H Q q => by
  obtain ⟨φ, env, m, src, n, m', S, E, hf, k⟩ := q
  obtain ⟨⟨rs, m1⟩, h1, hf⟩ := bind_some_iff hf
  simp only at hf
  split at hf
  · rename_i i j
    split at hf
    · rename_i hj
      cases hf
      refine ⟨φ, env, m, _, _, S, E, h1, fun φ1 H1 vs g1 S1 R1 => ?_⟩
      cases R1 with
      | cons a1 t1 =>
        cases t1 with
        | cons a2 t2 =>
          cases t2
          have a1' : Dp X.K (off φ1 H1) _ (.int i) := a1
          have a2' : Dp X.K (off φ1 H1) _ (.int j) := a2
          cases a1'
          cases a2'
          exact ⟨i, j, rfl, hj, k φ1 H1 _ g1 S1 jok_range⟩
    · cases hf
  · cases hf
end

/-! ### functions -/
abbrev Fn := List R → M → Option (R × M)
def spF (ζ : Tbs) (K : PySem.W.Frag) (n : Nat) (F : Fn) : Sp := fun vs H Q _ => vs.length = n ∧ ∃ φ m rs r m', SR ζ K φ H m ∧ RRs K φ H vs rs ∧ F rs m = some (r, m') ∧ ValK ζ K φ H r m' Q
/-- what a function hands back, its own objects dropped -/
def leave (b : Nat) (r : R) (m : M) : Option (R × M) := match r with
  | .val d => some (.val d, m.take b)
  | .ref i => if i < b then some (.ref i, m.take b) else match m[i]? with
    | some (.lst ds) => some (.val (.list ds), m.take b)
    | _ => none
def bodyF (n : Nat) (body : SF) : Fn := fun rs m => (body (rs.map some ++ List.replicate (n - rs.length) none) m).bind fun fl => match fl with
  | .rt r m' => leave m.length r m'
  | .nx _ m' => some (.val .none, m'.take m.length)
  | _ => none
/-- .. its own objects kept -/
def bodyK (n : Nat) (body : SF) : Fn := fun rs m => (body (rs.map some ++ List.replicate (n - rs.length) none) m).bind fun fl => match fl with
  | .rt r m' => some (r, m')
  | .nx _ m' => some (.val .none, m')
  | _ => none
section
variable {K : PySem.W.Frag} {φ φ' : Ad} {H H' : Hp} {m m' : M}
theorem Paired.len {α β : Type} {F : α → β → Prop} : ∀ {l₁ : List α} {l₂ : List β}, Paired F l₁ l₂ → l₁.length = l₂.length
  | _, _, .nil => rfl
  | _, _, .cons _ t => by rw [List.length_cons, List.length_cons, Paired.len t]
theorem Paired.at_ {α β : Type} {F : α → β → Prop} : ∀ {l₁ : List α} {l₂ : List β} {i : Nat} {b : β}, Paired F l₁ l₂ → l₂[i]? = some b → ∃ a, l₁[i]? = some a ∧ F a b
  | _, _, _, _, .nil, e => by simp at e
  | _, _, 0, _, .cons (a := a) h t, e => by
    simp at e
    subst e
    exact ⟨a, rfl, h⟩
  | _, _, i + 1, _, .cons _ t, e => by
    obtain ⟨v, h1, h2⟩ := Paired.at_ (i := i) t (by simpa using e)
    exact ⟨v, by simpa using h1, h2⟩
theorem er_start {N : List Str} {vs : List V} {rs : List R} (h : RRs K φ H vs rs) : ER K φ H (L2.start N vs) (rs.map some ++ List.replicate (N.length - rs.length) none) := by
  have hl := Paired.len h
  unfold L2.start
  refine ⟨by simp [hl], fun i r e => ?_⟩
  by_cases hi : i < rs.length
  · rw [List.getElem?_append_left (by simpa using hi), List.getElem?_map] at e
    cases q : rs[i]? with
    | none => rw [q] at e; cases e
    | some r' =>
      rw [q] at e
      cases e
      obtain ⟨v, h1, h2⟩ := Paired.at_ h q
      exact ⟨v, by rw [List.getElem?_append_left (by rw [List.length_map, hl]; exact hi), List.getElem?_map, h1]; rfl, h2⟩
  · rw [List.getElem?_append_right (by simpa using hi), List.getElem?_replicate] at e
    split at e <;> cases e
theorem gr_cut (g : Gr φ H φ' H') : Same (off φ' H') (off φ H') := fun b o e => by
  rw [off_some] at e ⊢
  refine ⟨fun z => e.1 ?_, e.2⟩
  rcases Ad.mem.mp z with z | z
  · exact Ad.mem.mpr (.inl (g.pre.subset z))
  · exact Ad.mem.mpr (.inr (by rw [g.eqh]; exact z))
theorem Gr.cut (g : Gr φ H φ' H') : Gr φ H φ H' := ⟨List.prefix_refl _, rfl, rfl, fun b o e => gr_cut g b o (g.same b o e), g.stay⟩
theorem SR.cut (S : SR ζ K φ H m) (S' : SR ζ K φ' H' m') (g : Gr φ H φ' H') : SR ζ K φ H' (m'.take m.length) := by
  obtain ⟨t, ht⟩ := g.pre
  refine ⟨?_, S.nd, fun i o a e1 e2 => ?_, fun a ha => ?_, S.teq, S.tin, by have q := S'.tab; rw [g.eqt] at q; exact q⟩
  · rw [List.length_take, ← S'.len, ← ht, List.length_append, S.len]
    omega
  · have hi : i < m.length := by
      rw [← S.len]
      exact (List.getElem?_eq_some_iff.mp e2).1
    rw [List.getElem?_take_of_lt hi] at e1
    exact (S'.obj i o a e1 (prefix_get g.pre e2)).mono (gr_cut g) fun _ z => z
  · have q := S'.hid a (by rw [g.eqh]; exact ha)
    rw [g.eqt] at q
    exact q
theorem leave_ok {v : V} {r r2 : R} {m2 : M} (S : SR ζ K φ H m) (S' : SR ζ K φ' H' m') (g : Gr φ H φ' H') (h : RR K φ' H' v r) (e : leave m.length r m' = some (r2, m2)) : SR ζ K φ H' m2 ∧ RR K φ H' v r2 := by
  cases r with
  | val d =>
    cases e
    exact ⟨S.cut S' g, dp_mono (gr_cut g) h⟩
  | ref i =>
    obtain ⟨a, rfl, h⟩ := h
    unfold leave at e
    simp only at e
    split at e
    · rename_i hi
      cases e
      refine ⟨S.cut S' g, a, rfl, ?_⟩
      obtain ⟨t, ht⟩ := g.pre
      rw [← ht, List.getElem?_append_left (by rw [S.len]; exact hi)] at h
      exact h
    · rename_i hi
      split at e
      · rename_i ds hm
        cases e
        refine ⟨S.cut S' g, ?_⟩
        obtain ⟨xs, h1, h2⟩ := S'.obj i _ a hm h
        refine Dp.lst (.inl (.inl (off_some.mpr ⟨fun z => ?_, h1, rfl⟩))) (dps_mono (gr_cut g) h2)
        rcases Ad.mem.mp z with z | z
        · obtain ⟨j, hj, e⟩ := List.mem_iff_getElem.mp z
          have q : φ'.s[j]? = some a := prefix_get g.pre (by rw [List.getElem?_eq_getElem hj, e])
          have := nodup_at S'.nds h q
          rw [S.len] at hj
          omega
        · exact S'.apart (List.mem_of_getElem? h) (by rw [g.eqh]; exact z)
      · cases e
end
structure FnG (P : Program) (w : World) (K : PySem.W.Frag) (mg : Str → Option Value) (base : Heap) (k : Nat) (f : Addr) (fd : FuncData) (ps : List Str) (sp : Sp) : Prop where
  len : ∀ vs H Q E, sp vs H Q E → vs.length = ps.length
  go : ∀ (A : Around) (outer : List Env) (s : Shared) (H : Hp) (args : Args) (us : List Value) (vs : List V) (Q : VK) (E : XK), A.guards = some [] → Room k A → Env0 P w K mg base A outer s H → BindsTo s fd args (ps.zip us) → Vals vs us → sp vs H Q E →
    codeAny (model P w) A (.call (.ref f) args) (CR CX0 outer P w H s Q E) s
section
variable {P : Program} {w : World} {K : PySem.W.Frag} {mg : Str → Option Value} {base : Heap}
theorem guards_deeper {A : Around} {env : Env} (h : A.guards = some []) : (A.deeper env).guards = some [] := h
/-- the context of a def's body -/
abbrev Cf (P : Program) (w : World) (K : PySem.W.Frag) (mg : Str → Option Value) (base : Heap) (N : List Str) (qual : Str) (st : Stmt) (f : Addr) (cdv : Value) (A : Around) (outer : List Env) (s : Shared) (H : Hp) (E : XK) : Cx := (cxOf CX0 P w K mg base N qual (defScope st) f cdv A outer s H E).nox
/-- the rule of a def -/
theorem fnG {x qual : Str} {st : Stmt} {f : Addr} {fd : FuncData} {N ps : List Str} {k : Nat} {sp : Sp} {t : TS} (F : Fun K x qual st f fd) (S : FnScope N ps (defScope st)) (len : ∀ vs H Q E, sp vs H Q E → vs.length = ps.length)
    (hb : ∀ cdv A outer s H E, fd.code = cdv → A.guards = some [] → Room k (A.deeper (envOfC qual (defScope st) s.heap.objs.size f cdv)) → PSs (Cf P w K mg base N qual st f cdv A outer s H E) (defBody st) t)
    (hq : ∀ vs H Q E, sp vs H Q E → t { nx := fun _ H' => Q .non H', rt := Q } (L2.start N vs) H) : FnG P w K mg base (k + 1) f fd ps sp := by
  obtain ⟨oc, od, kV, doc, pm, an, cdv, ct, osl, rfl, lk, hcd⟩ := F.ex
  refine ⟨len, fun A outer s H args us vs Q E hg hr e0 hbd r hsp => ?_⟩
  have hl := len _ _ _ _ hsp
  have stay : ∀ b o, base.get? b = some o → s.heap.get? b = some o := fun b o e => (e0.bs b o e).1
  have KX : K.In s.heap := e0.mod.kin.keeps stay
  have lim : s.heap.NoLimit := e0.mod.nolimit.keeps stay
  have kinds : ∀ y ∈ ps.zip us, (defScope st).names.lookup y.1 = some .local ∨ ((defScope st).names.lookup y.1 = some .cell ∧ ((cellsFrom (s.heap.objs.size + 1) (defScope st).names []).lookup y.1).isSome = true) := by
    rintro ⟨n, v⟩ hy
    rcases S.par n (List.of_mem_zip hy).1 with q | q
    · exact Or.inl q
    · exact Or.inr ⟨q, PySem.W.cellsFrom_some _ _ _ (Or.inl q)⟩
  refine codeAny_call_function hr.depth (KX _ _ lk) rfl S.co S.gen rfl (PySem.W.codeRec_of KX hcd) (hbd _ _ _ _ ?_)
  refine wpAny_newFunctionEnv_cells S.kind kinds fun env he s1 x => ?_
  subst he
  refine ⟨lim.keeps x.toInCall.keep, codeAny_func ?_⟩
  have ht := hb cdv A outer s H E rfl hg (hr.deeper _)
  have I : Inv (cxOf CX0 P w K mg base N qual (defScope st) f cdv A outer s H E) [] (L2.start N vs) H s1 := inv_start S hr.hd e0 hl r x
  refine wpAny_mono ((PSs.nox ht).run [] s1 (L2.start N vs) H _ I (hq vs H Q E hsp)) (fun fl s' hs => ?_) fun e s' hs => hs
  have fin : ∀ {σ' : L2.St} {H' : Hp} {v : V} {u : Value}, Inv (cxOf CX0 P w K mg base N qual (defScope st) f cdv A outer s H E) [] σ' H' s' → RelV v u → Q v H' → CE outer P w H s Q u s' :=
    fun {σ' H' v u} J rv q => ⟨v, H', J.os, J.bare, J.base, J.hok, rv, q⟩
  cases fl with
  | ret u =>
    obtain ⟨v, σ', H', J, rv, q⟩ := hs
    exact fin J rv q
  | next =>
    obtain ⟨σ', H', J, q⟩ := hs
    exact fin (v := V.non) (u := Value.none) J rfl q
  | brk =>
    obtain ⟨_, _, _, q⟩ := hs
    exact q.elim
  | cont =>
    obtain ⟨_, _, _, q⟩ := hs
    exact q.elim
/-- .. by its function -/
theorem fnF {x qual : Str} {st : Stmt} {f : Addr} {fd : FuncData} {N ps : List Str} {k n : Nat} {body : SF} (F : Fun K x qual st f fd) (S : FnScope N ps (defScope st)) (hn : N.length = n)
    (hb : ∀ cdv A outer s H E, fd.code = cdv → A.guards = some [] → Room k (A.deeper (envOfC qual (defScope st) s.heap.objs.size f cdv)) → PSs (Cf P w K mg base N qual st f cdv A outer s H E) (defBody st) (tS ζ K body)) :
    FnG P w K mg base (k + 1) f fd ps (spF ζ K ps.length (bodyF n body)) := by
  refine fnG F S (fun vs H Q E h => h.1) hb fun vs H Q E h => ?_
  obtain ⟨_, φ, m, rs, r, m', SS, RS, hf, k⟩ := h
  obtain ⟨fl, hfl, hf⟩ := bind_some_iff hf
  rw [← hn] at hfl
  refine ⟨φ, _, m, fl, SS, er_start RS, hfl, ?_⟩
  cases fl with
  | nx e m1 =>
    cases hf
    exact fun φ1 σ1 H1 g1 S1 E1 => k φ H1 _ g1.cut (SS.cut S1 g1) Dp.non
  | rt r1 m1 =>
    intro φ1 H1 v g1 S1 R1
    obtain ⟨S2, R2⟩ := leave_ok SS S1 g1 R1 hf
    exact k φ H1 v g1.cut S2 R2
  | bk e m1 => cases hf
  | ct e m1 => cases hf
theorem fnK {x qual : Str} {st : Stmt} {f : Addr} {fd : FuncData} {N ps : List Str} {k n : Nat} {body : SF} (F : Fun K x qual st f fd) (S : FnScope N ps (defScope st)) (hn : N.length = n)
    (hb : ∀ cdv A outer s H E, fd.code = cdv → A.guards = some [] → Room k (A.deeper (envOfC qual (defScope st) s.heap.objs.size f cdv)) → PSs (Cf P w K mg base N qual st f cdv A outer s H E) (defBody st) (tS ζ K body)) :
    FnG P w K mg base (k + 1) f fd ps (spF ζ K ps.length (bodyK n body)) := by
  refine fnG F S (fun vs H Q E h => h.1) hb fun vs H Q E h => ?_
  obtain ⟨_, φ, m, rs, r, m', SS, RS, hf, k⟩ := h
  obtain ⟨fl, hfl, hf⟩ := bind_some_iff hf
  rw [← hn] at hfl
  refine ⟨φ, _, m, fl, SS, er_start RS, hfl, ?_⟩
  cases fl with
  | nx e m1 =>
    cases hf
    exact fun φ1 σ1 H1 g1 S1 E1 => k φ1 H1 _ g1 S1 Dp.non
  | rt r1 m1 =>
    cases hf
    exact k
  | bk e m1 => cases hf
  | ct e m1 => cases hf
end
section
variable {X : Cx} {k : Nat} {f : Addr} {fd : FuncData} {ps : List Str} {x : Str} {p pos : Pos} {e : Expr} {es : List Expr} {fa : AF} {n : Nat} {F : Fn}
/-- f(..) of a def -/
theorem x_call (F0 : FnG X.prog X.w X.K X.mg X.base k f fd ps (spF ζ X.K n F)) (hr : Room k X.A) (hgd : X.A.guards = some []) (hg : Gl X x) (hm : X.mg x = some (.ref f)) (hk : PySem.W.keepIn X.K (.ref f) = true) (hb : Binds X.K fd ps []) (hnn : ps.length = n)
    (ha : PA X (e :: es) (tA ζ X.K fa)) (hl : ∀ env m rs m', fa env m = some (rs, m') → rs.length = n) (hdb : (x == ("__debug__" : Str)) = false := by decide) (he : starEach (e :: es) X.env = (false, eval e X.env) :: starEach es X.env := by rfl) (hpl : (backTo pos (starEach es X.env)).any (·.1) = false := by rfl) :
    PE X (.Call (.Name x p) (e :: es) [] pos) (tE ζ X.K (eAp F fa)) := by
  refine ⟨fun pins s σ H Q I h => ?_⟩
  obtain ⟨φ, env, m, r, m', S, E, hf, q⟩ := h
  obtain ⟨⟨rs, m1⟩, h1, hf⟩ := bind_some_iff hf
  refine wpAny_Call_Name_kw (ld_glob I hg hm ?_ hdb)
  have hA := ha.run pos pins s σ H (fun vs H1 => ∃ φ1, Gr φ H φ1 H1 ∧ SR ζ X.K φ1 H1 m1 ∧ RRs X.K φ1 H1 vs rs) I ⟨φ, env, m, rs, m1, S, E, h1, fun φ1 H1 vs g1 S1 R1 => ⟨φ1, g1, S1, R1⟩⟩
  refine PySem.W.callWith_K (h₀ := X.base) I.ok.mod.kin hk (thn hA fun us s1 ⟨vs, H1, I1, rv, φ1, g1, S1, R1⟩ => ⟨I1.kIn, ?_⟩) he hpl
  have hvs : vs.length = n := by rw [Paired.len R1]; exact hl env m rs m1 h1
  have hlen : (us ++ []).length = ps.length := by rw [List.append_nil, ← rv.length, hvs, hnn]
  have hbd := hb s1 us I1.kIn hlen
  rw [List.append_nil] at hbd
  have sp : spF ζ X.K n F vs H1 Q E0 := ⟨hvs, φ1, m1, rs, r, m', S1, R1, hf, fun φ2 H2 v g2 S2 R2 => q φ2 H2 v (g1.trans g2) S2 R2⟩
  refine wpAny_call (codeAny_mono (F0.go X.A X.stack s1 H1 ⟨us, []⟩ us vs Q E0 hgd hr I1.env0 hbd rv sp) fun r s' hq => ?_)
  cases r with
  | error e => exact (show False from hq).elim
  | ok fl =>
    cases fl with
    | ret u => exact I1.after hq
    | next => exact (show False from hq).elim
    | brk => exact (show False from hq).elim
    | cont => exact (show False from hq).elim
end
end Ev

set_option Elab.async false
set_option linter.all false
set_option maxRecDepth 100000
/-! Operators, comparisons, subscripts. -/
namespace Ev
open PySem PySem.Spec PyProof.Rows L2

/-- the items of a list, of the store or not -/
def asL (r : R) (m : M) : Option (List D) := match r with
  | .val (.list ds) => some ds
  | .ref k => match m[k]? with
    | some (.lst ds) => some ds
    | _ => none
  | _ => none
/-- .. of a list or a tuple -/
def asLT (r : R) (m : M) : Option (List D) := match r with
  | .val (.tuple ds) => some ds
  | r => asL r m
section
variable {K : PySem.W.Frag} {φ : Ad} {H : Hp} {m : M} {v : V} {r : R} {ds : List D}
theorem seqL_of (S : SR ζ K φ H m) (h : RR K φ H v r) (e : asL r m = some ds) : ∃ a xs, v = .ref a ∧ SqL K H a xs ∧ DpAll K (off φ H) xs ds := by
  cases r with
  | val d =>
    cases d with
    | list es =>
      cases e
      have h' : Dp K (off φ H) v (.list ds) := h
      cases h' with
      | lst hs ha => exact ⟨_, _, rfl, off_same.seq hs, ha⟩
    | _ => cases e
  | ref k =>
    obtain ⟨a, rfl, h⟩ := h
    unfold asL at e
    simp only at e
    split at e
    · rename_i es hm
      cases e
      obtain ⟨xs, h1, h2⟩ := S.obj k _ a hm h
      exact ⟨a, xs, rfl, .inl (.inl h1), h2⟩
    · cases e
theorem seqT_of (h : RR K φ H v (.val (.tuple ds))) : ∃ a xs, v = .ref a ∧ SqT K H a xs ∧ DpAll K (off φ H) xs ds := by
  have h' : Dp K (off φ H) v (.tuple ds) := h
  cases h' with
  | tup hs ha => exact ⟨_, _, rfl, sqT_mono off_same hs, ha⟩
theorem seqLT_of (S : SR ζ K φ H m) (h : RR K φ H v r) (e : asLT r m = some ds) : ∃ a xs, v = .ref a ∧ (SqL K H a xs ∨ SqT K H a xs) ∧ DpAll K (off φ H) xs ds := by
  unfold asLT at e
  split at e
  · cases e
    obtain ⟨a, xs, h1, h2, h3⟩ := seqT_of h
    exact ⟨a, xs, h1, .inr h2, h3⟩
  · obtain ⟨a, xs, h1, h2, h3⟩ := seqL_of S h e
    exact ⟨a, xs, h1, .inl h2, h3⟩
theorem rr_int {i : Int} (h : RR K φ H v (.val (.int i))) : v = .int i := by
  have h' : Dp K (off φ H) v (.int i) := h
  cases h'
  rfl
theorem rr_str {i : Str} (h : RR K φ H v (.val (.str i))) : v = .str i := by
  have h' : Dp K (off φ H) v (.str i) := h
  cases h'
  rfl
theorem rr_dp {d : D} (h : RR K φ H v (.val d)) : Dp K H v d := dp_mono off_same h
end

def asI : R → Option Int
  | .val (.int i) => some i
  | _ => none
theorem asI_some {r : R} {i : Int} (h : asI r = some i) : r = .val (.int i) := by
  cases r with
  | ref i => cases h
  | val d =>
    cases d with
    | int c =>
      cases h
      rfl
    | _ => cases h

/-- an operation of two ints -/
def pII (C : Int → Int → Bool) (g : Int → Int → D) (a b : R) (m : M) : Option (R × M) := (asI a).bind fun i => (asI b).bind fun j => ite (C i j = true) (some (.val (g i j), m)) none
/-- a raw rule of two ints gives one here -/
theorem o_ii {X : Cx} {f : Value → Value → Sem Value} {C : Int → Int → Bool} {C' : Int → Int → Prop} {g : Int → Int → D} {g' : Int → Int → V} (h : OpR X f (rI C' g')) (hc : ∀ i j, C i j = true → C' i j) (hg : ∀ H i j, Dp X.K H (g' i j) (g i j)) : OpR X f (r2P ζ X.K (pII C g)) := by
  intro pins s σ H x y v u Q I rx ry q
  obtain ⟨φ, m, r1, r2, r, m', S, R1, R2, hf, k⟩ := q
  obtain ⟨i, h1, hf⟩ := bind_some_iff hf
  obtain ⟨j, h2, hf⟩ := bind_some_iff hf
  have e1 := asI_some h1
  have e2 := asI_some h2
  subst e1 e2
  have x1 := rr_int R1
  have x2 := rr_int R2
  replace hf : (if C i j = true then some (R.val (g i j), m) else none) = some (r, m') := hf
  split at hf
  · rename_i hcc
    cases hf
    exact h pins s σ H x y v u Q I rx ry ⟨i, j, x1, x2, hc i j hcc, k φ H _ .refl S (hg _ i j)⟩
  · cases hf
theorem o_ii0 {X : Cx} {f : Value → Value → Sem Value} {g : Int → Int → D} {g' : Int → Int → V} (h : OpR X f (rI0 g')) (hg : ∀ H i j, Dp X.K H (g' i j) (g i j)) : OpR X f (r2P ζ X.K (pII (fun _ _ => true) g)) := by
  intro pins s σ H x y v u Q I rx ry q
  obtain ⟨φ, m, r1, r2, r, m', S, R1, R2, hf, k⟩ := q
  obtain ⟨i, h1, hf⟩ := bind_some_iff hf
  obtain ⟨j, h2, hf⟩ := bind_some_iff hf
  have e1 := asI_some h1
  have e2 := asI_some h2
  subst e1 e2
  have x1 := rr_int R1
  have x2 := rr_int R2
  cases hf
  exact h pins s σ H x y v u Q I rx ry ⟨i, j, x1, x2, k φ H _ .refl S (hg _ i j)⟩
/-- one of two operations -/
def pOr (p q : R → R → M → Option (R × M)) (a b : R) (m : M) : Option (R × M) := match p a b m with
  | some x => some x
  | none => q a b m
theorem o_or {X : Cx} {f : Value → Value → Sem Value} {p q : R → R → M → Option (R × M)} (h1 : OpR X f (r2P ζ X.K p)) (h2 : OpR X f (r2P ζ X.K q)) : OpR X f (r2P ζ X.K (pOr p q)) := by
  intro pins s σ H x y v u Q I rx ry z
  obtain ⟨φ, m, r1, r2, r, m', S, R1, R2, hf, k⟩ := z
  unfold pOr at hf
  split at hf
  · rename_i e
    cases hf
    exact h1 pins s σ H x y v u Q I rx ry ⟨φ, m, r1, r2, r, m', S, R1, R2, e, k⟩
  · exact h2 pins s σ H x y v u Q I rx ry ⟨φ, m, r1, r2, r, m', S, R1, R2, hf, k⟩

/-! ### + -/
def pCatT (a b : R) (m : M) : Option (R × M) := match a, b with
  | .val (.tuple xs), .val (.tuple ys) => if xs.length + ys.length ≤ sizeLine then some (.val (.tuple (xs ++ ys)), m) else none
  | _, _ => none
def pCatL (a b : R) (m : M) : Option (R × M) := (asL a m).bind fun xs => (asL b m).bind fun ys => if xs.length + ys.length ≤ sizeLine then some (.val (.list (xs ++ ys)), m) else none
def pAdd : R → R → M → Option (R × M) := pOr (pII (fun _ _ => true) fun i j => .int (i + j)) (pOr pCatT pCatL)
section
variable {X : Cx}
theorem o_catT : OpR X (binaryOp .Add) (r2P ζ X.K pCatT) := by
  intro pins s σ H x y v u Q I rx ry q
  obtain ⟨φ, m, r1, r2, r, m', S, R1, R2, hf, k⟩ := q
  unfold pCatT at hf
  split at hf
  · rename_i xs ys
    split at hf
    · rename_i hl
      cases hf
      obtain ⟨a, vs, rfl, ha, da⟩ := seqT_of R1
      obtain ⟨b, us, rfl, hb, db⟩ := seqT_of R2
      have l1 := DpAll.len da
      have l2 := DpAll.len db
      refine op_catA pins s σ H _ _ v u Q I rx ry ⟨a, b, vs, us, rfl, rfl, ha, hb, by rw [l1, l2]; exact hl, fun e => ?_, fun e1 e2 => ?_, fun _ _ p hp => ?_⟩
      · subst e
        have : xs = [] := List.length_eq_zero_iff.mp l1.symm
        subst this
        exact k φ H _ .refl S R2
      · subst e2
        have : ys = [] := List.length_eq_zero_iff.mp l2.symm
        subst this
        rw [List.append_nil] at k
        exact k φ H _ .refl S R1
      · exact k φ _ _ (gr_alloc hp) (S.alloc hp) (rr_newT S hp (DpAll.append da db))
    · cases hf
  · cases hf
theorem o_catL : OpR X (binaryOp .Add) (fun x y H Q => ∃ φ m r1 r2 xs ys, SR ζ X.K φ H m ∧ RR X.K φ H x r1 ∧ RR X.K φ H y r2 ∧ asL r1 m = some xs ∧ asL r2 m = some ys ∧ xs.length + ys.length ≤ sizeLine ∧
    ∀ p vs, H p = none → DpAll X.K (off φ H) vs (xs ++ ys) → Q (.ref p) (upd H p (.lst vs))) := by
  intro pins s σ H x y v u Q I rx ry q
  obtain ⟨φ, m, r1, r2, xs, ys, S, R1, R2, h1, h2, hl, k⟩ := q
  obtain ⟨a, vs, rfl, ha, da⟩ := seqL_of S R1 h1
  obtain ⟨b, us, rfl, hb, db⟩ := seqL_of S R2 h2
  cases rx
  cases ry
  obtain ⟨its, rv, pl, z1⟩ := I.list ha
  obtain ⟨its2, rv2, pl2, z2⟩ := I.list hb
  obtain ⟨⟨cl1, dd1, dt1, sl1⟩, n1, g1, c1, d1, e1⟩ := pl
  obtain ⟨⟨cl2, dd2, dt2, sl2⟩, n2, g2, c2, d2, e2⟩ := pl2
  simp only at c1 e1 c2 e2
  subst c1 e1 c2 e2
  have l1 := DpAll.len da
  have l2 := DpAll.len db
  have l3 := rv.length
  have l4 := rv2.length
  have ea : its.toArray ++ its2.toArray = (its ++ its2).toArray := by simp
  refine concat_meets ⟨_, g1, rfl⟩ ⟨_, g2, rfl⟩ noFill_list_add seq_list_add
    PySem.F.slot_list_add PySem.F.entry_list_add (PySem.F.args_list_add_2 _ _)
    (PyProof.Rows.list_addW a b its.toArray its2.toArray n1 n2 dd1 dd2 sl1 sl2
      (by simp only [List.size_toArray]; omega)) ⟨g1, g2, ?_⟩
  rw [ea]
  exact ⟨.ref _, _, I.lnew (t' := s.toks) (rv.append rv2) (by rw [List.length_append]; omega), rfl, k _ _ I.fresh (DpAll.append da db)⟩
end

/-! ### expressions that make a new list -/
abbrev NF := Sl → M → Option (List D × M)
def tN (ζ : Tbs) (K : PySem.W.Frag) (f : NF) : TE := fun σ H Q => ∃ φ env m ds m', SR ζ K φ H m ∧ ER K φ H σ env ∧ f env m = some (ds, m') ∧
  ∀ φ' H' p vs, Gr φ H φ' H' → SR ζ K φ' H' m' → H' p = none → DpAll K (off φ' H') vs ds → Q (.ref p) (upd H' p (.lst vs))
/-- as data -/
def eL (f : NF) : EF := fun env m => (f env m).bind fun x => some (.val (.list x.1), x.2)
/-- as a new object of the store -/
def eNew (f : NF) : EF := fun env m => (f env m).bind fun x => some (.ref x.2.length, x.2 ++ [.lst x.1])
def nLst (f : AF) : NF := fun env m => (f env m).bind fun x => (vals x.1).bind fun ds => if ds.length ≤ sizeLine then some (ds, x.2) else none
def nCat (f g : EF) : NF := fun env m => (f env m).bind fun x => (g env x.2).bind fun y => (asL x.1 y.2).bind fun xs => (asL y.1 y.2).bind fun ys => if xs.length + ys.length ≤ sizeLine then some (xs ++ ys, y.2) else none
def nRep (f : NF) (g : EF) : NF := fun env m => (f env m).bind fun x => (g env x.2).bind fun y => (asI y.1).bind fun k => if -(2 ^ 63) ≤ k ∧ k < 2 ^ 63 ∧ x.1.length * k.toNat ≤ sizeLine then some ((List.replicate k.toNat x.1).flatten, y.2) else none
theorem DpAll.rep {K : PySem.W.Frag} {H : Hp} {ds : List D} {vs : List V} (h : DpAll K H vs ds) : ∀ n : Nat, DpAll K H (List.replicate n vs).flatten (List.replicate n ds).flatten
  | 0 => by simp; exact .nil
  | n + 1 => by
    rw [List.replicate_succ, List.replicate_succ, List.flatten_cons, List.flatten_cons]
    exact DpAll.append h (DpAll.rep h n)
section
variable {X : Cx} {a b e : Expr} {es : List Expr} {f g : EF} {fa : AF} {nf : NF} {pos : Pos}
theorem x_ofN (h : PE X e (tN ζ X.K nf)) : PE X e (tE ζ X.K (eL nf)) := pe_imp h fun σ H Q q => by
  obtain ⟨φ, env, m, r, m', S, E, hf, k⟩ := q
  obtain ⟨⟨ds, m1⟩, h1, hf⟩ := bind_some_iff hf
  cases hf
  exact ⟨φ, env, m, ds, m1, S, E, h1, fun φ1 H1 p vs g1 S1 hp hd => k φ1 _ _ (g1.trans (gr_alloc hp)) (S1.alloc hp) (rr_newL S1 hp hd)⟩
theorem x_new (h : PE X e (tN ζ X.K nf)) : PE X e (tE ζ X.K (eNew nf)) := pe_imp h fun σ H Q q => by
  obtain ⟨φ, env, m, r, m', S, E, hf, k⟩ := q
  obtain ⟨⟨ds, m1⟩, h1, hf⟩ := bind_some_iff hf
  cases hf
  refine ⟨φ, env, m, ds, m1, S, E, h1, fun φ1 H1 p vs g1 S1 hp hd => k _ _ _ (g1.trans (gr_enter (o := .lst vs) hp)) (S1.enter hp hd) ⟨p, rfl, ?_⟩⟩
  show (φ1.s ++ [p])[m1.length]? = some p
  rw [← S1.len, List.getElem?_append_right (Nat.le_refl _), Nat.sub_self]
  rfl
theorem n_lst (h : PA X es (tA ζ X.K fa)) : PE X (.List es pos) (tN ζ X.K (nLst fa)) := pe_imp (pe_lst h) fun σ H Q q => by
  obtain ⟨φ, env, m, r, m', S, E, hf, k⟩ := q
  obtain ⟨⟨rs, m1⟩, h1, hf⟩ := bind_some_iff hf
  obtain ⟨ds, h2, hf⟩ := bind_some_iff hf
  split at hf
  · rename_i hl
    cases hf
    refine ⟨φ, env, m, rs, m1, S, E, h1, fun φ1 H1 vs g1 S1 R1 => ?_⟩
    have hd := vals_rr h2 R1
    exact ⟨by rw [DpAll.len hd]; exact hl, fun p hp => k φ1 H1 p vs g1 S1 hp hd⟩
  · cases hf
theorem n_cat (ha : PE X a (tE ζ X.K f)) (hb : PE X b (tE ζ X.K g)) : PE X (.BinOp a .Add b pos) (tN ζ X.K (nCat f g)) := pe_imp (pe_op o_catL ha hb) fun σ H Q q => by
  obtain ⟨φ, env, m, ds, m', S, E, hf, k⟩ := q
  obtain ⟨⟨r1, m1⟩, h1, hf⟩ := bind_some_iff hf
  obtain ⟨⟨r2, m2⟩, h2, hf⟩ := bind_some_iff hf
  obtain ⟨xs, h3, hf⟩ := bind_some_iff hf
  obtain ⟨ys, h4, hf⟩ := bind_some_iff hf
  split at hf
  · rename_i hl
    cases hf
    refine ⟨φ, env, m, r1, m1, S, E, h1, fun φ1 H1 v1 g1 S1 R1 => ?_⟩
    refine ⟨φ1, env, m1, r2, m2, S1, E.mono g1, h2, fun φ2 H2 v2 g2 S2 R2 => ?_⟩
    exact ⟨φ2, m2, r1, r2, xs, ys, S2, R1.mono g2, R2, h3, h4, hl, fun p vs hp hd => k φ2 H2 p vs (g1.trans g2) S2 hp hd⟩
  · cases hf
theorem upd_none {H : Hp} {p : Addr} {o : HO} : (fun b => if b = p then none else upd H p o b) = fun b => if b = p then none else H b := by
  funext b
  by_cases h : b = p
  · rw [if_pos h, if_pos h]
  · rw [if_neg h, if_neg h, upd_ne h]
theorem n_rep (ha : PE X a (tN ζ X.K nf)) (hb : PE X b (tE ζ X.K g)) : PE X (.BinOp a .Mult b pos) (tN ζ X.K (nRep nf g)) := pe_imp (pe_op op_rep ha hb) fun σ H Q q => by
  obtain ⟨φ, env, m, ds, m', S, E, hf, k⟩ := q
  obtain ⟨⟨xs, m1⟩, h1, hf⟩ := bind_some_iff hf
  obtain ⟨⟨r2, m2⟩, h2, hf⟩ := bind_some_iff hf
  obtain ⟨n, h3, hf⟩ := bind_some_iff hf
  split at hf
  · rename_i hl
    cases hf
    have e2 := asI_some h3
    simp only at e2
    subst e2
    refine ⟨φ, env, m, xs, m1, S, E, h1, fun φ1 H1 p vs g1 S1 hp hd => ?_⟩
    refine ⟨φ1, env, m1, _, m2, S1.alloc hp, E.mono (g1.trans (gr_alloc hp)), h2, fun φ2 H2 v2 g2 S2 R2 => ?_⟩
    have hp2 : off φ2 H2 p = some (.lst vs) := g2.same _ _ (off_some.mpr ⟨S1.new hp, upd_same, rfl⟩)
    have hd2 := dps_mono g2.same (dps_mono (gr_alloc (o := .lst vs) hp).same hd)
    refine ⟨p, n, vs, rfl, rr_int R2, (off_some.mp hp2).2.1, hl.1, hl.2.1, by rw [DpAll.len hd]; exact hl.2.2, fun q hq => ?_⟩
    exact k φ2 H2 q _ (g1.trans ((gr_alloc hp).trans g2)) S2 hq (DpAll.rep hd2 _)
  · cases hf
end

/-! ### numbers -/
def mulOk (i j : Int) : Bool := decide (i.natAbs.log2 + j.natAbs.log2 < 1000000)
def divOk (_ j : Int) : Bool := decide (0 < j ∧ j.natAbs.log2 < 9000)
def modOk (_ j : Int) : Bool := decide (0 < j)
def shlOk (i j : Int) : Bool := decide (0 ≤ j ∧ j ≤ 1000000 ∧ i.natAbs < 2 ^ 64)
def shrOk (_ j : Int) : Bool := decide (0 ≤ j)
abbrev pNum (g : Int → Int → Int) := pII (fun _ _ => true) fun i j => .int (g i j)
abbrev pRel (g : Int → Int → Bool) := pII (fun _ _ => true) fun i j => .bool (g i j)
def pSub := pNum (· - ·)
def pMul := pII mulOk fun i j => .int (i * j)
def pDiv := pII divOk fun i j => .int (i / j)
def pMod := pII modOk fun i j => .int (i % j)
def pShl := pII shlOk fun i j => .int (i * 2 ^ j.toNat)
def pShr := pII shrOk fun i j => .int (i / 2 ^ j.toNat)
def pAnd := pNum Builtin.bitAnd
def pBor := pNum Builtin.bitOr
def pXor := pNum Builtin.bitXor
def pLt := pRel fun i j => decide (i < j)
def pLe := pRel fun i j => decide (i ≤ j)
def pGt := pRel fun i j => decide (j < i)
def pGe := pRel fun i j => decide (j ≤ i)
def pAddI := pNum (· + ·)
def pAddN : R → R → M → Option (R × M) := pOr pAddI pCatT
section
variable {X : Cx}
theorem o_addI : OpR X (binaryOp .Add) (r2P ζ X.K pAddI) := o_ii0 op_add fun _ _ _ => .int _
theorem o_add : OpR X (binaryOp .Add) (r2P ζ X.K pAddN) := o_or o_addI o_catT
theorem o_sub : OpR X (binaryOp .Sub) (r2P ζ X.K pSub) := o_ii0 op_sub fun _ _ _ => .int _
theorem o_mul : OpR X (binaryOp .Mult) (r2P ζ X.K pMul) := o_ii op_mulW (fun i j h => (of_decide_eq_true h : i.natAbs.log2 + j.natAbs.log2 < 1000000)) fun _ _ _ => .int _
theorem o_div : OpR X (binaryOp .FloorDiv) (r2P ζ X.K pDiv) := o_ii op_fdivW (fun i j h => (of_decide_eq_true h : 0 < j ∧ j.natAbs.log2 < 9000)) fun _ _ _ => .int _
theorem o_mod : OpR X (binaryOp .Mod) (r2P ζ X.K pMod) := o_ii op_mod (fun _ _ h => of_decide_eq_true h) fun _ _ _ => .int _
theorem o_shl : OpR X (binaryOp .LShift) (r2P ζ X.K pShl) := o_ii op_shl (fun i j h => (of_decide_eq_true h : 0 ≤ j ∧ j ≤ 1000000 ∧ i.natAbs < 2 ^ 64)) fun _ _ _ => .int _
theorem o_shr : OpR X (binaryOp .RShift) (r2P ζ X.K pShr) := o_ii op_shr (fun _ _ h => of_decide_eq_true h) fun _ _ _ => .int _
theorem o_and : OpR X (binaryOp .BitAnd) (r2P ζ X.K pAnd) := o_ii0 op_and fun _ _ _ => .int _
theorem o_bor : OpR X (binaryOp .BitOr) (r2P ζ X.K pBor) := o_ii0 op_or fun _ _ _ => .int _
theorem o_xor : OpR X (binaryOp .BitXor) (r2P ζ X.K pXor) := o_ii0 op_xor fun _ _ _ => .int _
theorem o_lt : OpR X (compareOp .Lt) (r2P ζ X.K pLt) := o_ii0 op_lt fun _ _ _ => .bl _
theorem o_le : OpR X (compareOp .LtE) (r2P ζ X.K pLe) := o_ii0 op_le fun _ _ _ => .bl _
theorem o_gt : OpR X (compareOp .Gt) (r2P ζ X.K pGt) := o_ii0 op_gt fun _ _ _ => .bl _
theorem o_ge : OpR X (compareOp .GtE) (r2P ζ X.K pGe) := o_ii0 op_ge fun _ _ _ => .bl _
end

/-! ### == and in, of data at any depth -/
/-- a value as data -/
def asD (r : R) (m : M) : Option D := match r with
  | .val d => some d
  | .ref k => match m[k]? with
    | some (.lst ds) => some (.list ds)
    | _ => none
theorem asD_dp {K : PySem.W.Frag} {φ : Ad} {H : Hp} {m : M} {v : V} {r : R} {d : D} (S : SR ζ K φ H m) (h : RR K φ H v r) (e : asD r m = some d) : Dp K H v d := by
  cases r with
  | val c =>
    cases e
    exact rr_dp h
  | ref k =>
    obtain ⟨a, rfl, h⟩ := h
    unfold asD at e
    simp only at e
    split at e
    · rename_i ds hm
      cases e
      obtain ⟨xs, h1, h2⟩ := S.obj k _ a hm h
      exact Dp.lst (.inl (.inl h1)) (dps_mono off_same h2)
    · cases e
def pEqD (neg : Bool) (a b : R) (m : M) : Option (R × M) := (asD a m).bind fun d => (asD b m).bind fun e => if (SeqAt.shaped d && SeqAt.shaped e) = true then some (.val (.bool (if neg then !PyData.eqv d e else PyData.eqv d e)), m) else none
def pEq := pEqD false
def pNe := pEqD true
def pInD (neg : Bool) (a b : R) (m : M) : Option (R × M) := (asD a m).bind fun d => (asLT b m).bind fun es => if (SeqAt.shaped d && PyData.canLayAll0 es) = true then some (.val (.bool (if neg then !(es.any fun z => PyData.eqv z d) else es.any fun z => PyData.eqv z d)), m) else none
def pIn := pInD false
def pNin := pInD true
def isNone : R → Bool
  | .val .none => true
  | _ => false
def pIs (neg : Bool) (a b : R) (m : M) : Option (R × M) := if isNone b = true then some (.val (.bool (if neg then !isNone a else isNone a)), m) else none
def pIsN := pIs false
def pIsnt := pIs true
section
variable {X : Cx} {k : Nat}
theorem o_eq (hr : Room k X.A) : OpR X (compareOp .Eq) (r2P ζ X.K pEq) := by
  intro pins s σ H x y v u Q I rx ry q
  obtain ⟨φ, m, r1, r2, r, m', S, R1, R2, hf, k⟩ := q
  obtain ⟨d, h1, hf⟩ := bind_some_iff hf
  obtain ⟨e, h2, hf⟩ := bind_some_iff hf
  split at hf
  · rename_i hc
    cases hf
    rw [Bool.and_eq_true] at hc
    exact op_eqD hr.units pins s σ H x y v u Q I rx ry ⟨d, e, asD_dp S R1 h1, asD_dp S R2 h2, hc.1, hc.2, k φ H _ .refl S (Dp.bl _)⟩
  · cases hf
theorem o_ne (hr : Room k X.A) : OpR X (compareOp .NotEq) (r2P ζ X.K pNe) := by
  intro pins s σ H x y v u Q I rx ry q
  obtain ⟨φ, m, r1, r2, r, m', S, R1, R2, hf, k⟩ := q
  obtain ⟨d, h1, hf⟩ := bind_some_iff hf
  obtain ⟨e, h2, hf⟩ := bind_some_iff hf
  split at hf
  · rename_i hc
    cases hf
    rw [Bool.and_eq_true] at hc
    exact op_neD hr.units pins s σ H x y v u Q I rx ry ⟨d, e, asD_dp S R1 h1, asD_dp S R2 h2, hc.1, hc.2, k φ H _ .refl S (Dp.bl _)⟩
  · cases hf
theorem in_ok {K : PySem.W.Frag} {φ : Ad} {H : Hp} {m : M} {v : V} {r : R} {es : List D} (S : SR ζ K φ H m) (h : RR K φ H v r) (e : asLT r m = some es) : Dp K H v (.list es) ∨ Dp K H v (.tuple es) := by
  unfold asLT at e
  split at e
  · cases e
    exact .inr (rr_dp h)
  · obtain ⟨a, xs, rfl, h2, h3⟩ := seqL_of S h e
    exact .inl (.lst h2 (dps_mono off_same h3))
theorem in_room {d : D} {es : List D} (hr : Room k X.A) (h : SeqAt.shaped d = true) : X.A.units + 1 + min (PyData.depthAll es) d.depth < cLine := by
  have h1 := hr.un
  have h2 := SeqAt.depth_of_shaped h
  have h3 := Nat.min_le_right (PyData.depthAll es) d.depth
  omega
theorem o_in (hr : Room k X.A) : OpR X (compareOp .In) (r2P ζ X.K pIn) := by
  intro pins s σ H x y v u Q I rx ry q
  obtain ⟨φ, m, r1, r2, r, m', S, R1, R2, hf, k⟩ := q
  obtain ⟨d, h1, hf⟩ := bind_some_iff hf
  obtain ⟨es, h2, hf⟩ := bind_some_iff hf
  split at hf
  · rename_i hc
    cases hf
    rw [Bool.and_eq_true] at hc
    obtain ⟨as, q1⟩ := Dp.reads I d x v (asD_dp S R1 h1) rx
    rcases in_ok S R2 h2 with hd | hd
    · obtain ⟨bs, q2⟩ := Dp.reads I _ y u hd ry
      exact SeqAt.in_list_reads q2 q1 hc.2 (SeqAt.canLay_of_shaped hc.1) (in_room hr hc.1) ⟨.bl _, H, I, rfl, k φ H _ .refl S (Dp.bl _)⟩
    · obtain ⟨bs, q2⟩ := Dp.reads I _ y u hd ry
      exact SeqAt.in_tuple_reads q2 q1 hc.2 (SeqAt.canLay_of_shaped hc.1) (in_room hr hc.1) ⟨.bl _, H, I, rfl, k φ H _ .refl S (Dp.bl _)⟩
  · cases hf
theorem o_nin (hr : Room k X.A) : OpR X (compareOp .NotIn) (r2P ζ X.K pNin) := by
  intro pins s σ H x y v u Q I rx ry q
  obtain ⟨φ, m, r1, r2, r, m', S, R1, R2, hf, k⟩ := q
  obtain ⟨d, h1, hf⟩ := bind_some_iff hf
  obtain ⟨es, h2, hf⟩ := bind_some_iff hf
  split at hf
  · rename_i hc
    cases hf
    rw [Bool.and_eq_true] at hc
    obtain ⟨as, q1⟩ := Dp.reads I d x v (asD_dp S R1 h1) rx
    rcases in_ok S R2 h2 with hd | hd
    · obtain ⟨bs, q2⟩ := Dp.reads I _ y u hd ry
      exact SeqAt.notIn_list_reads q2 q1 hc.2 (SeqAt.canLay_of_shaped hc.1) (in_room hr hc.1) ⟨.bl _, H, I, rfl, k φ H _ .refl S (Dp.bl _)⟩
    · obtain ⟨bs, q2⟩ := Dp.reads I _ y u hd ry
      exact SeqAt.notIn_tuple_reads q2 q1 hc.2 (SeqAt.canLay_of_shaped hc.1) (in_room hr hc.1) ⟨.bl _, H, I, rfl, k φ H _ .refl S (Dp.bl _)⟩
  · cases hf
theorem isN_val {K : PySem.W.Frag} {φ : Ad} {H : Hp} {v : V} {r : R} (h : RR K φ H v r) : decide (v = .non) = isNone r := by
  cases r with
  | ref i =>
    obtain ⟨a, rfl, _⟩ := h
    rfl
  | val d =>
    have h' : Dp K (off φ H) v d := h
    cases h' <;> rfl
theorem isN_non {K : PySem.W.Frag} {φ : Ad} {H : Hp} {v : V} {r : R} (h : RR K φ H v r) (e : isNone r = true) : v = .non := by
  rw [← isN_val h] at e
  exact of_decide_eq_true e
theorem o_isN : OpR X (compareOp .Is) (r2P ζ X.K pIsN) := by
  intro pins s σ H x y v u Q I rx ry q
  obtain ⟨φ, m, r1, r2, r, m', S, R1, R2, hf, k⟩ := q
  unfold pIsN pIs at hf
  split at hf
  · rename_i he
    cases hf
    exact op_isN pins s σ H x y v u Q I rx ry ⟨isN_non R2 he, by rw [isN_val R1]; exact k φ H _ .refl S (Dp.bl _)⟩
  · cases hf
theorem o_isnt : OpR X (compareOp .IsNot) (r2P ζ X.K pIsnt) := by
  intro pins s σ H x y v u Q I rx ry q
  obtain ⟨φ, m, r1, r2, r, m', S, R1, R2, hf, k⟩ := q
  unfold pIsnt pIs at hf
  split at hf
  · rename_i he
    cases hf
    exact op_notN pins s σ H x y v u Q I rx ry ⟨isN_non R2 he, by rw [isN_val R1]; exact k φ H _ .refl S (Dp.bl _)⟩
  · cases hf
end

/-! ### -x, xs[i], xs[i:j] -/
def pNeg (a : R) (m : M) : Option (R × M) := (asI a).bind fun i => some (.val (.int (-i)), m)
def pIdx (a b : R) (m : M) : Option (R × M) := (asLT a m).bind fun ds => (asI b).bind fun i => (atI ds i).bind fun d => some (.val d, m)
theorem DpAll.atI {K : PySem.W.Frag} {H : Hp} {ds : List D} {vs : List V} {i : Int} {d : D} (h : DpAll K H vs ds) (e : L2.atI ds i = some d) : ∃ v, L2.atI vs i = some v ∧ Dp K H v d := by
  unfold L2.atI at e ⊢
  rw [DpAll.len h]
  obtain ⟨j, h1, h2⟩ := bind_some_iff e
  obtain ⟨v, h3, h4⟩ := DpAll.get h h2
  exact ⟨v, by rw [h1]; exact h3, h4⟩
def cutD (xs : List D) (lo hi : Option Int) : List D := (xs.drop (HT.sIx xs.length 0 lo)).take (HT.sIx xs.length xs.length hi - HT.sIx xs.length 0 lo)
theorem DpAll.cut {K : PySem.W.Frag} {H : Hp} {ds : List D} {vs : List V} (h : DpAll K H vs ds) (lo hi : Option Int) : DpAll K H (cutV vs lo hi) (cutD ds lo hi) := by
  unfold cutV cutD
  rw [DpAll.len h]
  exact DpAll.take _ (DpAll.drop _ h)
abbrev OF := Sl → M → Option (Option Int × M)
def tO' (ζ : Tbs) (K : PySem.W.Frag) (f : OF) : TO := fun σ H Q => ∃ φ env m o m', SR ζ K φ H m ∧ ER K φ H σ env ∧ f env m = some (o, m') ∧ ∀ φ' H', Gr φ H φ' H' → SR ζ K φ' H' m' → Q o H'
def oNone : OF := fun _ m => some (none, m)
def oSome (f : EF) : OF := fun env m => (f env m).bind fun x => (asI x.1).bind fun i => some (some i, x.2)
def eSlT (f : EF) (l h : OF) : EF := fun env m => (f env m).bind fun x => (l env x.2).bind fun y => (h env y.2).bind fun z => match x.1 with
  | .val (.tuple ds) => some (.val (.tuple (cutD ds y.1 z.1)), z.2)
  | _ => none
def nSlL (f : EF) (l h : OF) : NF := fun env m => (f env m).bind fun x => (l env x.2).bind fun y => (h env y.2).bind fun z => (asL x.1 z.2).bind fun ds => some (cutD ds y.1 z.1, z.2)
section
variable {X : Cx} {a b e : Expr} {oe lo hi : Option Expr} {f g : EF} {fl fh : OF} {pos p2 : Pos}
theorem u_neg : UnR X (unaryOp .USub) (r1P ζ X.K pNeg) := by
  intro pins s σ H x v Q I rx q
  obtain ⟨φ, m, r1, r, m', S, R1, hf, k⟩ := q
  obtain ⟨i, h1, hf⟩ := bind_some_iff hf
  have e1 := asI_some h1
  subst e1
  have x1 := rr_int R1
  cases hf
  exact un_neg pins s σ H x v Q I rx ⟨i, x1, k φ H _ .refl S (Dp.int _)⟩
theorem ix_p : IxR X (r2P ζ X.K pIdx) := by
  intro value slice pins s σ H x y v u Q I rx ry q hsub
  obtain ⟨φ, m, r1, r2, r, m', S, R1, R2, hf, k⟩ := q
  obtain ⟨ds, h1, hf⟩ := bind_some_iff hf
  obtain ⟨i, h2, hf⟩ := bind_some_iff hf
  obtain ⟨d, h3, hf⟩ := bind_some_iff hf
  cases hf
  have e2 := asI_some h2
  subst e2
  have x2 := rr_int R2
  obtain ⟨p, xs, rfl, hs, hd⟩ := seqLT_of S R1 h1
  obtain ⟨z, h4, h5⟩ := DpAll.atI hd h3
  have q := k φ H z .refl S h5
  rcases hs with hs | hs
  · exact ix_list value slice pins s σ H _ y v u Q I rx ry ⟨p, xs, i, z, rfl, x2, hs, h4, q⟩ hsub
  · exact ix_tup value slice pins s σ H _ y v u Q I rx ry ⟨p, xs, i, z, rfl, x2, hs, h4, q⟩ hsub
theorem x_ix (ha : PE X a (tE ζ X.K f)) (hb : PE X b (tE ζ X.K g)) (hs : PlainIx b := by exact fun _ _ => rfl) : PE X (.Subscript a b pos) (tE ζ X.K (eBin pIdx f g)) :=
  pe_imp (pe_ix ix_p ha hb hs) fun _ _ _ q => two_imp q
theorem po_n : PO X none (tO' ζ X.K oNone) := ⟨fun pins s σ H Q I q => by
  obtain ⟨φ, env, m, o, m', S, E, hf, k⟩ := q
  cases hf
  exact po_none.run pins s σ H Q I (k φ H .refl S)⟩
theorem po_s (h : PE X e (tE ζ X.K f)) : PO X (some e) (tO' ζ X.K (oSome f)) := ⟨fun pins s σ H Q I q => by
  refine (po_some h).run pins s σ H Q I ?_
  obtain ⟨φ, env, m, o, m', S, E, hf, k⟩ := q
  obtain ⟨⟨r1, m1⟩, h1, hf⟩ := bind_some_iff hf
  obtain ⟨i, h2, hf⟩ := bind_some_iff hf
  cases hf
  have e2 := asI_some h2
  simp only at e2
  subst e2
  exact ⟨φ, env, m, _, m1, S, E, h1, fun φ1 H1 v g1 S1 R1 => ⟨i, rr_int R1, k φ1 H1 g1 S1⟩⟩⟩
theorem x_slT (ha : PE X a (tE ζ X.K f)) (hl : PO X lo (tO' ζ X.K fl)) (hh : PO X hi (tO' ζ X.K fh)) : PE X (.Subscript a (.Slice lo hi none p2) pos) (tE ζ X.K (eSlT f fl fh)) := pe_imp (pe_slice sl_tupA ha hl hh) fun σ H Q q => by
  obtain ⟨φ, env, m, r, m', S, E, hf, k⟩ := q
  obtain ⟨⟨r1, m1⟩, h1, hf⟩ := bind_some_iff hf
  obtain ⟨⟨o1, m2⟩, h2, hf⟩ := bind_some_iff hf
  obtain ⟨⟨o2, m3⟩, h3, hf⟩ := bind_some_iff hf
  cases r1 with
  | ref j => cases hf
  | val d1 => cases d1 with
  | tuple ds =>
    cases hf
    refine ⟨φ, env, m, _, m1, S, E, h1, fun φ1 H1 v g1 S1 R1 => ?_⟩
    refine ⟨φ1, env, m1, o1, m2, S1, E.mono g1, h2, fun φ2 H2 g2 S2 => ?_⟩
    refine ⟨φ2, env, m2, o2, _, S2, E.mono (g1.trans g2), h3, fun φ3 H3 g3 S3 => ?_⟩
    obtain ⟨p, xs, rfl, hs, hd⟩ := seqT_of (R1.mono (g2.trans g3))
    have hn := DpAll.len hd
    refine ⟨p, xs, rfl, hs, fun hw => ?_, fun hw q hq => ?_⟩
    · have e : cutD ds o1 o2 = ds := by
        unfold cutD
        rw [← hn, hw.1, hw.2, List.drop_zero, Nat.sub_zero, hn, List.take_length]
      rw [e] at k
      exact k φ3 H3 _ (g1.trans (g2.trans g3)) S3 (R1.mono (g2.trans g3))
    · exact k φ3 _ _ (g1.trans (g2.trans (g3.trans (gr_alloc hq)))) (S3.alloc hq) (rr_newT S3 hq (DpAll.cut hd o1 o2))
  | _ => cases hf
theorem n_slL (ha : PE X a (tE ζ X.K f)) (hl : PO X lo (tO' ζ X.K fl)) (hh : PO X hi (tO' ζ X.K fh)) : PE X (.Subscript a (.Slice lo hi none p2) pos) (tN ζ X.K (nSlL f fl fh)) := pe_imp (pe_slice sl_list ha hl hh) fun σ H Q q => by
  obtain ⟨φ, env, m, r, m', S, E, hf, k⟩ := q
  obtain ⟨⟨r1, m1⟩, h1, hf⟩ := bind_some_iff hf
  obtain ⟨⟨o1, m2⟩, h2, hf⟩ := bind_some_iff hf
  obtain ⟨⟨o2, m3⟩, h3, hf⟩ := bind_some_iff hf
  obtain ⟨ds, h4, hf⟩ := bind_some_iff hf
  cases hf
  refine ⟨φ, env, m, _, m1, S, E, h1, fun φ1 H1 v g1 S1 R1 => ?_⟩
  refine ⟨φ1, env, m1, o1, m2, S1, E.mono g1, h2, fun φ2 H2 g2 S2 => ?_⟩
  refine ⟨φ2, env, m2, o2, _, S2, E.mono (g1.trans g2), h3, fun φ3 H3 g3 S3 => ?_⟩
  obtain ⟨p, xs, rfl, hs, hd⟩ := seqL_of S3 (R1.mono (g2.trans g3)) h4
  exact ⟨p, xs, rfl, hs, fun q hq => k φ3 H3 q _ (g1.trans (g2.trans g3)) S3 hq (DpAll.cut hd o1 o2)⟩
end
end Ev

set_option Elab.async false
set_option linter.all false
set_option maxRecDepth 100000
/-! Comprehensions. -/
namespace Ev
open PySem PySem.Spec PyProof.Rows L2

/-! ### targets: names, tuples of targets -/
mutual
inductive Pat where
  | nm (i : Nat)
  | tp (ps : Pats)
inductive Pats where
  | nil
  | cons (p : Pat) (ps : Pats)
end
def Pats.len : Pats → Nat
  | .nil => 0
  | .cons _ ps => ps.len + 1
mutual
def gPat (ζ : Tbs) (K : PySem.W.Frag) : Pat → TG
  | .nm i => gName i
  | .tp ps => gTup K ps.len (gPats ζ K ps)
def gPats (ζ : Tbs) (K : PySem.W.Frag) : Pats → TGs
  | .nil => gNil
  | .cons p ps => gCons (gPat ζ K p) (gPats ζ K ps)
end
mutual
def bindP : Pat → D → Sl → Option Sl
  | .nm i, d, env => some (env.set i (some (.val d)))
  | .tp ps, d, env => match d with
    | .tuple ds => bindPs ps ds env
    | _ => none
def bindPs : Pats → List D → Sl → Option Sl
  | .nil, ds, env => match ds with
    | [] => some env
    | _ => none
  | .cons p ps, ds, env => match ds with
    | d :: ds => (bindP p d env).bind (bindPs ps ds)
    | [] => none
end
mutual
def Pat.within (vs : List Nat) : Pat → Bool
  | .nm i => decide (i ∈ vs)
  | .tp ps => ps.within vs
def Pats.within (vs : List Nat) : Pats → Bool
  | .nil => true
  | .cons p ps => p.within vs && ps.within vs
end
def wipeE (env : Sl) : List Nat → Sl
  | [] => env
  | v :: vs => (wipeE env vs).set v none
theorem getElem?_wipe {σ : L2.St} {i : Nat} : ∀ {vs : List Nat}, i ∈ vs → ∀ x, (wipe σ vs)[i]? ≠ some (some x)
  | vs, hi, x, e => (wipe_some e).2 hi
theorem wipe_set {σ : L2.St} {i : Nat} {x : Option V} {vs : List Nat} (hi : i ∈ vs) : wipe (σ.set i x) vs = wipe σ vs := by
  induction vs with
  | nil => cases hi
  | cons v vs ih =>
    unfold wipe
    by_cases hv : i ∈ vs
    · rw [ih hv]
    · have e : i = v := (List.mem_cons.mp hi).resolve_right hv
      subst e
      have key : ∀ ws : List Nat, i ∉ ws → wipe (σ.set i x) ws = (wipe σ ws).set i x := by
        intro ws
        induction ws with
        | nil => intro _; rfl
        | cons w ws ihw =>
          intro hw
          unfold wipe
          rw [ihw (fun z => hw (List.mem_cons_of_mem _ z)), List.set_comm _ _ (fun z : i = w => hw (by rw [z]; exact List.mem_cons_self))]
      rw [key vs hv, List.set_set]
theorem er_wipe {K : PySem.W.Frag} {φ : Ad} {H : Hp} {σ : L2.St} {env : Sl} (e : ER K φ H σ env) : ∀ vs : List Nat, ER K φ H (wipe σ vs) (wipeE env vs)
  | [] => e
  | v :: vs => by
    have ih := er_wipe e vs
    unfold wipe wipeE
    refine ⟨by rw [List.length_set, List.length_set]; exact ih.len, fun i r he => ?_⟩
    by_cases hi : i = v
    · subst hi
      by_cases hl : i < (wipeE env vs).length
      · rw [List.getElem?_set_self hl] at he
        cases he
      · rw [List.getElem?_eq_none (by rw [List.length_set]; omega)] at he
        cases he
    · rw [List.getElem?_set_ne (fun z => hi z.symm)] at he ⊢
      exact ih.at_ i r he
section
variable {K : PySem.W.Frag} {φ : Ad} {H : Hp} {vs : List Nat}
mutual
theorem bindP_ok : ∀ (p : Pat) {d : D} {v : V} {σ : L2.St} {env env' : Sl}, ER K φ H σ env → Dp K (off φ H) v d → bindP p d env = some env' → p.within vs = true → ∃ σ', (∀ Q : L2.St → Hp → Prop, Q σ' H → gPat ζ K p v σ H Q) ∧ ER K φ H σ' env' ∧ wipe σ' vs = wipe σ vs
  | .nm i, d, v, σ, env, env', E, R, e, w => by
    simp only [bindP] at e
    cases e
    simp only [Pat.within, decide_eq_true_eq] at w
    exact ⟨σ.set i (some v), fun Q q => by simp only [gPat]; exact q, E.set (r := .val d) R i, wipe_set w⟩
  | .tp ps, d, v, σ, env, env', E, R, e, w => by
    simp only [bindP] at e
    split at e
    · rename_i ds
      simp only [Pat.within] at w
      cases R with
      | tup hs ha =>
        obtain ⟨σ', h1, h2, h3⟩ := bindPs_ok ps E ha e w
        refine ⟨σ', fun Q q => ?_, h2, h3⟩
        simp only [gPat]
        exact ⟨_, _, rfl, sqT_mono off_same hs, h4 ps _ _ ha e, h1 Q q⟩
    · cases e
where
  h4 : ∀ (ps : Pats) (env env' : Sl) {us : List V} {ds : List D}, DpAll K (off φ H) us ds → bindPs ps ds env = some env' → us.length = ps.len
    | .nil, _, _, _, ds, h, e => by
      simp only [bindPs] at e
      split at e
      · cases h
        rfl
      · cases e
    | .cons p ps, _, _, _, ds, h, e => by
      simp only [bindPs] at e
      split at e
      · obtain ⟨e1, h1, h2⟩ := bind_some_iff e
        cases h with
        | cons a t =>
          rw [List.length_cons, h4 ps _ _ t h2]
          rfl
      · cases e
theorem bindPs_ok : ∀ (ps : Pats) {ds : List D} {us : List V} {σ : L2.St} {env env' : Sl}, ER K φ H σ env → DpAll K (off φ H) us ds → bindPs ps ds env = some env' → ps.within vs = true → ∃ σ', (∀ Q : L2.St → Hp → Prop, Q σ' H → gPats ζ K ps us σ H Q) ∧ ER K φ H σ' env' ∧ wipe σ' vs = wipe σ vs
  | .nil, ds, us, σ, env, env', E, R, e, w => by
    simp only [bindPs] at e
    split at e
    · cases e
      cases R
      exact ⟨σ, fun Q q => by simp only [gPats]; exact ⟨rfl, q⟩, E, rfl⟩
    · cases e
  | .cons p ps, ds, us, σ, env, env', E, R, e, w => by
    simp only [bindPs] at e
    split at e
    · obtain ⟨e1, h1, h2⟩ := bind_some_iff e
      simp only [Pats.within, Bool.and_eq_true] at w
      cases R with
      | cons a t =>
        obtain ⟨σ1, q1, E1, w1⟩ := bindP_ok p E a h1 w.1
        obtain ⟨σ2, q2, E2, w2⟩ := bindPs_ok ps E1 t h2 w.2
        refine ⟨σ2, fun Q q => ?_, E2, w2.trans w1⟩
        simp only [gPats]
        exact ⟨_, _, rfl, q1 _ (q2 Q q)⟩
    · cases e
end
end
/-! ### [e for p in it if t] -/
def clp (src : Src) (p : Pat) (tt : TF) (te : EF) (env : Sl) : Nat → Nat → M → Option (List D × M)
  | 0, i, m => (src i m).bind fun o => match o with
    | none => some ([], m)
    | some _ => none
  | n + 1, i, m => (src i m).bind fun o => match o with
    | none => some ([], m)
    | some d => (bindP p d env).bind fun e => (tt e m).bind fun t => if t.1 = true then (te e t.2).bind fun y => (asD0 y.1).bind fun d' => (clp src p tt te env n (i + 1) y.2).bind fun z => some (d' :: z.1, z.2) else clp src p tt te env n (i + 1) t.2
where
  asD0 : R → Option D
    | .val d => some d
    | _ => none
def nComp (it : IF) (p : Pat) (vs : List Nat) (tt : TF) (te : EF) : NF := fun env m => (it env m).bind fun x => if x.1.2 ≤ sizeLine then clp x.1.1 p tt te (wipeE env vs) x.1.2 0 x.2 else none
/-- over a list -/
def clpL (p : Pat) (tt : TF) (te : EF) (env : Sl) : List D → M → Option (List D × M)
  | [], m => some ([], m)
  | d :: ds, m => (bindP p d env).bind fun e => (tt e m).bind fun t => if t.1 = true then (te e t.2).bind fun y => (clp.asD0 y.1).bind fun d' => (clpL p tt te env ds y.2).bind fun z => some (d' :: z.1, z.2) else clpL p tt te env ds t.2
theorem clp_srcL {p : Pat} {tt : TF} {te : EF} {env : Sl} : ∀ (ds all : List D) (i : Nat) (m : M), all.drop i = ds → clp (srcL all) p tt te env ds.length i m = clpL p tt te env ds m
  | [], all, i, m, h => by
    have e : all[i]? = none := List.getElem?_eq_none (by simpa using h)
    simp [clp, srcL, e, clpL]
  | d :: ds, all, i, m, h => by
    have e : all[i]? = some d := by
      have := congrArg (·[0]?) h
      simpa using this
    have h' : all.drop (i + 1) = ds := by
      have := congrArg (List.drop 1) h
      simpa [List.drop_drop, Nat.add_comm] using this
    have ih := fun m => clp_srcL (p := p) (tt := tt) (te := te) (env := env) ds all (i + 1) m h'
    simp only [List.length_cons, clp, srcL, e, Option.bind_some, clpL, ih]
theorem nComp_L {it : IF} {p : Pat} {vs : List Nat} {tt : TF} {te : EF} {env : Sl} {m m' : M} {ds : List D} (h : it env m = iL ds m') (hl : ds.length ≤ sizeLine) : nComp it p vs tt te env m = clpL p tt te (wipeE env vs) ds m' := by
  unfold nComp
  rw [h]
  show (if ds.length ≤ sizeLine then clp (srcL ds) p tt te (wipeE env vs) ds.length 0 m' else none) = _
  rw [if_pos hl]
  exact clp_srcL ds ds 0 m' rfl

/-- without one object -/
def drp (H : Hp) (p : Addr) : Hp := fun b => if b = p then none else H b
theorem drp_self {H : Hp} {p : Addr} : drp H p p = none := if_pos rfl
theorem drp_some {H : Hp} {p b : Addr} {u : HO} : drp H p b = some u ↔ b ≠ p ∧ H b = some u := by
  unfold drp
  by_cases h : b = p
  · rw [if_pos h]
    exact Iff.intro (fun z => nomatch z) (fun z => absurd h z.1)
  · rw [if_neg h]
    exact Iff.intro (fun z => And.intro h z) (fun z => z.2)
theorem drp_upd {H : Hp} {p : Addr} {o : HO} : drp (upd H p o) p = drp H p := by
  funext b
  unfold drp
  by_cases h : b = p
  · rw [if_pos h, if_pos h]
  · rw [if_neg h, if_neg h, upd_ne h]
theorem drp_none {H : Hp} {p : Addr} (h : H p = none) : drp H p = H := by
  funext b
  unfold drp
  by_cases e : b = p
  · rw [if_pos e, e, h]
  · rw [if_neg e]
theorem upd_drp {H : Hp} {p : Addr} {o : HO} (h : H p = some o) : upd (drp H p) p o = H := by
  funext b
  unfold upd drp
  by_cases e : b = p
  · rw [if_pos e, e, h]
  · rw [if_neg e, if_neg e]
theorem off_hide {φ : Ad} {H : Hp} {p : Addr} : off (φ.hide p) H = off φ (drp H p) := by
  funext b
  unfold off
  by_cases h : b ∈ φ.all
  · have h2 : b ∈ (φ.hide p).all := by
      rcases Ad.mem.mp h with z | z
      · exact Ad.mem.mpr (.inl z)
      · exact Ad.mem.mpr (.inr (List.mem_cons_of_mem _ z))
    rw [if_pos h, if_pos h2]
  · by_cases e : b = p
    · have h2 : b ∈ (φ.hide p).all := Ad.mem.mpr (.inr (by rw [e]; exact List.mem_cons_self))
      rw [if_pos h2, if_neg h, e, drp_self]
      rfl
    · have h2 : b ∉ (φ.hide p).all := fun z => by
        rcases Ad.mem.mp z with z | z
        · exact h (Ad.mem.mpr (.inl z))
        · rcases List.mem_cons.mp z with z | z
          · exact e z
          · exact h (Ad.mem.mpr (.inr z))
      rw [if_neg h, if_neg h2]
      unfold drp
      rw [if_neg e]
section
variable {K : PySem.W.Frag} {φ φ' : Ad} {H H' : Hp} {m m' : M} {p : Addr}
theorem nodup_hide (h : φ.all.Nodup) (np : p ∉ φ.all) : (φ.hide p).all.Nodup := by
  unfold Ad.all Ad.hide at *
  rw [List.nodup_append] at *
  obtain ⟨h1, h2, h3⟩ := h
  refine ⟨h1, ?_, fun a ha b hb => ?_⟩
  · exact List.nodup_cons.mpr ⟨fun z => np (List.mem_append_right _ z), h2⟩
  · rcases List.mem_cons.mp (show b ∈ p :: φ.h from hb) with e | e
    · subst e
      exact fun z => np (List.mem_append_left _ (z ▸ ha))
    · exact h3 a ha b e
theorem SR.hide (S : SR ζ K φ H m) {o : HO} (h : H p = none) (no : isTb o = false := by rfl) : SR ζ K (φ.hide p) (upd H p o) m := by
  refine ⟨S.len, nodup_hide S.nd (S.new h), fun i ob a e1 e2 => ?_, fun a ha => ?_, S.teq, fun q hq => List.mem_cons_of_mem _ (S.tin q hq), S.tab.ext fun b u e => upd_stay h e⟩
  · rw [off_hide, drp_upd, drp_none h]
    exact (S.obj i ob a e1 e2).mono (fun _ _ z => z) fun u z => upd_stay h z
  · rcases List.mem_cons.mp ha with e | e
    · exact .inl ⟨o, by rw [e]; exact upd_same, no⟩
    · exact (S.hid a e).imp (fun ⟨u, q, n⟩ => ⟨u, upd_stay h q, n⟩) id
theorem SR.show_ (S : SR ζ K (φ.hide p) H m) {xs : List V} (hp : H p = some (.lst xs)) : SR ζ K φ (drp H p) m := by
  have ntab : ∀ b u, H b = some u → ((∃ ps, u = .tbl ps) ∨ ∃ q, u = LamX.CodeO b q) → b ≠ p := fun b u e k z => by
    rw [z, hp] at e
    cases e
    rcases k with ⟨ps, k⟩ | ⟨q, k⟩
    · cases k
    · exact codeO_lst k
  have nd := S.nd
  have np : p ∉ φ.all := by
    unfold Ad.all Ad.hide at nd
    rw [List.nodup_append] at nd
    obtain ⟨h1, h2, h3⟩ := nd
    intro z
    rcases Ad.mem.mp z with z | z
    · exact h3 p z p List.mem_cons_self rfl
    · exact (List.nodup_cons.mp h2).1 z
  refine ⟨S.len, ?_, fun i ob a e1 e2 => ?_, fun a ha => ?_, S.teq, fun q hq => ?_, tabs_keep S.tab fun b u e k => drp_some.mpr ⟨ntab b u e k, e⟩⟩
  · unfold Ad.all Ad.hide at nd
    rw [List.nodup_append] at nd
    unfold Ad.all
    rw [List.nodup_append]
    exact ⟨nd.1, (List.nodup_cons.mp nd.2.1).2, fun a ha b hb => nd.2.2 a ha b (List.mem_cons_of_mem _ hb)⟩
  · have q := S.obj i ob a e1 e2
    rw [off_hide] at q
    have na : a ≠ p := fun z => np (Ad.mem.mpr (.inl (z ▸ List.mem_of_getElem? e2)))
    exact q.mono (fun _ _ z => z) fun u z => drp_some.mpr ⟨na, z⟩
  · have na : a ≠ p := fun z => np (Ad.mem.mpr (.inr (z ▸ ha)))
    exact (S.hid a (List.mem_cons_of_mem _ ha)).imp (fun ⟨u, q, n⟩ => ⟨u, drp_some.mpr ⟨na, q⟩, n⟩) id
  · rcases List.mem_cons.mp (show q.1 ∈ p :: φ.h from S.tin q hq) with z | z
    · obtain ⟨ps, h1, _⟩ := S.tab q hq
      exact absurd z (ntab _ _ h1 (.inl ⟨ps, rfl⟩))
    · exact z
theorem SR.hidSet (S : SR ζ K (φ.hide p) H m) {o : HO} {xs : List V} (hp : H p = some (.lst xs)) (no : isTb o = false := by rfl) : SR ζ K (φ.hide p) (upd H p o) m := by
  refine ⟨S.len, S.nd, fun i ob a e1 e2 => ?_, fun a ha => ?_, S.teq, S.tin, tabs_write S.tab hp⟩
  · have q := S.obj i ob a e1 e2
    rw [off_hide] at q
    rw [off_hide, drp_upd]
    have na : a ≠ p := fun z => S.apart (List.mem_of_getElem? e2) (by rw [z]; exact List.mem_cons_self)
    exact q.mono (fun _ _ z => z) fun u z => by rw [upd_ne na]; exact z
  · by_cases e : a = p
    · exact .inl ⟨o, by rw [e]; exact upd_same, no⟩
    · exact (S.hid a ha).imp (fun ⟨u, q, n⟩ => ⟨u, by rw [upd_ne e]; exact q, n⟩) id
theorem Gr.unhide (g : Gr (φ.hide p) H φ' H') : ∃ φ2 : Ad, φ' = φ2.hide p ∧ Gr φ (drp H p) φ2 (drp H' p) := by
  obtain ⟨s', h', t'⟩ := φ'
  have e : h' = p :: φ.h := g.eqh
  subst e
  have et : t' = φ.t := g.eqt
  subst et
  refine ⟨⟨s', φ.h, φ.t⟩, rfl, g.pre, rfl, rfl, ?_, fun a ha u e n => ?_⟩
  · have q := g.same
    rw [off_hide] at q
    rw [show (⟨s', p :: φ.h, φ.t⟩ : Ad) = (⟨s', φ.h, φ.t⟩ : Ad).hide p from rfl, off_hide] at q
    exact q
  · rw [drp_some] at e ⊢
    exact ⟨e.1, g.stay a (List.mem_cons_of_mem _ ha) u e.2 n⟩
theorem gw_hide : Gw φ (drp H p) (φ.hide p) H := ⟨List.prefix_refl _, by rw [off_hide]; exact fun _ _ z => z⟩
end
theorem wipe_idem (σ : L2.St) (vs : List Nat) : wipe (wipe σ vs) vs = wipe σ vs := by
  apply List.ext_getElem?
  intro j
  by_cases hj : j ∈ vs
  · have a1 := @getElem?_wipe σ j vs hj
    have a2 := @getElem?_wipe (wipe σ vs) j vs hj
    have l1 := wipe_length σ vs
    have l2 := wipe_length (wipe σ vs) vs
    by_cases hl : j < σ.length
    · have b1 : (wipe σ vs)[j]? = some ((wipe σ vs)[j]'(by omega)) := List.getElem?_eq_getElem _
      have b2 : (wipe (wipe σ vs) vs)[j]? = some ((wipe (wipe σ vs) vs)[j]'(by omega)) := List.getElem?_eq_getElem _
      cases c1 : (wipe σ vs)[j]'(by omega) with
      | some x => rw [c1] at b1; exact absurd b1 (a1 x)
      | none =>
        cases c2 : (wipe (wipe σ vs) vs)[j]'(by omega) with
        | some x => rw [c2] at b2; exact absurd b2 (a2 x)
        | none => rw [b1, b2, c1, c2]
    · rw [List.getElem?_eq_none (by omega), List.getElem?_eq_none (by omega)]
  · rw [wipe_out hj]
theorem lc_imp {K : PySem.W.Frag} {it : IF} {p : Pat} {vs : List Nat} {tt : TF} {te : EF} {σ : L2.St} {H : Hp} {Q : VK} (hw : p.within vs = true) (q : tN ζ K (nComp it p vs tt te) σ H Q) : tLc (tI ζ K it) (gPat ζ K p) (tT ζ K tt) (tE ζ K te) vs σ H Q := by
  obtain ⟨φ, env, m, ds, m', S, E, hf, k⟩ := q
  obtain ⟨⟨⟨src, n⟩, m1⟩, h1, hf⟩ := bind_some_iff hf
  simp only at hf
  split at hf
  case isFalse => cases hf
  rename_i hn
  refine ⟨φ, env, m, src, n, m1, S, E, h1, fun φ1 H1 J g1 S1 JJ => fun P hP => ?_⟩
  have E1 := E.mono g1
  refine ⟨fun i nn H => ∃ φ2 m2 acc ads rest, Gr φ1 H1 φ2 (drp H P) ∧ SR ζ K (φ2.hide P) H m2 ∧ H P = some (.lst acc) ∧ DpAll K (off (φ2.hide P) H) acc ads ∧ ads.length ≤ i ∧ i + nn ≤ n ∧ clp src p tt te (wipeE env vs) nn i m2 = some (rest, m') ∧ ads ++ rest = ds, ⟨n, φ1, m1, [], [], ds, ?_, S1.hide hP, upd_same, .nil, Nat.zero_le _, by omega, hf, rfl⟩, ?_⟩
  · rw [drp_upd, drp_none hP]
    exact .refl
  intro i nn H2 ⟨φ2, m2, acc, ads, rest, g2, S2, hp2, hd2, hl2, hb2, hc2, ha2⟩
  have gw : Gw φ1 H1 (φ2.hide P) H2 := g2.w.trans gw_hide
  have cas : ∃ o, src i m2 = some o := by
    cases nn <;> (obtain ⟨o, ho, _⟩ := bind_some_iff hc2; exact ⟨o, ho⟩)
  obtain ⟨o, ho⟩ := cas
  cases o with
  | none =>
    have e : rest = [] ∧ m2 = m' := by
      cases nn <;> (simp only [clp, ho, Option.bind_some] at hc2; cases hc2; exact ⟨rfl, rfl⟩)
    obtain ⟨e1, e2⟩ := e
    subst e1 e2
    rw [List.append_nil] at ha2
    subst ha2
    refine .inl ⟨JJ.stop _ _ m2 i gw S2 ho, ?_⟩
    rw [off_hide] at hd2
    have := k φ2 (drp H2 P) P acc (g1.trans g2) (S2.show_ hp2) drp_self hd2
    rw [upd_drp hp2] at this
    exact this
  | some d =>
    cases nn with
    | zero => simp [clp, ho] at hc2
    | succ nn =>
      refine .inr ⟨JJ.go _ _ m2 i d gw S2 ho, fun H' => ∃ φ2 m2 acc ads rest, Gr φ1 H1 φ2 (drp H' P) ∧ SR ζ K (φ2.hide P) H' m2 ∧ H' P = some (.lst acc) ∧ DpAll K (off (φ2.hide P) H') acc ads ∧ ads.length ≤ i + 1 ∧ i + 1 + nn ≤ n ∧ clp src p tt te (wipeE env vs) nn (i + 1) m2 = some (rest, m') ∧ ads ++ rest = ds,
        fun H' z => ⟨nn, Nat.lt_succ_self nn, z⟩, fun x H3 hy => ?_⟩
      obtain ⟨g3, S3, R3⟩ := JJ.yld _ _ m2 i d x H3 gw S2 ho hy
      simp only [clp, ho, Option.bind_some] at hc2
      obtain ⟨e4, h4, hc2⟩ := bind_some_iff hc2
      obtain ⟨⟨b, m5⟩, h5, hc2⟩ := bind_some_iff hc2
      have E3 : ER K (φ2.hide P) H3 (wipe σ vs) (wipeE env vs) := (er_wipe (E1.monoW gw) vs).mono g3
      obtain ⟨σ4, q4, E4, w4⟩ := bindP_ok p E3 R3 h4 hw
      refine q4 _ ⟨w4.trans (by
        have := wipe_idem σ vs
        exact this), ?_⟩
      refine ⟨φ2.hide P, e4, m2, b, m5, S3, E4, h5, fun φ5' H5 g5 S5 => ?_⟩
      have g35 := g3.trans g5
      obtain ⟨φ5, rfl, g5'⟩ := Gr.unhide g35
      have hp5 : H5 P = some (.lst acc) := g35.stay P List.mem_cons_self _ hp2 (fun ps z => by cases z)
      have hd5 := dps_mono g35.same hd2
      cases b with
      | false =>
        refine iteF ?_
        simp only [Bool.false_eq_true, if_false] at hc2
        exact ⟨φ5, m5, acc, ads, rest, g2.trans g5', S5, hp5, hd5, by omega, by omega, hc2, ha2⟩
      | true =>
        refine iteT ?_
        simp only [if_true] at hc2
        obtain ⟨⟨y, m6⟩, h6, hc2⟩ := bind_some_iff hc2
        obtain ⟨d', h7, hc2⟩ := bind_some_iff hc2
        obtain ⟨⟨zs, m8⟩, h8, hc2⟩ := bind_some_iff hc2
        cases hc2
        have hyv : y = .val d' := by
          cases y with
          | ref j => cases h7
          | val d => cases h7; rfl
        subst hyv
        refine ⟨φ5.hide P, e4, m5, _, m6, S5, E4.mono g5, h6, fun φ6' H6 v6 g6 S6 R6 => ?_⟩
        have g36 := g35.trans g6
        obtain ⟨φ6, rfl, g6'⟩ := Gr.unhide g36
        have hp6 : H6 P = some (.lst acc) := g36.stay P List.mem_cons_self _ hp2 (fun ps z => by cases z)
        have hd6 := dps_mono g36.same hd2
        refine ⟨acc, hp6, ?_, φ6, m6, acc ++ [v6], ads ++ [d'], zs, ?_, S6.hidSet hp6, upd_same, ?_, ?_, by omega, h8, ?_⟩
        · rw [DpAll.len hd2]
          omega
        · rw [drp_upd]
          exact g2.trans g6'
        · rw [off_hide, drp_upd, ← off_hide]
          exact DpAll.append hd6 (.cons R6 .nil)
        · rw [List.length_append]
          simp
          exact hl2
        · rw [List.append_assoc]
          exact ha2
def tTrue : TF := fun _ m => some (true, m)
theorem pts_imp {X : Cx} {es : List Expr} {t t' : TT} (h : PTs X es t) (k : ∀ σ H Q, t' σ H Q → t σ H Q) : PTs X es t' := ⟨fun pins s σ H Q I q => h.run pins s σ H Q I (k σ H Q q)⟩
section
variable {X : Cx} {c : Expr} {tc : TF}
theorem ts_nil : PTs X [] (tT ζ X.K tTrue) := pts_imp pts_nil fun σ H Q q => by
  obtain ⟨φ, env, m, b, m', S, E, hf, k⟩ := q
  cases hf
  exact k φ H .refl S
theorem ts_one (h : PT X c (tT ζ X.K tc)) : PTs X [c] (tT ζ X.K tc) := pts_one h
/-- a block's context -/
abbrev Cb (X : Cx) (scope : Scope) (s : Shared) (H : Hp) (C : Addr) (cl : List (Str × Addr)) (fp : List Addr) : Cx := X.blk s H scope (compEnvC scope cl C X.env) fp
theorem n_comp {elt tg iter : Expr} {ifs : List Expr} {scope : Scope} {own : List (Str × Nat)} {pos : Pos} {it : IF} {p : Pat} {tt : TF} {te : EF} (hc : X.calm = true) (hN : X.N.Nodup) (hi : PI X tg iter (tI ζ X.K it)) (ok : BlkOk X.N X.env.scope scope own) (hw : p.within (own.map (·.2)) = true)
    (hg : ∀ s H C cl fp, PG (Cb X scope s H C cl fp) tg (gPat ζ X.K p)) (ht : ∀ s H C cl fp, PTs (Cb X scope s H C cl fp) ifs (tT ζ X.K tt)) (he : ∀ s H C cl fp, PE (Cb X scope s H C cl fp) elt (tE ζ X.K te)) (hs : ∀ x, foldedSetIterable iter X.env x = pure x := by intro _; rfl) :
    PE X (.ListComp elt [⟨tg, iter, ifs, 0⟩] scope pos) (tN ζ X.K (nComp it p (own.map (·.2)) tt te)) := pe_imp (pe_lc hc hN hi ok hg ht he hs) fun _ _ _ q => lc_imp hw q
/-- name = [..] -/
def sNewC (i : Nat) (f : EF) : SF := sAsg f (gNm i)
theorem s_setC {i : Nat} {y : Str} {py : Pos} {elt tg iter : Expr} {ifs : List Expr} {scope : Scope} {own : List (Str × Nat)} {pos spos : Pos} {it : IF} {p : Pat} {tt : TF} {te : EF} (hc : X.calm = true) (hN : X.N.Nodup) (hy : X.N[i]? = some y) (hyl : X.env.scope.names.lookup y = some .local)
    (hsw : swapsWith (.ListComp elt [⟨tg, iter, ifs, 0⟩] scope pos) (some (.Name y py)) spos.line X.env = pure true) (hi : PI X tg iter (tI ζ X.K it)) (ok : BlkOk X.N X.env.scope scope own) (hw : p.within (own.map (·.2)) = true)
    (hg : ∀ s H C cl fp, PG (Cb X scope s H C cl fp) tg (gPat ζ X.K p)) (ht : ∀ s H C cl fp, PTs (Cb X scope s H C cl fp) ifs (tT ζ X.K tt)) (he : ∀ s H C cl fp, PE (Cb X scope s H C cl fp) elt (tE ζ X.K te)) (hs : ∀ x, foldedSetIterable iter X.env x = pure x := by intro _; rfl) :
    PS X (.Assign [.Name y py] (.ListComp elt [⟨tg, iter, ifs, 0⟩] scope pos) spos) (tS ζ X.K (sAsg (eL (nComp it p (own.map (·.2)) tt te)) (gNm i))) := ps_imp (ps_setLc hc hN hy hyl hsw hi ok hg ht he hs) fun W σ H q => by
  obtain ⟨φ, env, m, fl, S, E, hf, k⟩ := q
  obtain ⟨⟨r1, m1⟩, h1, hf⟩ := bind_some_iff hf
  obtain ⟨⟨ds, m2⟩, h2, h1⟩ := bind_some_iff h1
  cases h1
  cases hf
  refine lc_imp hw ⟨φ, env, m, ds, m2, S, E, h2, fun φ1 H1 p vs g1 S1 hp hd => ?_⟩
  have g2 := g1.trans (gr_alloc (o := .lst vs) hp)
  exact k φ1 _ _ g2 (S1.alloc hp) ((E.mono g2).set (rr_newL S1 hp hd) i)
theorem s_setCN {i : Nat} {y : Str} {py : Pos} {elt tg iter : Expr} {ifs : List Expr} {scope : Scope} {own : List (Str × Nat)} {pos spos : Pos} {it : IF} {p : Pat} {tt : TF} {te : EF} (hc : X.calm = true) (hN : X.N.Nodup) (hy : X.N[i]? = some y) (hyl : X.env.scope.names.lookup y = some .local)
    (hsw : swapsWith (.ListComp elt [⟨tg, iter, ifs, 0⟩] scope pos) (some (.Name y py)) spos.line X.env = pure true) (hi : PI X tg iter (tI ζ X.K it)) (ok : BlkOk X.N X.env.scope scope own) (hw : p.within (own.map (·.2)) = true)
    (hg : ∀ s H C cl fp, PG (Cb X scope s H C cl fp) tg (gPat ζ X.K p)) (ht : ∀ s H C cl fp, PTs (Cb X scope s H C cl fp) ifs (tT ζ X.K tt)) (he : ∀ s H C cl fp, PE (Cb X scope s H C cl fp) elt (tE ζ X.K te)) (hs : ∀ x, foldedSetIterable iter X.env x = pure x := by intro _; rfl) :
    PS X (.Assign [.Name y py] (.ListComp elt [⟨tg, iter, ifs, 0⟩] scope pos) spos) (tS ζ X.K (sAsg (eNew (nComp it p (own.map (·.2)) tt te)) (gNm i))) := ps_imp (ps_setLc hc hN hy hyl hsw hi ok hg ht he hs) fun W σ H q => by
  obtain ⟨φ, env, m, fl, S, E, hf, k⟩ := q
  obtain ⟨⟨r1, m1⟩, h1, hf⟩ := bind_some_iff hf
  obtain ⟨⟨ds, m2⟩, h2, h1⟩ := bind_some_iff h1
  cases h1
  cases hf
  refine lc_imp hw ⟨φ, env, m, ds, m2, S, E, h2, fun φ1 H1 p vs g1 S1 hp hd => ?_⟩
  have g2 := g1.trans (gr_enter (o := .lst vs) hp)
  have R : RR X.K (φ1.add p) (upd H1 p (.lst vs)) (.ref p) (.ref m2.length) := by
    refine ⟨p, rfl, ?_⟩
    show (φ1.s ++ [p])[m2.length]? = some p
    rw [← S1.len, List.getElem?_append_right (Nat.le_refl _), Nat.sub_self]
    rfl
  exact k _ _ _ g2 (S1.enter hp hd) ((E.mono g2).set R i)
end
/-- loops over patterns -/
def gP (p : Pat) : GF := fun r env m => match r with
  | .val d => (bindP p d env).bind fun e => some (e, m)
  | _ => none
theorem gp_ok {X : Cx} {tg : Expr} {p : Pat} (h : PG X tg (gPat ζ X.K p)) (hw : ∃ vs, p.within vs = true) : PG X tg (tG ζ X.K (gP p)) := tg_imp h fun v σ H Q q => by
  obtain ⟨φ, env, m, r, e', m', S, E, Rv, hf, k⟩ := q
  obtain ⟨vs, hw⟩ := hw
  cases r with
  | ref j => cases hf
  | val d =>
    obtain ⟨e1, h1, hf⟩ := bind_some_iff hf
    cases hf
    obtain ⟨σ', q1, E1, _⟩ := bindP_ok p E Rv h1 hw
    exact q1 Q (k φ σ' H .refl S E1)
end Ev

set_option Elab.async false
set_option linter.all false
set_option maxRecDepth 100000
/-! Built-in functions and methods. -/
namespace Ev
open PySem PySem.Spec PyProof.Rows L2

abbrev PF := List R → M → Option (R × M)
def p1 (p : R → M → Option (R × M)) : PF := fun rs m => match rs with
  | [a] => p a m
  | _ => none
def p2 (p : R → R → M → Option (R × M)) : PF := fun rs m => match rs with
  | [a, b] => p a b m
  | _ => none
def pOrs (p q : PF) : PF := fun rs m => match p rs m with
  | some x => some x
  | none => q rs m
section
variable {X : Cx} {f : Value} {k : Nat}
theorem c_or {p q : PF} (h1 : CallR X f (rsP ζ X.K p)) (h2 : CallR X f (rsP ζ X.K q)) : CallR X f (rsP ζ X.K (pOrs p q)) := by
  intro pins s σ H xs us Q I rx z
  obtain ⟨φ, m, rs, r, m', S, RS, hf, kk⟩ := z
  unfold pOrs at hf
  split at hf
  · rename_i e
    cases hf
    exact h1 pins s σ H xs us Q I rx ⟨φ, m, rs, r, m', S, RS, e, kk⟩
  · exact h2 pins s σ H xs us Q I rx ⟨φ, m, rs, r, m', S, RS, hf, kk⟩
/-- a rule of one value -/
theorem c_one {p : R → M → Option (R × M)} (h : ∀ (pins : List (Addr × Obj)) (s : Shared) (σ : L2.St) (H : Hp) (v : V) (us : List Value) (Q : VK) (φ : Ad) (m : M) (a r : R) (m' : M), Inv X pins σ H s → Vals [v] us → SR ζ X.K φ H m → RR X.K φ H v a → p a m = some (r, m') →
    ValK ζ X.K φ H r m' Q → wpAny (model X.prog X.w) X.A (call f us) (EP X pins σ Q) X.xe s) : CallR X f (rsP ζ X.K (p1 p)) := by
  intro pins s σ H xs us Q I rx z
  obtain ⟨φ, m, rs, r, m', S, RS, hf, kk⟩ := z
  unfold p1 at hf
  split at hf
  · cases RS with
    | cons a t =>
      cases t
      exact h pins s σ H _ us Q φ m _ r m' I rx S a hf kk
  · cases hf
theorem c_two {p : R → R → M → Option (R × M)} (h : ∀ (pins : List (Addr × Obj)) (s : Shared) (σ : L2.St) (H : Hp) (v v2 : V) (us : List Value) (Q : VK) (φ : Ad) (m : M) (a b r : R) (m' : M), Inv X pins σ H s → Vals [v, v2] us → SR ζ X.K φ H m → RR X.K φ H v a → RR X.K φ H v2 b → p a b m = some (r, m') →
    ValK ζ X.K φ H r m' Q → wpAny (model X.prog X.w) X.A (call f us) (EP X pins σ Q) X.xe s) : CallR X f (rsP ζ X.K (p2 p)) := by
  intro pins s σ H xs us Q I rx z
  obtain ⟨φ, m, rs, r, m', S, RS, hf, kk⟩ := z
  unfold p2 at hf
  split at hf
  · cases RS with
    | cons a t =>
      cases t with
      | cons a2 t2 =>
        cases t2
        exact h pins s σ H _ _ us Q φ m _ _ r m' I rx S a a2 hf kk
  · cases hf
end

/-! ### len, abs, min and max of two -/
def pLen := p1 fun r m => (asLT r m).bind fun ds => some (.val (.int ds.length), m)
def pAbs := p1 fun r m => (asI r).bind fun i => some (.val (.int (if i < 0 then -i else i)), m)
def pMin2 := p2 fun a b m => (asI a).bind fun i => (asI b).bind fun j => some (.val (.int (if j < i then j else i)), m)
def pMax2 := p2 fun a b m => (asI a).bind fun i => (asI b).bind fun j => some (.val (.int (if j > i then j else i)), m)
def pInt := p1 fun r m => match r with
  | .val (.int i) => some (.val (.int i), m)
  | .val (.bool b) => some (.val (.int (if b then 1 else 0)), m)
  | _ => none
/-- all of them ints -/
def asIs : List D → Option (List Int)
  | [] => some []
  | .int i :: ds => (asIs ds).bind fun is => some (i :: is)
  | _ => none
def asBs : List D → Option (List Bool)
  | [] => some []
  | .bool i :: ds => (asBs ds).bind fun is => some (i :: is)
  | _ => none
theorem asIs_eq : ∀ {ds : List D} {ns : List Int}, asIs ds = some ns → ds = ns.map .int
  | [], _, e => by cases e; rfl
  | d :: ds, ns, e => by
    cases d with
    | int i =>
      obtain ⟨is, h1, h2⟩ := bind_some_iff e
      cases h2
      rw [asIs_eq h1]
      rfl
    | _ => cases e
theorem asBs_eq : ∀ {ds : List D} {ns : List Bool}, asBs ds = some ns → ds = ns.map .bool
  | [], _, e => by cases e; rfl
  | d :: ds, ns, e => by
    cases d with
    | bool i =>
      obtain ⟨is, h1, h2⟩ := bind_some_iff e
      cases h2
      rw [asBs_eq h1]
      rfl
    | _ => cases e
theorem asIs_ints : ∀ ns : List Int, asIs (ns.map .int) = some ns
  | [] => rfl
  | n :: ns => by
    show (asIs (ns.map .int)).bind _ = _
    rw [asIs_ints ns]
    rfl
theorem asBs_bools : ∀ ns : List Bool, asBs (ns.map .bool) = some ns
  | [] => rfl
  | n :: ns => by
    show (asBs (ns.map .bool)).bind _ = _
    rw [asBs_bools ns]
    rfl
theorem bools_of_dpAll {K : PySem.W.Frag} {H : Hp} : ∀ {ns : List Bool} {vs : List V}, DpAll K H vs (ns.map PyData.bool) → vs = ns.map V.bl
  | [], _, h => by cases h; rfl
  | n :: r, _, h => by
    cases h with
    | cons a t =>
      cases a
      rw [bools_of_dpAll t]
      rfl
def pSum := p1 fun r m => (asLT r m).bind fun ds => (asIs ds).bind fun ns => some (.val (.int ns.sum), m)
def pAll := p1 fun r m => (asL r m).bind fun ds => (asBs ds).bind fun ns => some (.val (.bool (ns.all id)), m)
def pAny := p1 fun r m => (asL r m).bind fun ds => (asBs ds).bind fun ns => some (.val (.bool (ns.any id)), m)
def pTupleOf := p1 fun r m => match r with
  | .val (.tuple ds) => some (.val (.tuple ds), m)
  | r => (asL r m).bind fun ds => some (.val (.tuple ds), m)
/-- they can be compared with one another -/
def alikeB (ds : List D) : Bool := (ds.all fun x => ds.all fun y => PySem.W.alike x y) && ds.all fun x => match x with
  | .none => false
  | _ => true
theorem alikeB_ok {ds : List D} (h : alikeB ds = true) : PySem.W.AlikeAll ds := by
  unfold alikeB at h
  rw [Bool.and_eq_true, List.all_eq_true, List.all_eq_true] at h
  refine ⟨fun x hx y hy => List.all_eq_true.mp (h.1 x hx) y hy, fun x hx e => ?_⟩
  have := h.2 x hx
  rw [e] at this
  cases this
def smallAll (ds : List D) : Bool := decide (PyData.depthAll ds ≤ 60)
def pMinL := p1 fun r m => (asLT r m).bind fun ds => match ds with
  | [] => none
  | d :: ds => if (alikeB (d :: ds) && smallAll (d :: ds)) = true then some (.val (PySem.W.minD d ds), m) else none
def pMaxL := p1 fun r m => (asLT r m).bind fun ds => match ds with
  | [] => none
  | d :: ds => if (alikeB (d :: ds) && smallAll (d :: ds)) = true then some (.val (PySem.W.maxD d ds), m) else none
def pMin := pOrs pMin2 pMinL
def pMax := pOrs pMax2 pMaxL
def pRepr := p1 fun r m => (asD r m).bind fun d => if (d.showable && !d.hasDict && decide (d.depth ≤ 60) && decide (d.shown.length ≤ sizeLine)) = true then some (.val (.str d.shown), m) else none
section
variable {X : Cx} {k : Nat}
theorem one_val {v : V} {us : List Value} (h : Vals [v] us) : ∃ u, us = [u] ∧ RelV v u := Vals.one h
theorem c_len : CallR X (.builtin "len") (rsP ζ X.K pLen) := c_one fun pins s σ H v us Q φ m a r m' I rx S ra hf kk => by
  obtain ⟨ds, h1, hf⟩ := bind_some_iff hf
  cases hf
  obtain ⟨p, xs, rfl, hs, hd⟩ := seqLT_of S ra h1
  exact call_len_seq pins s σ H _ us Q I rx ⟨p, xs, rfl, hs, by rw [DpAll.len hd]; exact kk φ H _ .refl S (Dp.int _)⟩
theorem c_abs : CallR X (.builtin "abs") (rsP ζ X.K pAbs) := c_one fun pins s σ H v us Q φ m a r m' I rx S ra hf kk => by
  obtain ⟨i, h1, hf⟩ := bind_some_iff hf
  cases hf
  have e := asI_some h1
  subst e
  have e := rr_int ra
  subst e
  exact call_abs pins s σ H _ us Q I rx ⟨i, rfl, kk φ H _ .refl S (Dp.int _)⟩
theorem c_min2 (hc : X.calm = true) : CallR X (.builtin "min") (rsP ζ X.K pMin2) := c_two fun pins s σ H v v2 us Q φ m a b r m' I rx S ra rb hf kk => by
  obtain ⟨i, h1, hf⟩ := bind_some_iff hf
  obtain ⟨j, h2, hf⟩ := bind_some_iff hf
  cases hf
  have e := asI_some h1
  subst e
  have e := asI_some h2
  subst e
  have e := rr_int ra
  subst e
  have e := rr_int rb
  subst e
  exact call_min2 hc pins s σ H _ us Q I rx ⟨i, j, rfl, kk φ H _ .refl S (Dp.int _)⟩
theorem c_max2 (hc : X.calm = true) : CallR X (.builtin "max") (rsP ζ X.K pMax2) := c_two fun pins s σ H v v2 us Q φ m a b r m' I rx S ra rb hf kk => by
  obtain ⟨i, h1, hf⟩ := bind_some_iff hf
  obtain ⟨j, h2, hf⟩ := bind_some_iff hf
  cases hf
  have e := asI_some h1
  subst e
  have e := asI_some h2
  subst e
  have e := rr_int ra
  subst e
  have e := rr_int rb
  subst e
  exact call_max2 hc pins s σ H _ us Q I rx ⟨i, j, rfl, kk φ H _ .refl S (Dp.int _)⟩
theorem c_int : CallR X (.type "int") (rsP ζ X.K pInt) := c_one fun pins s σ H v us Q φ m a r m' I rx S ra hf kk => by
  split at hf
  · cases hf
    have e := rr_int ra
    subst e
    exact call_int1 pins s σ H _ us Q I rx (.inl ⟨_, rfl, kk φ H _ .refl S (Dp.int _)⟩)
  · cases hf
    have e := rr_bool ra
    subst e
    exact call_int1 pins s σ H _ us Q I rx (.inr ⟨_, rfl, kk φ H _ .refl S (Dp.int _)⟩)
  · cases hf
theorem c_sum (hc : X.calm = true) : CallR X (.builtin "sum") (rsP ζ X.K pSum) := c_one fun pins s σ H v us Q φ m a r m' I rx S ra hf kk => by
  obtain ⟨ds, h1, hf⟩ := bind_some_iff hf
  obtain ⟨ns, h2, hf⟩ := bind_some_iff hf
  cases hf
  have e := asIs_eq h2
  subst e
  obtain ⟨p, xs, rfl, hs, hd⟩ := seqLT_of S ra h1
  have e := ints_of_dpAll hd
  subst e
  have fin := kk φ H (.int ns.sum) .refl S (Dp.int _)
  rcases hs with hs | hs
  · exact cr_sum hc pins s σ H _ us Q I rx ⟨p, ns, rfl, hs, fin⟩
  · obtain ⟨its, rv, pl, hz⟩ := I.tuple hs
    obtain ⟨u, rfl, ru⟩ := one_val rx
    cases ru
    obtain ⟨xs, e⟩ := (rv.ints).allInts.items
    have hn : numsOf (intItems xs).toList = ns := by rw [← e]; exact (rv.ints).numsOf
    rw [nums_intItems] at hn
    rw [e] at pl
    have hlt : p < s.heap.objs.size := pl.lt
    refine PySem.call_sum_walkG (PySem.wpAny_pyIter_tuple pl ?_)
    refine ⟨_, _, _, _, _, _, numAt xs, rfl, Walks.tuple (A := X.A.in1) (I.ok.hd hc) _ p (Nat.ne_of_lt hlt) (intItems xs), ⟨⟨_, Heap.get?_push_size _ rfl, rfl, rfl⟩, Heap.IsTuple.push pl _⟩, fun b hb => ?_, (fun _ _ => intItems_at), fun h' tk t' hk => ?_⟩
    · show b < (s.heap.push _).objs.size
      rw [Heap.size_push]
      rcases List.mem_cons.mp hb with rfl | hb
      · exact Nat.lt_succ_self _
      · rcases List.mem_cons.mp hb with rfl | hb
        · exact Nat.lt_succ_of_lt hlt
        · cases hb
    · have hsz : (intItems xs).size = xs.size := by simp [intItems]
      rw [hsz, preSum_eq, List.take_of_length_le (by simp), hn]
      refine ⟨.int ns.sum, H, I.kept (t' := tk) fun b o e => hk b o (fun z => ?_) (Heap.get?_push_of_some _ e), ⟨_, rfl⟩, fin⟩
      exact absurd (Heap.lt_size e) ((List.mem_singleton.mp z) ▸ Nat.lt_irrefl _)
theorem c_all (hc : X.calm = true) : CallR X (.builtin "all") (rsP ζ X.K pAll) := c_one fun pins s σ H v us Q φ m a r m' I rx S ra hf kk => by
  obtain ⟨ds, h1, hf⟩ := bind_some_iff hf
  obtain ⟨ns, h2, hf⟩ := bind_some_iff hf
  cases hf
  have e := asBs_eq h2
  subst e
  obtain ⟨p, xs, rfl, hs, hd⟩ := seqL_of S ra h1
  have e := bools_of_dpAll hd
  subst e
  exact cr_all hc pins s σ H _ us Q I rx ⟨p, ns, rfl, hs, kk φ H _ .refl S (Dp.bl _)⟩
theorem c_any (hc : X.calm = true) : CallR X (.builtin "any") (rsP ζ X.K pAny) := c_one fun pins s σ H v us Q φ m a r m' I rx S ra hf kk => by
  obtain ⟨ds, h1, hf⟩ := bind_some_iff hf
  obtain ⟨ns, h2, hf⟩ := bind_some_iff hf
  cases hf
  have e := asBs_eq h2
  subst e
  obtain ⟨p, xs, rfl, hs, hd⟩ := seqL_of S ra h1
  have e := bools_of_dpAll hd
  subst e
  exact cr_any hc pins s σ H _ us Q I rx ⟨p, ns, rfl, hs, kk φ H _ .refl S (Dp.bl _)⟩
theorem c_tuple : CallR X (.type "tuple") (rsP ζ X.K pTupleOf) := c_one fun pins s σ H v us Q φ m a r m' I rx S ra hf kk => by
  have lst : ∀ ds, asL a m = some ds → ValK ζ X.K φ H (.val (.tuple ds)) m Q → wpAny (model X.prog X.w) X.A (call (.type "tuple") us) (EP X pins σ Q) X.xe s := fun ds h1 kk => by
    obtain ⟨p, xs, rfl, hs, hd⟩ := seqL_of S ra h1
    exact call_tuple_of pins s σ H _ us Q I rx ⟨p, xs, rfl, .inl ⟨hs, fun q hq => kk φ _ _ (gr_alloc hq) (S.alloc hq) (rr_newT S hq hd)⟩⟩
  split at hf
  · cases hf
    obtain ⟨p, xs, rfl, hs, hd⟩ := seqT_of ra
    exact call_tuple_of pins s σ H _ us Q I rx ⟨p, xs, rfl, .inr ⟨hs, kk φ H _ .refl S ra⟩⟩
  · obtain ⟨ds, h1, hf⟩ := bind_some_iff hf
    cases hf
    exact lst ds h1 kk
theorem val_at {φ : Ad} {H : Hp} {pins : List (Addr × Obj)} {s : Shared} {σ : L2.St} {ds : List D} {xs : List V} {its : List Value} {i : Nat} {u : Value} {d : D} {h' : Heap} {bs : List Addr} (I : Inv X pins σ H s) (hd : DpAll X.K (off φ H) xs ds) (rv : Vals xs its)
    (hu : its[i]? = some u) (k : ∀ b o, s.heap.get? b = some o → h'.get? b = some o) (r : Reads h' u d bs) : ∃ v, RelV v u ∧ Dp X.K (off φ H) v d := by
  have hi : i < xs.length := by
    rw [rv.length]
    exact (List.getElem?_eq_some_iff.mp hu).1
  obtain ⟨d0, h1, h2⟩ := DpAll.get' hd (List.getElem?_eq_getElem hi)
  obtain ⟨u', h3, h4⟩ := rv.get (List.getElem?_eq_getElem hi)
  rw [hu] at h3
  cases h3
  obtain ⟨as, q⟩ := Dp.reads I d0 _ u (dp_mono off_same h2) h4
  have q' := Reads.keeps k q
  have e := (Reads.unique q' d bs r).1
  rw [e] at h2
  exact ⟨_, h4, h2⟩
theorem c_minL (hc : X.calm = true) (hr : Room k X.A) : CallR X (.builtin "min") (rsP ζ X.K pMinL) := c_one fun pins s σ H v us Q φ m a r m' I rx S ra hf kk => by
  obtain ⟨ds, h1, hf⟩ := bind_some_iff hf
  cases ds with
  | nil => cases hf
  | cons d ds =>
    simp only at hf
    split at hf
    · rename_i hcond
      cases hf
      rw [Bool.and_eq_true] at hcond
      have hal := alikeB_ok hcond.1
      have hsm : PyData.depthAll (d :: ds) ≤ 60 := of_decide_eq_true hcond.2
      have hun := hr.un
      have hu : X.A.units + 1 + PyData.depthAll (d :: ds) < cLine := by omega
      obtain ⟨p, xs, rfl, hs, hd⟩ := seqLT_of S ra h1
      obtain ⟨u, rfl, ru⟩ := one_val rx
      cases ru
      have hd' := dps_mono off_same hd
      have fin : ∀ (its : List Value), Vals xs its → ∀ (i : Nat) v h' tk bs, its[i]? = some v → Reads h' v (PySem.W.minD d ds) bs → (∀ b o, s.heap.get? b = some o → h'.get? b = some o) → EP X pins σ Q v { s with heap := h', toks := tk } := by
        intro its rv i u h' tk bs e r k
        obtain ⟨v, h4, h2⟩ := val_at I hd rv e k r
        exact ⟨v, H, I.kept (t' := tk) k, h4, kk φ H v .refl S h2⟩
      rcases hs with hs | hs
      · obtain ⟨its, rv, pl, hz⟩ := I.list hs
        obtain ⟨as, hR⟩ := Dp.readsAll I (d :: ds) xs its hd' rv
        exact PySem.W.min_list_data (I.ok.hd hc) pl.isList (by simpa using hR) hal hu fun i v h' tk bs e => fin its rv i v h' tk bs (by simpa using e)
      · obtain ⟨its, rv, pl, hz⟩ := I.tuple hs
        obtain ⟨as, hR⟩ := Dp.readsAll I (d :: ds) xs its hd' rv
        exact PySem.W.min_tuple_data (I.ok.hd hc) pl (by simpa using hR) hal hu fun i v h' tk bs e => fin its rv i v h' tk bs (by simpa using e)
    · cases hf
theorem c_maxL (hc : X.calm = true) (hr : Room k X.A) : CallR X (.builtin "max") (rsP ζ X.K pMaxL) := c_one fun pins s σ H v us Q φ m a r m' I rx S ra hf kk => by
  obtain ⟨ds, h1, hf⟩ := bind_some_iff hf
  cases ds with
  | nil => cases hf
  | cons d ds =>
    simp only at hf
    split at hf
    · rename_i hcond
      cases hf
      rw [Bool.and_eq_true] at hcond
      have hal := alikeB_ok hcond.1
      have hsm : PyData.depthAll (d :: ds) ≤ 60 := of_decide_eq_true hcond.2
      have hun := hr.un
      have hu : X.A.units + 1 + PyData.depthAll (d :: ds) < cLine := by omega
      obtain ⟨p, xs, rfl, hs, hd⟩ := seqLT_of S ra h1
      obtain ⟨u, rfl, ru⟩ := one_val rx
      cases ru
      have hd' := dps_mono off_same hd
      have fin : ∀ (its : List Value), Vals xs its → ∀ (i : Nat) v h' tk bs, its[i]? = some v → Reads h' v (PySem.W.maxD d ds) bs → (∀ b o, s.heap.get? b = some o → h'.get? b = some o) → EP X pins σ Q v { s with heap := h', toks := tk } := by
        intro its rv i u h' tk bs e r k
        obtain ⟨v, h4, h2⟩ := val_at I hd rv e k r
        exact ⟨v, H, I.kept (t' := tk) k, h4, kk φ H v .refl S h2⟩
      rcases hs with hs | hs
      · obtain ⟨its, rv, pl, hz⟩ := I.list hs
        obtain ⟨as, hR⟩ := Dp.readsAll I (d :: ds) xs its hd' rv
        exact PySem.W.max_list_data (I.ok.hd hc) pl.isList (by simpa using hR) hal hu fun i v h' tk bs e => fin its rv i v h' tk bs (by simpa using e)
      · obtain ⟨its, rv, pl, hz⟩ := I.tuple hs
        obtain ⟨as, hR⟩ := Dp.readsAll I (d :: ds) xs its hd' rv
        exact PySem.W.max_tuple_data (I.ok.hd hc) pl (by simpa using hR) hal hu fun i v h' tk bs e => fin its rv i v h' tk bs (by simpa using e)
    · cases hf
theorem c_min (hc : X.calm = true) (hr : Room k X.A) : CallR X (.builtin "min") (rsP ζ X.K pMin) := c_or (c_min2 hc) (c_minL hc hr)
theorem c_max (hc : X.calm = true) (hr : Room k X.A) : CallR X (.builtin "max") (rsP ζ X.K pMax) := c_or (c_max2 hc) (c_maxL hc hr)
theorem c_repr (hg : X.A.guards = some []) (hr : Room k X.A) : CallR X (.builtin "repr") (rsP ζ X.K pRepr) := c_one fun pins s σ H v us Q φ m a r m' I rx S ra hf kk => by
  obtain ⟨d, h1, hf⟩ := bind_some_iff hf
  split at hf
  · rename_i hc
    cases hf
    simp only [Bool.and_eq_true, decide_eq_true_eq, Bool.not_eq_true'] at hc
    obtain ⟨⟨⟨c1, c2⟩, c3⟩, c4⟩ := hc
    have hd := asD_dp S ra h1
    obtain ⟨u, rfl, ru⟩ := one_val rx
    obtain ⟨as, q⟩ := Dp.reads I d v u hd ru
    have hun := hr.un
    have fin := kk φ H (.str d.shown) .refl S (Dp.str _)
    have cont : ∀ b, u = .ref b → wpAny (model X.prog X.w) X.A (call (.builtin "repr") [u]) (EP X pins σ Q) X.xe s := fun b e => by
      subst e
      refine PySem.repr_of_reads' (hsz := c4) q c1 (fun z => by rw [c2] at z; cases z) hg (by omega) (fun _ _ z => z) fun h' u tk kp => ?_
      exact ⟨.str d.shown, H, I.kept (t' := tk) kp, ⟨_, rfl⟩, fin⟩
    cases hd with
    | non =>
      cases ru
      exact PySem.P.repr_of_none ⟨.str _, H, I.tok _, ⟨_, rfl⟩, fin⟩
    | bl b =>
      cases ru
      exact PySem.P.repr_of_bool ⟨.str _, H, I.tok _, ⟨_, rfl⟩, fin⟩
    | int i =>
      obtain ⟨t, rfl⟩ := ru
      exact PySem.P.repr_of_int (of_decide_eq_true c1) ⟨.str _, H, I.tok _, ⟨_, rfl⟩, fin⟩
    | str z =>
      obtain ⟨t, rfl⟩ := ru
      exact PySem.P.repr_of_str (hsz := c4) ⟨.str _, H, I.tok _, ⟨_, rfl⟩, fin⟩
    | lst hs ha =>
      cases ru
      exact cont _ rfl
    | tup hs ha =>
      cases ru
      exact cont _ rfl
  · cases hf
end

/-! ### isinstance -/
inductive Ty where
  | int | bool | str | tuple | list
def Ty.nm : Ty → String
  | .int => "int"
  | .bool => "bool"
  | .str => "str"
  | .tuple => "tuple"
  | .list => "list"
def isA (t : Ty) : R → Bool
  | .val (.int _) => match t with
    | .int => true
    | _ => false
  | .val (.bool _) => match t with
    | .int => true
    | .bool => true
    | _ => false
  | .val (.str _) => match t with
    | .str => true
    | _ => false
  | .val (.tuple _) => match t with
    | .tuple => true
    | _ => false
  | .val (.list _) => match t with
    | .list => true
    | _ => false
  | .ref _ => match t with
    | .list => true
    | _ => false
  | _ => false
def eIsA (t : Ty) (f : EF) : EF := fun env m => (f env m).bind fun x => match x.1 with
  | .ref k => (x.2[k]?).bind fun o => match o with
    | .lst _ => some (.val (.bool (isA t (.ref k))), x.2)
  | r => some (.val (.bool (isA t r)), x.2)
section
variable {X : Cx} {e : Expr} {f : EF} {p0 p1 pos : Pos} {x y : Str}
theorem kb_list (t : Ty) : kitB "list" t.nm = some (isA t (.val (.list []))) := by cases t <;> decide +kernel
theorem kb_none (t : Ty) : kitB "NoneType" t.nm = some (isA t (.val .none)) := by cases t <;> decide +kernel
theorem kb_bool (t : Ty) : kitB "bool" t.nm = some (isA t (.val (.bool true))) := by cases t <;> decide +kernel
theorem kb_int (t : Ty) : kitB "int" t.nm = some (isA t (.val (.int 0))) := by cases t <;> decide +kernel
theorem kb_str (t : Ty) : kitB "str" t.nm = some (isA t (.val (.str (Str.ofString "")))) := by cases t <;> decide +kernel
theorem kb_tuple (t : Ty) : kitB "tuple" t.nm = some (isA t (.val (.tuple []))) := by cases t <;> decide +kernel
theorem tyx_T {K : PySem.W.Frag} {H : Hp} {a : Addr} {xs : List V} (h : SqT K H a xs) : TyX K H (.ref a) (.type "tuple") := by
  rcases h with (h | ⟨o, h⟩) | ⟨o, its, n, h1, h2, _⟩
  · exact .base (.tup h)
  · exact .fTuple h
  · exact .kTuple h1 h2
theorem tyx_L {K : PySem.W.Frag} {H : Hp} {a : Addr} {xs : List V} (h : SqL K H a xs) : TyX K H (.ref a) (.type "list") := by
  rcases h with (h | ⟨o, h⟩) | ⟨o, its, n, h1, h2, _⟩
  · exact .base (.lst h)
  · exact .base (.frz h)
  · exact .kList h1 h2
theorem x_isa (t : Ty) (hx : y = Str.ofString t.nm) (he : PE X e (tE ζ X.K f)) (hg : Gl X "isinstance") (hm : X.mg "isinstance" = none) (hg2 : Gl X y) (hm2 : X.mg y = none) (hv2 : bootBuiltins y = some (.type t.nm)) (hn2 : y ≠ "__name__" := by decide) (hd2 : (y == ("__debug__" : Str)) = false := by decide)
    (s1 : starEach [e, .Name y p1] X.env = (false, eval e X.env) :: starEach [.Name y p1] X.env := by rfl) (hpl : (backTo pos (starEach [.Name y p1] X.env)).any (·.1) = false := by rfl) : PE X (.Call (.Name "isinstance" p0) [e, .Name y p1] [] pos) (tE ζ X.K (eIsA t f)) := by
  refine pe_imp (pe_callB (call_isi (X := X)) hg hm (by decide +kernel) (pa_cons he (pa_cons (pe_bltn (v := .ty t.nm) hg2 hm2 hv2 rfl hn2 hd2) pa_nil) s1) (he := s1) (hpl := hpl)) fun σ H Q q => ?_
  obtain ⟨φ, env, m, r, m', S, E, hf, k⟩ := q
  obtain ⟨⟨r1, m1⟩, h1, hf⟩ := bind_some_iff hf
  refine ⟨φ, env, m, r1, m1, S, E, h1, fun φ1 H1 v g1 S1 R1 => ?_⟩
  have goal : ∀ b ty, r = .val (.bool b) → m' = m1 → TyX X.K H1 v (.type ty) → kitB ty t.nm = some b → rIsi X.K [v, .ty t.nm] H1 Q := fun b ty e1 e2 h2 h3 => by
    subst e1 e2
    exact ⟨v, .ty t.nm, .type ty, .type t.nm, b, rfl, .ty _, h2, kit_ty h3, k φ1 H1 _ g1 S1 (Dp.bl _)⟩
  show rIsi X.K [v, .ty t.nm] H1 Q
  cases r1 with
  | ref j =>
    obtain ⟨o, ho, hf⟩ := bind_some_iff hf
    obtain ⟨a, rfl, ha⟩ := R1
    cases o with
    | lst ds =>
      cases hf
      obtain ⟨xs, h3, h4⟩ := S1.obj j _ a ho ha
      exact goal _ "list" rfl rfl (tyx_L (.inl (.inl h3))) (kb_list t)
  | val d =>
    have R1' : Dp X.K (off φ1 H1) v d := R1
    cases R1' with
    | non =>
      cases hf
      exact goal _ "NoneType" rfl rfl (.base .non) (kb_none t)
    | bl b =>
      cases hf
      exact goal _ "bool" rfl rfl (.base (.bl b)) (kb_bool t)
    | int i =>
      cases hf
      exact goal _ "int" rfl rfl (.base (.int i)) (kb_int t)
    | str z =>
      cases hf
      exact goal _ "str" rfl rfl (.base (.str z)) (kb_str t)
    | lst hs ha =>
      cases hf
      exact goal _ "list" rfl rfl (tyx_L (off_same.seq hs)) (kb_list t)
    | tup hs ha =>
      cases hf
      exact goal _ "tuple" rfl rfl (tyx_T (sqT_mono off_same hs)) (kb_tuple t)
end
end Ev

set_option Elab.async false
set_option linter.all false
set_option maxRecDepth 100000
/-! Methods of lists, stores to items, x op= y, enumerate, the law's end. -/
namespace Ev
open PySem PySem.Spec PyProof.Rows L2

/-! ### methods of lists -/
abbrev MF := R → List R → M → Option (R × M)
def rmP (ζ : Tbs) (K : PySem.W.Frag) (p : MF) : V → List V → Hp → VK → Prop := fun x xs H Q => ∃ φ m r0 rs r m', SR ζ K φ H m ∧ RR K φ H x r0 ∧ RRs K φ H xs rs ∧ p r0 rs m = some (r, m') ∧ ValK ζ K φ H r m' Q
/-- the receiver is a list -/
def eBM (p : MF) (f : EF) (fa : AF) : EF := fun env m => (f env m).bind fun x => (asL x.1 x.2).bind fun _ => (fa env x.2).bind fun y => p x.1 y.1 y.2
section
variable {X : Cx} {o e : Expr} {es : List Expr} {f : EF} {fa : AF} {p : MF} {id : String} {name : Str} {apos cpos : Pos}
theorem bm_imp {K : PySem.W.Frag} {σ : L2.St} {H : Hp} {Q : VK} (q : tE ζ K (eBM p f fa) σ H Q) : tBM K "list" (rmP ζ K p) (tE ζ K f) (tA ζ K fa) σ H Q := by
  obtain ⟨φ, env, m, r, m', S, E, hf, k⟩ := q
  obtain ⟨⟨r1, m1⟩, h1, hf⟩ := bind_some_iff hf
  obtain ⟨ds, h2, hf⟩ := bind_some_iff hf
  obtain ⟨⟨rs, m3⟩, h3, hf⟩ := bind_some_iff hf
  refine ⟨φ, env, m, r1, m1, S, E, h1, fun φ1 H1 v g1 S1 R1 => ?_⟩
  obtain ⟨a, xs, rfl, hs, hd⟩ := seqL_of S1 R1 h2
  refine ⟨.inl ⟨rfl, xs, hs⟩, φ1, env, m1, rs, m3, S1, E.mono g1, h3, fun φ2 H2 vs g2 S2 R2 => ?_⟩
  exact ⟨φ2, m3, r1, rs, r, m', S2, R1.mono g2, R2, hf, fun φ3 H3 v3 g3 S3 R3 => k φ3 H3 v3 (g1.trans (g2.trans g3)) S3 R3⟩
theorem x_bm (slot : Slot "list" name id) (hty : typeOf (.builtin id) = pure (.type "method_descriptor")) (hm : MtR X id (rmP ζ X.K p)) (ho : PE X o (tE ζ X.K f)) (ha : PA X (e :: es) (tA ζ X.K fa))
    (hbase : attributeBase o name X.env (eval o X.env) = eval o X.env := by rfl)
    (hfew : ((backTo cpos (starEach (e :: es) X.env)).all (fun x => !x.1) && (backToKw cpos (keywordEach [] X.env)).all (fun x => x.1.isSome)
      && decide ((e :: es).length + ([] : List Keyword).length + (if ([] : List Keyword).isEmpty then 0 else 1) < 30)) = true := by rfl)
    (hline : (apos.endLine == cpos.line) = true := by rfl) (hs : starEach (e :: es) X.env = (false, eval e X.env) :: starEach es X.env := by rfl) (hplain : (backTo cpos (starEach es X.env)).any (·.1) = false := by rfl) :
    PE X (.Call (.Attribute o name apos) (e :: es) [] cpos) (tE ζ X.K (eBM p f fa)) :=
  pe_imp (pe_bm PySem.F.plainAttrs_list slot hty hm ho ha hbase hfew hline hs hplain) fun _ _ _ q => bm_imp q
end
def pAppend : MF := fun r rs m => match r, rs with
  | .ref k, [.val d] => (m[k]?).bind fun o => match o with
    | .lst ds => if ds.length < sizeLine then some (.val .none, m.set k (.lst (ds ++ [d]))) else none
  | _, _ => none
/-- the first place of an equal item -/
def firstEq (d : D) : List D → Option Nat
  | [] => none
  | e :: es => if PyData.eqv e d = true then some 0 else (firstEq d es).bind fun j => some (j + 1)
def pIndex : MF := fun r rs m => match rs with
  | [a] => (asD a m).bind fun d => (asL r m).bind fun ds => if (SeqAt.shaped (.list ds) && SeqAt.shaped d) = true then (firstEq d ds).bind fun j => some (.val (.int j), m) else none
  | _ => none
theorem firstEq_at : ∀ {d : D} {ds : List D} {j : Nat}, firstEq d ds = some j → ∃ z, ds[j]? = some z ∧ PyData.eqv z d = true ∧ ∀ (i : Nat) (z' : D), i < j → ds[i]? = some z' → PyData.eqv z' d = false
  | d, [], j, h => by cases h
  | d, e :: es, j, h => by
    unfold firstEq at h
    split at h
    · rename_i he
      cases h
      exact ⟨e, rfl, he, fun i z' hi => absurd hi (Nat.not_lt_zero _)⟩
    · rename_i he
      obtain ⟨i, h1, h2⟩ := bind_some_iff h
      cases h2
      obtain ⟨z, a, b, c⟩ := firstEq_at h1
      refine ⟨z, a, b, fun j z' hj hz => ?_⟩
      cases j with
      | zero =>
        cases hz
        simpa using he
      | succ j => exact c j z' (Nat.lt_of_succ_lt_succ hj) hz
section
variable {X : Cx} {k : Nat}
theorem m_append : MtR X "list.append" (rmP ζ X.K pAppend) := by
  intro pins s σ H x xs v us Q I rx rxs h
  obtain ⟨φ, m, r0, rs, r, m', S, R0, RS, hf, kk⟩ := h
  unfold pAppend at hf
  split at hf
  · rename_i k d
    obtain ⟨ob, ho, hf⟩ := bind_some_iff hf
    cases ob with
    | lst ds =>
      simp only at hf
      split at hf
      · rename_i hl
        cases hf
        obtain ⟨a, rfl, ha⟩ := R0
        obtain ⟨zs, h3, h4⟩ := S.obj k _ a ho ha
        cases RS with
        | cons r1 t1 =>
          cases t1
          have hin : a ∈ φ.s := List.mem_of_getElem? ha
          refine mt_append pins s σ H _ _ v us Q I rx rxs ⟨a, zs, _, rfl, rfl, h3, by rw [DpAll.len h4]; exact hl, ?_⟩
          exact kk φ _ _ (gr_write hin (S.apart hin)) (S.write ha (DpAll.append h4 (.cons r1 .nil))) Dp.non
      · cases hf
  · cases hf
theorem m_index (hr : Room k X.A) : MtR X "list.index" (rmP ζ X.K pIndex) := by
  intro pins s σ H x xs v us Q I rx rxs h
  obtain ⟨φ, m, r0, rs, r, m', S, R0, RS, hf, kk⟩ := h
  unfold pIndex at hf
  split at hf
  · obtain ⟨d, h1, hf⟩ := bind_some_iff hf
    obtain ⟨ds, h2, hf⟩ := bind_some_iff hf
    split at hf
    · rename_i hc
      obtain ⟨j, h3, hf⟩ := bind_some_iff hf
      cases hf
      rw [Bool.and_eq_true] at hc
      obtain ⟨z, e1, e2, e3⟩ := firstEq_at h3
      cases RS with
      | cons r1 t1 =>
        cases t1
        obtain ⟨a, zs, rfl, hs, hd⟩ := seqL_of S R0 h2
        have hun := hr.un
        refine mt_indexD (by omega) pins s σ H _ _ v us Q I rx rxs ⟨a, _, d, ds, j, z, rfl, rfl, .lst hs (dps_mono off_same hd), asD_dp S r1 h1, hc.1, hc.2, e1, e2, e3, kk φ H _ .refl S (Dp.int _)⟩
    · cases hf
  · cases hf
end

/-! ### o[i] = v, o[i] op= v, x op= v -/
def pSet (o i v : R) (m : M) : Option M := match o, v with
  | .ref k, .val d => (m[k]?).bind fun ob => match ob with
    | .lst ds => (asI i).bind fun z => (ixN ds.length z).bind fun j => some (m.set k (.lst (ds.set j d)))
  | _, _ => none
def rSetP (ζ : Tbs) (K : PySem.W.Frag) (p : R → R → R → M → Option M) : V → V → V → Hp → (Hp → Prop) → Prop := fun o i v H Q => ∃ φ m r1 r2 r3 m', SR ζ K φ H m ∧ RR K φ H o r1 ∧ RR K φ H i r2 ∧ RR K φ H v r3 ∧ p r1 r2 r3 m = some m' ∧
  ∀ φ' H', Gr φ H φ' H' → SR ζ K φ' H' m' → Q H'
def gSubF (p : R → R → R → M → Option M) (f g : EF) : GF := fun r env m => (f env m).bind fun x => (g env x.2).bind fun y => (p x.1 y.1 r y.2).bind fun m' => some (env, m')
/-- x op= e -/
def sAugF (p : R → R → M → Option (R × M)) (i : Nat) (f : EF) : SF := fun env m => (eVar i env m).bind fun x => (f env m).bind fun y => (p x.1 y.1 y.2).bind fun z => some (.nx (env.set i (some z.1)) z.2)
/-- o[i] op= e -/
def sAugSF (q : R → R → M → Option (R × M)) (p : R → R → R → M → Option M) (f g h : EF) : SF := fun env m => (f env m).bind fun x => (g env x.2).bind fun y => (pIdx x.1 y.1 y.2).bind fun z => (h env z.2).bind fun w => (q z.1 w.1 w.2).bind fun u => (p x.1 y.1 u.1 u.2).bind fun m' => some (.nx env m')
section
variable {X : Cx} {o i e : Expr} {f g h : EF} {pos tpos pos' : Pos}
theorem set_ok : PSet X (rSetP ζ X.K pSet) := by
  intro pins s σ H o i v ov iv u Q I ro ri rv z
  obtain ⟨φ, m, r1, r2, r3, m', S, R1, R2, R3, hf, kk⟩ := z
  unfold pSet at hf
  split at hf
  · rename_i k d
    obtain ⟨ob, ho, hf⟩ := bind_some_iff hf
    cases ob with
    | lst ds =>
      obtain ⟨n, h2, hf⟩ := bind_some_iff hf
      obtain ⟨j, h3, hf⟩ := bind_some_iff hf
      cases hf
      have e2 := asI_some h2
      subst e2
      have e2 := rr_int R2
      subst e2
      obtain ⟨a, rfl, ha⟩ := R1
      obtain ⟨zs, h4, h5⟩ := S.obj k _ a ho ha
      have hin : a ∈ φ.s := List.mem_of_getElem? ha
      exact set_list pins s σ H _ _ v ov iv u Q I ro ri rv ⟨a, zs, n, j, rfl, rfl, h4, by rw [DpAll.len h5]; exact h3, kk φ _ (gr_write hin (S.apart hin)) (S.write ha (DpAll.set R3 j h5))⟩
  · cases hf
theorem g_sub {p : R → R → R → M → Option M} (ho : PE X o (tE ζ X.K f)) (hi : PE X i (tE ζ X.K g)) (hs : PSet X (rSetP ζ X.K p))
    (ha : ∀ v, assign (.Subscript o i pos) X.env v = (do
      let ov ← holding [v] (eval o X.env)
      let iv ← holding [v, ov] (eval i X.env)
      standAt pos
      holding [v, ov, iv] (setItem ov iv v)
      release [v, ov, iv] []) := by intros; rfl) : PG X (.Subscript o i pos) (tG ζ X.K (gSubF p f g)) := tg_imp (pg_sub ho hi hs ha) fun v σ H Q q => by
  obtain ⟨φ, env, m, r, e', m', S, E, Rv, hf, k⟩ := q
  obtain ⟨⟨r1, m1⟩, h1, hf⟩ := bind_some_iff hf
  obtain ⟨⟨r2, m2⟩, h2, hf⟩ := bind_some_iff hf
  obtain ⟨m3, h3, hf⟩ := bind_some_iff hf
  cases hf
  refine ⟨φ, env, m, r1, m1, S, E, h1, fun φ1 H1 v1 g1 S1 R1 => ?_⟩
  refine ⟨φ1, env, m1, r2, m2, S1, E.mono g1, h2, fun φ2 H2 v2 g2 S2 R2 => ?_⟩
  exact ⟨φ2, m2, r1, r2, r, m', S2, R1.mono g2, R2, Rv.mono (g1.trans g2), h3, fun φ3 H3 g3 S3 => k φ3 σ H3 (g1.trans (g2.trans g3)) S3 (E.mono (g1.trans (g2.trans g3)))⟩
theorem s_aug {n : Nat} {x : Str} {op : Operator} {p : R → R → M → Option (R × M)} (hN : X.N.Nodup) (hi : X.N[n]? = some x) (hx : Loc X.env.scope x) (he : PE X e (tE ζ X.K f)) (ho : OpR X (inplaceOp op) (r2P ζ X.K p)) (hf : X.fn x = true ∨ X.env.scope.names.lookup x = some .local := by first | exact .inl rfl | exact .inr rfl | assumption) :
    PS X (.AugAssign (.Name x pos') op e pos) (tS ζ X.K (sAugF p n f)) := ps_imp (ps_aug (ti := r2P ζ X.K p) hN hi hx he ho hf) fun W σ H q => by
  obtain ⟨φ, env, m, fl, S, E, hf, k⟩ := q
  obtain ⟨⟨r1, m1⟩, h1, hf⟩ := bind_some_iff hf
  obtain ⟨⟨r2, m2⟩, h2, hf⟩ := bind_some_iff hf
  obtain ⟨⟨r3, m3⟩, h3, hf⟩ := bind_some_iff hf
  cases hf
  have hr : env[n]? = some (some r1) ∧ m = m1 := by
    unfold eVar at h1
    split at h1
    · rename_i r' h
      cases h1
      exact ⟨h, rfl⟩
    · cases h1
  obtain ⟨v, q1, q2⟩ := E.get hr.1
  refine ⟨v, q1, φ, env, m, r2, m2, S, E, h2, fun φ1 H1 v2 g1 S1 R2 => ?_⟩
  exact ⟨φ1, m2, r1, r2, r3, m3, S1, q2.mono g1, R2, h3, fun φ2 H2 v3 g2 S2 R3 => k φ2 _ H2 (g1.trans g2) S2 ((E.mono (g1.trans g2)).set R3 n)⟩
theorem get_ok : PGet X (r2P ζ X.K pIdx) := by
  intro pins s σ H o i ov iv Q I ro ri q
  obtain ⟨φ, m, r1, r2, r, m', S, R1, R2, hf, k⟩ := q
  obtain ⟨ds, h1, hf⟩ := bind_some_iff hf
  obtain ⟨n, h2, hf⟩ := bind_some_iff hf
  obtain ⟨d, h3, hf⟩ := bind_some_iff hf
  cases hf
  have e2 := asI_some h2
  subst e2
  have x2 := rr_int R2
  subst x2
  obtain ⟨p, xs, rfl, hs, hd⟩ := seqLT_of S R1 h1
  obtain ⟨z, h4, h5⟩ := DpAll.atI hd h3
  have fin := k φ H z .refl S h5
  cases ro
  obtain ⟨t, rfl⟩ := ri
  obtain ⟨j, a1, a2, a3, a4, a5⟩ := atI_get h4
  have hn := line63
  have main : ∀ (its : List Value) (rv : Vals xs its) (hz : xs.length ≤ sizeLine), ∃ w, its[j]? = some w ∧ EP X pins σ Q w s ∧ (0 ≤ n → n.toNat = j) ∧ (¬ 0 ≤ n → (n + (its.toArray.size : Int)).toNat = j) ∧ n < 2 ^ 63 ∧ -(its.toArray.size : Int) ≤ n ∧ -(2 ^ 63) ≤ n := by
    intro its rv hz
    obtain ⟨w, ew, rw'⟩ := rv.get a2
    have hl := rv.length
    refine ⟨w, ew, ⟨z, H, I, rw', fin⟩, fun h0 => ?_, fun h0 => ?_, by omega, by rw [List.size_toArray]; omega, by omega⟩
    · rw [seqIndex_of h0 a5] at a1
      exact Option.some.inj a1
    · rw [seqIndex_neg (by omega) a4] at a1
      rw [List.size_toArray, ← hl]
      exact Option.some.inj a1
  rcases hs with hs | hs
  · obtain ⟨its, rv, pl, hz⟩ := I.list hs
    obtain ⟨w, ew, fin, b1, b2, b3, b4, b5⟩ := main its rv hz
    by_cases h0 : 0 ≤ n
    · exact wpAny_getItem_list pl.isList h0 b3 (by rw [b1 h0]; simpa using ew) fin
    · exact wpAny_getItem_list_neg pl.isList (by omega) b4 b5 (by rw [b2 h0]; simpa using ew) fin
  · obtain ⟨its, rv, pl, hz⟩ := I.tuple hs
    obtain ⟨w, ew, fin, b1, b2, b3, b4, b5⟩ := main its rv hz
    exact PyProof.Rows.getItem_tuple pl b5 b3 (by rw [List.size_toArray, ← rv.length]; exact a1) (by simpa using ew) fin
theorem s_augS {op : Operator} {q : R → R → M → Option (R × M)} {p : R → R → R → M → Option M} (ho : PE X o (tE ζ X.K f)) (hi : PE X i (tE ζ X.K g)) (he : PE X e (tE ζ X.K h)) (hp : OpR X (inplaceOp op) (r2P ζ X.K q)) (hs : PSet X (rSetP ζ X.K p))
    (ha : ∀ ov iv new, augStore i ov iv new = (do holding [new, ov, iv] (setItem ov iv new); release [new, ov, iv] []; pure .next) := by intros; rfl) : PS X (.AugAssign (.Subscript o i tpos) op e pos) (tS ζ X.K (sAugSF q p f g h)) :=
  ps_imp (ps_augS (tip := r2P ζ X.K q) ho hi get_ok he hp hs ha) fun W σ H z => by
  obtain ⟨φ, env, m, fl, S, E, hf, k⟩ := z
  obtain ⟨⟨r1, m1⟩, h1, hf⟩ := bind_some_iff hf
  obtain ⟨⟨r2, m2⟩, h2, hf⟩ := bind_some_iff hf
  obtain ⟨⟨r3, m3⟩, h3, hf⟩ := bind_some_iff hf
  obtain ⟨⟨r4, m4⟩, h4, hf⟩ := bind_some_iff hf
  obtain ⟨⟨r5, m5⟩, h5, hf⟩ := bind_some_iff hf
  obtain ⟨m6, h6, hf⟩ := bind_some_iff hf
  cases hf
  refine ⟨φ, env, m, r1, m1, S, E, h1, fun φ1 H1 v1 g1 S1 R1 => ?_⟩
  refine ⟨φ1, env, m1, r2, m2, S1, E.mono g1, h2, fun φ2 H2 v2 g2 S2 R2 => ?_⟩
  refine ⟨φ2, m2, r1, r2, r3, m3, S2, R1.mono g2, R2, h3, fun φ3 H3 v3 g3 S3 R3 => ?_⟩
  refine ⟨φ3, env, m3, r4, m4, S3, E.mono (g1.trans (g2.trans g3)), h4, fun φ4 H4 v4 g4 S4 R4 => ?_⟩
  refine ⟨φ4, m4, r3, r4, r5, m5, S4, R3.mono g4, R4, h5, fun φ5 H5 v5 g5 S5 R5 => ?_⟩
  have gg := g1.trans (g2.trans (g3.trans (g4.trans g5)))
  exact ⟨φ5, m5, r1, r2, r5, m6, S5, R1.mono (g2.trans (g3.trans (g4.trans g5))), R2.mono (g3.trans (g4.trans g5)), R5, h6, fun φ6 H6 g6 S6 => k φ6 σ H6 (gg.trans g6) S6 (E.mono (gg.trans g6))⟩
theorem oi_add : OpR X (inplaceOp .Add) (r2P ζ X.K pAddI) := o_ii0 iop_add fun _ _ _ => .int _
theorem oi_sub : OpR X (inplaceOp .Sub) (r2P ζ X.K pSub) := o_ii0 iop_sub fun _ _ _ => .int _
def mulSmall (i j : Int) : Bool := decide ((-(2 ^ 64) < i ∧ i < 2 ^ 64) ∨ (-(2 ^ 64) < j ∧ j < 2 ^ 64))
def pMulS := pII mulSmall fun i j => .int (i * j)
theorem oi_mul : OpR X (inplaceOp .Mult) (r2P ζ X.K pMulS) := o_ii iop_mul (fun i j h => (of_decide_eq_true h : (-(2 ^ 64) < i ∧ i < 2 ^ 64) ∨ (-(2 ^ 64) < j ∧ j < 2 ^ 64))) fun _ _ _ => .int _
end

/-! ### enumerate -/
def enumD (ds : List D) : List D := ds.zipIdx.map fun p => .tuple [.int (p.2 : Nat), p.1]
theorem enumD_at {ds : List D} {i : Nat} : (enumD ds)[i]? = (ds[i]?).map fun d => .tuple [.int (i : Nat), d] := by
  unfold enumD
  rw [List.getElem?_map, List.getElem?_zipIdx]
  cases ds[i]? <;> simp
def srcE (k : Nat) : Src := fun i m => match m[k]? with
  | some (.lst ds) => some ((ds[i]?).map fun d => .tuple [.int (i : Nat), d])
  | _ => none
def itEnumL (f : AF) : IF := fun env m => (f env m).bind fun x => match x.1 with
  | [.val (.list ds)] => iL (enumD ds) x.2
  | [.ref k] => match x.2[k]? with
    | some (.lst ds) => some ((srcE k, ds.length), x.2)
    | _ => none
  | _ => none
def itEnumT (f : AF) : IF := fun env m => (f env m).bind fun x => match x.1 with
  | [.val (.tuple ds)] => iL (enumD ds) x.2
  | _ => none
theorem pair_new {K : PySem.W.Frag} {φ : Ad} {H : Hp} {m : M} {T : Addr} {i : Nat} {x : V} {d : D} (S : SR ζ K φ H m) (hT : H T = none) (h : Dp K (off φ H) x d) :
    Gr φ H φ (upd H T (.tup [.int (i : Nat), x])) ∧ SR ζ K φ (upd H T (.tup [.int (i : Nat), x])) m ∧ RR K φ (upd H T (.tup [.int (i : Nat), x])) (.ref T) (.val (.tuple [.int (i : Nat), d])) :=
  ⟨gr_alloc hT, S.alloc hT, rr_newT S hT (.cons (.int _) (.cons h .nil))⟩
theorem jok_enum {K : PySem.W.Frag} {φ : Ad} {H : Hp} {a : Addr} {xs : List V} {ds : List D} (h : SqL K (off φ H) a xs) (hd : DpAll K (off φ H) xs ds) : JOk ζ K (Ite K a) φ H (srcL (enumD ds)) where
  stop := fun φ' H' m i g S e => ⟨xs, (off_same.seq (g.same.seq h)), by
    have e' : (enumD ds)[i]? = none := Option.some.inj e
    rw [enumD_at, Option.map_eq_none_iff] at e'
    rw [DpAll.len hd]
    exact List.getElem?_eq_none_iff.mp e'⟩
  go := fun φ' H' m i d g S e => by
    have e' : (enumD ds)[i]? = some d := Option.some.inj e
    rw [enumD_at, Option.map_eq_some_iff] at e'
    obtain ⟨d', e', _⟩ := e'
    obtain ⟨v, h1, h2⟩ := DpAll.get hd e'
    exact ⟨xs, v, off_same.seq (g.same.seq h), h1⟩
  yld := fun φ' H' m i d x H'' g S e y => by
    have e' : (enumD ds)[i]? = some d := Option.some.inj e
    rw [enumD_at, Option.map_eq_some_iff] at e'
    obtain ⟨d', e', rfl⟩ := e'
    obtain ⟨v, h1, h2⟩ := DpAll.get hd e'
    obtain ⟨T, z, rfl, hT, rfl, y⟩ := y
    have q := y xs (off_same.seq (g.same.seq h))
    rw [h1] at q
    cases q
    exact pair_new S hT (dp_mono g.same h2)
theorem jok_enumR {K : PySem.W.Frag} {φ : Ad} {H : Hp} {k : Nat} {a : Addr} (h : φ.s[k]? = some a) : JOk ζ K (Ite K a) φ H (srcE k) where
  stop := fun φ' H' m i g S e => by
    unfold srcE at e
    split at e
    · rename_i ds hm
      obtain ⟨xs, h1, h2⟩ := S.obj k _ a hm (prefix_get g.pre h)
      have e' := Option.some.inj e
      rw [Option.map_eq_none_iff] at e'
      exact ⟨xs, .inl (.inl h1), by rw [DpAll.len h2]; exact List.getElem?_eq_none_iff.mp e'⟩
    · cases e
  go := fun φ' H' m i d g S e => by
    unfold srcE at e
    split at e
    · rename_i ds hm
      obtain ⟨xs, h1, h2⟩ := S.obj k _ a hm (prefix_get g.pre h)
      have e' := Option.some.inj e
      rw [Option.map_eq_some_iff] at e'
      obtain ⟨d', e', _⟩ := e'
      obtain ⟨v, h3, h4⟩ := DpAll.get h2 e'
      exact ⟨xs, v, .inl (.inl h1), h3⟩
    · cases e
  yld := fun φ' H' m i d x H'' g S e y => by
    unfold srcE at e
    split at e
    · rename_i ds hm
      obtain ⟨xs, h1, h2⟩ := S.obj k _ a hm (prefix_get g.pre h)
      have e' := Option.some.inj e
      rw [Option.map_eq_some_iff] at e'
      obtain ⟨d', e', rfl⟩ := e'
      obtain ⟨v, h3, h4⟩ := DpAll.get h2 e'
      obtain ⟨T, z, rfl, hT, rfl, y⟩ := y
      have q := y xs (.inl (.inl h1))
      rw [h3] at q
      cases q
      exact pair_new S hT h4
    · cases e
section
variable {X : Cx} {e : Expr} {fa : AF} {p pos tpos : Pos} {elts : List Expr} {kk : Nat}
theorem i_enumL (hg : Gl X "enumerate") (hm : X.mg "enumerate" = none) (ha : PA X [e] (tA ζ X.K fa)) (hs : starEach [e] X.env = [(false, eval e X.env)] := by rfl) : PI X (.Tuple elts kk tpos) (.Call (.Name "enumerate" p) [e] [] pos) (tI ζ X.K (itEnumL fa)) :=
  pi_imp (pi_enum hg hm ha hs) fun σ H Q q => by
  obtain ⟨φ, env, m, src, n, m', S, E, hf, k⟩ := q
  obtain ⟨⟨rs, m1⟩, h1, hf⟩ := bind_some_iff hf
  refine ⟨φ, env, m, rs, m1, S, E, h1, fun φ1 H1 vs g1 S1 R1 => ?_⟩
  simp only at hf
  split at hf
  · rename_i ds
    cases hf
    cases R1 with
    | cons a1 t1 =>
      cases t1
      have a1' : Dp X.K (off φ1 H1) _ (.list ds) := a1
      cases a1' with
      | lst hs ha => exact ⟨_, _, rfl, off_same.seq hs, k φ1 H1 _ g1 S1 (jok_enum hs ha)⟩
  · rename_i j
    split at hf
    · rename_i ds hmj
      cases hf
      cases R1 with
      | cons a1 t1 =>
        cases t1
        obtain ⟨ad, rfl, e2⟩ := a1
        obtain ⟨xs, h3, h4⟩ := S1.obj j _ ad hmj e2
        exact ⟨ad, xs, rfl, .inl (.inl h3), k φ1 H1 _ g1 S1 (jok_enumR e2)⟩
    · cases hf
  · cases hf
end
section
variable {prog : Program} {w : World} {A : Around} {E : Value → Shared → Prop} {s : Shared}
theorem enum_endT {e it l : Addr} {i : Nat} {items : Array Value} {old : Value} {Q : Option Value → Shared → Prop} (hh : A.handled = none)
    (he : IsEnum s.heap e it i old) (hit : s.heap.IsTupleIter it l i) (hl : s.heap.IsTuple l items) (hx : items[i]? = none)
    (hQ : ∀ h', Heap.ExtBut it s.heap h' → Q none { s with heap := h' }) : wpAny (model prog w) A (pyNext (.ref e)) Q E s := by
  have ty : s.TypeIs (.ref e) "enumerate" := ⟨_, he, rfl⟩
  unfold pyNext
  refine wpAny_bind (wpAny_attempt (wpAny_callSpecial?_slot (name := Str.ofString "__next__") ty
    F.slot_enumerate_next (wpAny_call_entry F.slot_enumerate_next ty F.entry_enumerate_next ?_
      (F.args_enumerate_next_1 _))))
  show wpAny _ _ (field (.ref e) 2 >>= _) _ _ _
  refine wpAny_bind (wpAny_field he rfl (x := .ref it) rfl ?_)
  refine wpAny_bind (PySem.wpAny_nextOf_tuple_end hh hit hl hx fun h' x he' ⟨o, ho, hc⟩ => ?_)
  exact wpAny_bind (wpAny_isInstance (T := "StopIteration") (b := true) ⟨o, ho, hc⟩ isSubtype_stop
    (wpAny_pure (hQ _ he')))
theorem meets_enumT (t : Addr) (items : Array Value) :
    Meets (Builtin.«enumerate.__new__» ⟨[.type "enumerate", .ref t], []⟩) (fun _ R s => s.heap.IsTuple t items ∧
      R (.ok (.ret (.ref (s.heap.push { cls := .type "tuple_iterator", data := .fields #[.ref t, .int 0 0] }).objs.size)))
        { s with heap := (s.heap.push { cls := .type "tuple_iterator", data := .fields #[.ref t, .int 0 0] }).push { cls := .type "enumerate", data := .fields #[.none, .bool false, .ref s.heap.objs.size, rawInt 0, .none, .none] } }) :=
  .of_wp fun prog w A R s h => by
    obtain ⟨hp, g, d, tk, os⟩ := s
    obtain ⟨hT, h⟩ := h
    have hsub := sub_enumerate
    have q1 : ∀ {A' : Around} {E : Value → Shared → Prop} {Q : Value → Shared → Prop}, Q (.ref hp.objs.size) ⟨hp.push { cls := .type "tuple_iterator", data := .fields #[.ref t, .int 0 0] }, g, d, tk, os⟩ → wpAny (model prog w) A' (pyIter (.ref t)) Q E ⟨hp, g, d, tk, os⟩ :=
      fun q => wpAny_pyIter_tuple hT q
    wp_walk using q1
    refine wpAny_stack_any fun st => wpAny_pure ?_
    split
    · rename_i c _ _ _ _ _
      cases (c == Value.type "enumerate")
      · wp_walk using q1
        exact ⟨_, rfl, h⟩
      · wp_walk using q1
        exact ⟨_, rfl, h⟩
    · wp_walk using q1
      exact ⟨_, rfl, h⟩
theorem call_enumT {t : Addr} {items : Array Value} {Q : Value → Shared → Prop} (hT : s.heap.IsTuple t items)
    (h : ∀ h', IsEnum h' (s.heap.objs.size + 1) s.heap.objs.size 0 .none → h'.IsTupleIter s.heap.objs.size t 0 → (∀ b o, s.heap.get? b = some o → h'.get? b = some o) → Q (.ref (s.heap.objs.size + 1)) { s with heap := h' }) :
    wpAny (model prog w) A (call (.type "enumerate") [.ref t]) Q E s := by
  refine callType_new F.called_enumerate (by decide) (F.typeCall_enumerate_1 _) (F.newCall_enumerate_1 _)
    (fun obj => F.args_object_init_2 obj _) F.entry_enumerate_new (meets_enumT t items) ⟨hT, ?_⟩
  have hz : (s.heap.push { cls := .type "tuple_iterator", data := .fields #[.ref t, .int 0 0] }).objs.size = s.heap.objs.size + 1 := Heap.size_push ..
  show _ ∧ _
  rw [hz]
  have he : IsEnum ((s.heap.push { cls := .type "tuple_iterator", data := .fields #[.ref t, .int 0 0] }).push { cls := .type "enumerate", data := .fields #[.none, .bool false, .ref s.heap.objs.size, rawInt 0, .none, .none] }) (s.heap.objs.size + 1) s.heap.objs.size 0 .none := by
    have q := Heap.get?_push_size (s.heap.push { cls := .type "tuple_iterator", data := .fields #[.ref t, .int 0 0] }) (o := { cls := .type "enumerate", data := .fields #[.none, .bool false, .ref s.heap.objs.size, rawInt 0, .none, .none] }) rfl
    rw [hz] at q
    exact q
  exact ⟨⟨_, he, rfl⟩, h _ he ⟨_, Heap.get?_push_of_some _ (Heap.get?_push_size _ rfl), rfl, rfl⟩ fun b o x => Heap.get?_push_of_some _ (Heap.get?_push_of_some _ x)⟩
end
/-- the tuple at a, each item in a new pair -/
def ItE (K : PySem.W.Frag) (a : Addr) : It :=
  ⟨fun i H => ∃ (xs : List V) (x : V), SqT K H a xs ∧ xs[i]? = some x, fun i H v H' => ∃ T x, v = .ref T ∧ H T = none ∧ H' = upd H T (.tup [.int (i : Nat), x]) ∧ ∀ xs, SqT K H a xs → xs[i]? = some x, fun i H => ∃ xs : List V, SqT K H a xs ∧ xs.length ≤ i⟩
theorem turn_enumT {P : Program} {w : World} {K : PySem.W.Frag} {elts : List Expr} {kk : Nat} {tpos : Pos} (a e it : Addr) :
    Turn P w K (.Tuple elts kk tpos) (ItE K a) [e, it] e (fun i h => (∃ old, IsEnum h e it ((i : Nat) : Int) old) ∧ h.IsTupleIter it a i ∧ e ≠ it) where
  mem := List.mem_cons_self
  obj := by
    rintro i h ⟨⟨old, he⟩, ⟨o, ho, hc, hd⟩, _⟩ b hb
    rcases List.mem_cons.mp hb with rfl | hb
    · exact ⟨_, he, fun v q => nomatch q⟩
    · obtain rfl := List.mem_singleton.mp hb
      exact ⟨o, ho, fun v q => by rw [hd] at q; cases q⟩
  keep := by
    rintro i h h' ⟨⟨old, he⟩, ⟨o, ho, r⟩, hne⟩ k
    exact ⟨⟨old, k e List.mem_cons_self _ he⟩, ⟨o, k it (by simp) o ho, r⟩, hne⟩
  item := by
    rintro X rfl rfl rfl hc i pins s σ H E I hf ⟨⟨old, he⟩, hit, hne⟩ ⟨xs, x, hq, hx⟩
    obtain ⟨its, rv, p, hz⟩ := I.tuple hq
    obtain ⟨u, hu, ru⟩ := rv.get hx
    have hel : e < s.heap.objs.size := Heap.lt_size he
    have hil : it < s.heap.objs.size := by
      obtain ⟨_, q, _⟩ := hit
      exact Heap.lt_size q
    have nea : e ≠ a := fun z => by
      obtain ⟨o, ho, hcl, _⟩ := p
      have he' : s.heap.get? e = _ := he
      rw [z, ho] at he'
      cases he'
      exact absurd (show Value.type "enumerate" = Value.type "tuple" from hcl) (by decide)
    have nia : a ≠ it := fun z => by
      obtain ⟨o, ho, hcl, _⟩ := p
      obtain ⟨o2, ho2, hc2, _⟩ := hit
      rw [← z, ho] at ho2
      cases ho2
      rw [hcl] at hc2
      exact absurd hc2 (by decide)
    have hul : i < its.toArray.size := by
      have := (List.getElem?_eq_some_iff.mp hu).1
      simpa using this
    refine PySem.wpAny_pyNext_enum_itemC (PySem.Draws.tuple (A := X.A.in1) (I.ok.hd hc) it a nia its.toArray) he ⟨hit, p⟩ hul hne (by simp [hne, nea]) fun z h' tk hP ho hit' hT hsz hk => ?_
    have ez : z = u := by
      have hP' : its.toArray[i]? = some z := hP
      have hP2 : its[i]? = some z := by simpa using hP'
      rw [hu] at hP2
      exact (Option.some.inj hP2).symm
    subst ez
    refine ⟨_, rfl, wpAny_letOwnedTupleGo_enum (s := { s with heap := h', toks := tk + 1 }) ho fun h'' he' sb => ?_⟩
    have hT2 : h''.get? s.heap.objs.size = some { cls := .type "tuple", data := .seq #[.int i tk, z] } := (sb.2 _ (Nat.ne_of_gt hel)).trans hT
    have new : ObjOk X.prog X.w (upd H s.heap.objs.size (.tup [.int (i : Nat), x])) h'' s.heap.objs.size (.tup [.int (i : Nat), x]) :=
      ⟨by show 2 ≤ sizeLine; decide, [.int i tk, z], .cons ⟨_, rfl⟩ (.cons ru .nil), ⟨_, hT2, rfl, _, rfl⟩⟩
    have I1 : Inv X pins σ (upd H s.heap.objs.size (.tup [.int (i : Nat), x])) { s with heap := h'', toks := tk + 1 } :=
      I.turnedNew (ch := [e, it]) (fun b ob hb q => (sb.2 b fun z => hb (by simp [z])).trans (hk b ob (fun z => hb (by simp [z])) (fun z => hb (by simp [z])) q)) hf (Nat.le_refl _) new
    refine ⟨.ref s.heap.objs.size, _, I1, rfl, ⟨_, x, rfl, I.hok.fresh (Nat.le_refl _), rfl, fun ys hy => by rw [I.tuple_inj hy hq]; exact hx⟩, ⟨⟨z, ?_⟩, ?_, hne⟩, fun b hb => ?_⟩
    · have e1 : ((i + 1 : Nat) : Int) = (i : Int) + 1 := by omega
      rw [e1]
      exact he'
    · obtain ⟨⟨o2, ho2, r2⟩, _⟩ := hit'
      exact ⟨o2, (sb.2 it (Ne.symm hne)).trans ho2, r2⟩
    · have hb' : b < s.heap.objs.size := by
        rcases List.mem_cons.mp hb with rfl | hb
        · exact hel
        · obtain rfl := List.mem_singleton.mp hb
          exact hil
      rw [upd_ne (Nat.ne_of_lt hb')]
      exact (hf b hb).1
  done := by
    rintro X rfl rfl rfl hc i pins s σ H E I hf ⟨⟨old, he⟩, hit, hne⟩ ⟨xs, hq, hx⟩
    obtain ⟨its, rv, p, hz⟩ := I.tuple hq
    obtain ⟨f0, f1, f2, f3, f4, f5⟩ := hf it (by simp)
    have hl := rv.length
    have nia : a ≠ it := fun z => by
      obtain ⟨o, ho, hcl, _⟩ := p
      obtain ⟨o2, ho2, hc2, _⟩ := hit
      rw [← z, ho] at ho2
      cases ho2
      rw [hcl] at hc2
      exact absurd hc2 (by decide)
    refine enum_endT (I.ok.hd hc) he hit p (by rw [Array.getElem?_eq_none_iff, List.size_toArray]; omega) fun h' eb => ⟨rfl, I.turned (t' := s.toks) (fun b o hb q => eb b o hb q) f0 f1 f3 f4 f5⟩
  self := fun A i s Q E st h => by
    obtain ⟨⟨_, he⟩, _⟩ := st
    exact wpAny_pyIter_enum he h
def iEnumT (K : PySem.W.Frag) (ta : TA) : TI := fun σ H R => ta σ H fun vs H1 => ∃ a xs, vs = [.ref a] ∧ SqT K H1 a xs ∧ R (ItE K a) H1
theorem pi_enumT {X : Cx} {e : Expr} {ta : TA} {p pos tpos : Pos} {elts : List Expr} {kk : Nat} (hg : Gl X "enumerate") (hm : X.mg "enumerate" = none) (ha : PA X [e] ta) (hs : starEach [e] X.env = [(false, eval e X.env)] := by rfl) :
    PI X (.Tuple elts kk tpos) (.Call (.Name "enumerate" p) [e] [] pos) (iEnumT X.K ta) := by
  refine ⟨fun pins s σ H R I h => ?_⟩
  refine Call_ (ld_blt I hg hm boot_enumerate (PyProof.Rows.callWith_type1 (thn (ha.run pos pins s σ H _ I h)
    fun us s1 ⟨vs, H1, I1, r1, q1⟩ => ?_) hs rfl))
  obtain ⟨a, xs, rfl, hq, q⟩ := q1
  obtain ⟨u, rfl, r⟩ := one_val r1
  cases r
  obtain ⟨its, rv, pt, hz⟩ := I1.tuple hq
  refine call_enumT pt fun h' he hit hk => wpAny_pyIter_enum he ?_
  have I2 : Inv X pins σ H1 { s1 with heap := h' } := I1.kept (t' := s1.toks) hk
  refine ⟨s1.heap.objs.size + 1, [s1.heap.objs.size + 1, s1.heap.objs.size], _, _, H1, rfl, I2, turn_enumT a (s1.heap.objs.size + 1) s1.heap.objs.size, ⟨⟨.none, he⟩, hit, Nat.succ_ne_self _⟩, fun b hb => ?_, q⟩
  have hle : s1.heap.objs.size ≤ b := by
    rcases List.mem_cons.mp hb with rfl | hb
    · exact Nat.le_add_right _ _
    · rw [List.mem_singleton.mp hb]
      exact Nat.le_refl _
  exact I1.fpOk hle (I1.hok.fresh hle)
theorem jok_enumT {K : PySem.W.Frag} {φ : Ad} {H : Hp} {a : Addr} {xs : List V} {ds : List D} (h : SqT K (off φ H) a xs) (hd : DpAll K (off φ H) xs ds) : JOk ζ K (ItE K a) φ H (srcL (enumD ds)) where
  stop := fun φ' H' m i g S e => ⟨xs, (sqT_mono off_same (sqT_mono g.same h)), by
    have e' : (enumD ds)[i]? = none := Option.some.inj e
    rw [enumD_at, Option.map_eq_none_iff] at e'
    rw [DpAll.len hd]
    exact List.getElem?_eq_none_iff.mp e'⟩
  go := fun φ' H' m i d g S e => by
    have e' : (enumD ds)[i]? = some d := Option.some.inj e
    rw [enumD_at, Option.map_eq_some_iff] at e'
    obtain ⟨d', e', _⟩ := e'
    obtain ⟨v, h1, h2⟩ := DpAll.get hd e'
    exact ⟨xs, v, sqT_mono off_same (sqT_mono g.same h), h1⟩
  yld := fun φ' H' m i d x H'' g S e y => by
    have e' : (enumD ds)[i]? = some d := Option.some.inj e
    rw [enumD_at, Option.map_eq_some_iff] at e'
    obtain ⟨d', e', rfl⟩ := e'
    obtain ⟨v, h1, h2⟩ := DpAll.get hd e'
    obtain ⟨T, z, rfl, hT, rfl, y⟩ := y
    have q := y xs (sqT_mono off_same (sqT_mono g.same h))
    rw [h1] at q
    cases q
    exact pair_new S hT (dp_mono g.same h2)
section
variable {X : Cx} {e : Expr} {fa : AF} {p pos tpos : Pos} {elts : List Expr} {kk : Nat}
theorem i_enumT (hg : Gl X "enumerate") (hm : X.mg "enumerate" = none) (ha : PA X [e] (tA ζ X.K fa)) (hs : starEach [e] X.env = [(false, eval e X.env)] := by rfl) : PI X (.Tuple elts kk tpos) (.Call (.Name "enumerate" p) [e] [] pos) (tI ζ X.K (itEnumT fa)) :=
  pi_imp (pi_enumT hg hm ha hs) fun σ H Q q => by
  obtain ⟨φ, env, m, src, n, m', S, E, hf, k⟩ := q
  obtain ⟨⟨rs, m1⟩, h1, hf⟩ := bind_some_iff hf
  refine ⟨φ, env, m, rs, m1, S, E, h1, fun φ1 H1 vs g1 S1 R1 => ?_⟩
  simp only at hf
  split at hf
  · rename_i ds
    cases hf
    cases R1 with
    | cons a1 t1 =>
      cases t1
      have a1' : Dp X.K (off φ1 H1) _ (.tuple ds) := a1
      cases a1' with
      | tup hs ha => exact ⟨_, _, rfl, sqT_mono off_same hs, k φ1 H1 _ g1 S1 (jok_enumT hs ha)⟩
  · cases hf
end
end Ev

set_option Elab.async false
set_option linter.all false
set_option maxRecDepth 100000
/-! list(x), and the end of a law's row. -/
namespace Ev
open PySem PySem.Spec PyProof.Rows L2

/-- T(x) that makes a new list -/
def nList (f : AF) : NF := fun env m => (f env m).bind fun x => match x.1 with
  | [r] => (asLT r x.2).bind fun ds => some (ds, x.2)
  | _ => none
section
variable {X : Cx} {e : Expr} {es : List Expr} {fa : AF} {pos p0 : Pos}
theorem n_list (hg : Gl X "list") (hm : X.mg "list" = none) (ha : PA X (e :: es) (tA ζ X.K fa))
    (he : starEach (e :: es) X.env = (false, eval e X.env) :: starEach es X.env := by rfl) (hpl : (backTo pos (starEach es X.env)).any (·.1) = false := by rfl) : PE X (.Call (.Name "list" p0) (e :: es) [] pos) (tN ζ X.K (nList fa)) :=
  pe_imp (pe_callTy (T := "list") call_list_of hg hm (by decide +kernel) ha (he := he) (hpl := hpl)) fun σ H Q q => by
  obtain ⟨φ, env, m, ds, m', S, E, hf, k⟩ := q
  obtain ⟨⟨rs, m1⟩, h1, hf⟩ := bind_some_iff hf
  refine ⟨φ, env, m, rs, m1, S, E, h1, fun φ1 H1 vs g1 S1 R1 => ?_⟩
  simp only at hf
  split at hf
  · obtain ⟨es, h2, hf⟩ := bind_some_iff hf
    cases hf
    cases R1 with
    | cons a1 t1 =>
      cases t1
      obtain ⟨p, xs, rfl, hs, hd⟩ := seqLT_of S1 a1 h2
      exact ⟨p, xs, rfl, hs, fun l hl => k φ1 H1 l xs g1 S1 hl hd⟩
  · cases hf
end

/-! ### the law's end -/
/-- the law's function at a script -/
def spLaw (K : PySem.W.Frag) (F : Fn) : Sp := fun vs H Q _ => ∃ (a : Addr) (ns : List Int), vs = [.ref a] ∧ SqL K H a (ns.map V.int) ∧ ns.length ≤ 63 ∧ ∃ m, F [.val (.list (ns.map .int))] [] = some (.val (.bool true), m) ∧ ∀ H', Q (.bl true) H'
theorem FnG.imp {P : Program} {w : World} {K : PySem.W.Frag} {mg : Str → Option Value} {base : Heap} {k : Nat} {f : Addr} {fd : FuncData} {ps : List Str} {sp sp' : Sp} (F : FnG P w K mg base k f fd ps sp) (h : ∀ vs H Q E, sp' vs H Q E → sp vs H Q E) : FnG P w K mg base k f fd ps sp' :=
  ⟨fun vs H Q E q => F.len vs H Q E (h _ _ _ _ q), fun A outer s H args us vs Q E hg hr e0 hb hv q => F.go A outer s H args us vs Q E hg hr e0 hb hv (h _ _ _ _ q)⟩
/-- the tables of code objects, all still empty -/
structure TabsAt (K : PySem.W.Frag) (h : Heap) (cs : List (Addr × Addr × Str)) : Prop where
  at_ : ∀ p ∈ cs, h.get? p.2.1 = some { cls := .none, data := .fields #[] }
  out : ∀ p ∈ cs, K.lookup p.2.1 = none
  code : ∀ p ∈ cs, PySem.W.CodeHd h p.1 p.2.1
  nd : (cs.map fun p => p.2.1).Nodup
def tabT (cs : List (Addr × Addr × Str)) : List (Addr × Str) := cs.map fun p => (p.2.1, p.2.2)
theorem law_sp {K : PySem.W.Frag} {F : Fn} {vs : List V} {H : Hp} {Q : VK} {E : XK} (cs : List (Addr × Addr × Str)) (nd : (cs.map fun p => p.2.1).Nodup) (hT : ∀ p ∈ cs, H p.2.1 = some (.tbl #[])) (ha : ∀ a, vs = [.ref a] → a ∉ cs.map fun p => p.2.1) (h : spLaw K F vs H Q E) : spF (tabT cs) K 1 F vs H Q E := by
  obtain ⟨a, ns, rfl, hs, _, m, hF, q⟩ := h
  have na : a ∉ (⟨[], cs.map fun p => p.2.1, tabT cs⟩ : Ad).all := fun z => ha a rfl (by simpa [Ad.all] using z)
  refine ⟨rfl, ⟨[], cs.map fun p => p.2.1, tabT cs⟩, [], [.val (.list (ns.map .int))], .val (.bool true), m, ⟨rfl, by simpa [Ad.all] using nd, fun i o b e => by simp at e, fun b hb => ?_, rfl, fun p hp => ?_, fun p hp => ?_⟩, .cons ?_ .nil, hF, fun φ' H' v g S R => ?_⟩
  · obtain ⟨p, hp, e⟩ := List.mem_map.mp hb
    exact .inr ⟨p.2.2, List.mem_map.mpr ⟨p, hp, by rw [← e]⟩⟩
  · obtain ⟨c, hc, e⟩ := List.mem_map.mp hp
    rw [← e]
    exact List.mem_map.mpr ⟨c, hc, rfl⟩
  · obtain ⟨c, hc, e⟩ := List.mem_map.mp hp
    rw [← e]
    exact LamX.TabS.nil (hT c hc)
  · refine Dp.lst (xs := ns.map V.int) ?_ (dpAll_ints ns)
    rcases hs with hs | hs
    · left
      rcases hs with hs | ⟨o, hs⟩
      · exact .inl (off_some.mpr ⟨na, hs, rfl⟩)
      · exact .inr ⟨o, off_some.mpr ⟨na, hs, rfl⟩⟩
    · exact .inr hs
  · have e := rr_bool R
    subst e
    exact q H'
/-- a promise kept at the caller's own stand -/
theorem law_run {P : Program} {w : World} {K : PySem.W.Frag} {mg mb : Str → Option Value} {k : Nat} {fa a : Addr} {fd : FuncData} {x : Str} {F : Fn} {cs : List (Addr × Addr × Str)} {s₁ : Shared} {vs : List Value} {ns : List Int}
    (KX : K.In s₁.heap) (hns : s₁.heap.Ns mainGlobals mg) (hb : s₁.heap.Ns builtinsNs mb) (hbb : ∀ x : Str, x ≠ "__name__" → mb x = bootBuiltins x) (hlim : s₁.heap.NoLimit) (hg : s₁.gens = #[]) (TA : TabsAt K s₁.heap cs)
    (hbm : cs = [] ∨ ∃ (bm : Addr) (ob : Obj), mg "__builtins__" = some (.ref bm) ∧ bm ≠ builtinsNs ∧ s₁.heap.get? bm = some ob ∧ ob.cls = .type "module" ∧ ob.dict = some builtinsNs ∧ ob.data = .plain)
    (ha : s₁.heap.get? a = some { cls := .type "list", data := .seq vs.toArray }) (hi : IntsAre vs ns) (hl : ns.length ≤ sizeLine) (hr : Room k callerA)
    (FF : ∀ base : Heap, K.In base → base.Ns mainGlobals mg → (∀ p ∈ cs, LamX.TabB base mg p.1 p.2.1) → FnG P w K mg base k fa fd [x] (spF (tabT cs) K 1 F)) (hbind : ∀ (s : Shared) (u : Value), BindsTo s fd ⟨[u], []⟩ [(x, u)])
    (hsp : ∀ H : Hp, SqL K H a (ns.map V.int) → spLaw K F [.ref a] H (fun v _ => v = .bl true) fun _ _ _ => False) :
    codeAny (model P w) callerA (.call (.ref fa) ⟨[.ref a], []⟩) (fun r s' => r = .ok (.ret (.bool true)) ∧ OldK s₁.heap s'.heap ∧ s'.os = s₁.os ∧ AllBare s'.gens) s₁ := by
  have rv := vals_ints hi
  have lv := hi.length
  have isT : ∀ {b : Addr}, b ∈ cs.map (fun p => p.2.1) → s₁.heap.get? b = some { cls := .none, data := .fields #[] } := fun {b} z => by
    obtain ⟨p, hp, e⟩ := List.mem_map.mp z
    rw [← e]
    exact TA.at_ p hp
  have naT : a ∉ cs.map fun p => p.2.1 := fun z => by
    have q := isT z
    rw [ha] at q
    cases q
  -- what is tracked: the script (locked) at most, and the tables
  have main : ∀ H : Hp, (∀ b u, H b = some u → (b = a ∧ u = .frz { cls := .type "list", data := .seq vs.toArray } (.lst (ns.map V.int)) ∧ K.lookup a = none) ∨ (b ∈ (cs.map fun p => p.2.1) ∧ u = .tbl #[])) → (∀ p ∈ cs, H p.2.1 = some (.tbl #[])) → SqL K H a (ns.map V.int) →
      codeAny (model P w) callerA (.call (.ref fa) ⟨[.ref a], []⟩) (fun r s' => r = .ok (.ret (.bool true)) ∧ OldK s₁.heap s'.heap ∧ s'.os = s₁.os ∧ AllBare s'.gens) s₁ := by
    intro H hA hTT hS
    have hok : HOk P w H s₁.heap := fun b u q => by
      rcases hA b u q with ⟨rfl, rfl, _⟩ | ⟨z, rfl⟩
      · exact ⟨ha, by rw [List.length_map]; exact hl, vs, _, rv, ha⟩
      · exact isT z
    -- other objects stand in what lies below
    have below : ∀ {b : Addr} {o : Obj}, s₁.heap.get? b = some o → (∀ xs n, o.data ≠ .seq xs n) → o.data ≠ .fields #[] → (hidT s₁.heap H).get? b = some o := fun {b o} e d1 d2 => hidT_get e (by
      cases q : H b with
      | none => rfl
      | some u =>
        rcases hA b u q with ⟨rfl, _, _⟩ | ⟨z, _⟩
        · rw [ha] at e
          cases e
          exact absurd rfl (d1 _ _)
        · rw [isT z] at e
          cases e
          exact absurd rfl d2)
    have nsB : ∀ {b : Addr} {m : Str → Option Value}, s₁.heap.Ns b m → (hidT s₁.heap H).Ns b m := fun {b m} ⟨o, es, ep, e, d, r⟩ => ⟨o, es, ep, below e (fun _ _ z => by rw [d] at z; cases z) (fun z => by rw [d] at z; cases z), d, r⟩
    have KB : K.In (hidT s₁.heap H) := fun b o e => hidT_get (KX b o e) (by
      cases q : H b with
      | none => rfl
      | some u =>
        rcases hA b u q with ⟨rfl, _, n⟩ | ⟨z, _⟩
        · rw [n] at e
          cases e
        · obtain ⟨p, hp, ep⟩ := List.mem_map.mp z
          rw [← ep, TA.out p hp] at e
          cases e)
    have TB : ∀ p ∈ cs, LamX.TabB (hidT s₁.heap H) mg p.1 p.2.1 := fun p hp => by
      have ht := TA.at_ p hp
      constructor
      · have cd := TA.code p hp
        unfold PySem.W.CodeHd at cd ⊢
        obtain ⟨o, us, file, tf, flags, tg, inF, text, tt, e1, r1, r2, r3, more⟩ := cd
        refine ⟨o, us, file, tf, flags, tg, inF, text, tt, below e1 (fun xs n z => ?_) (fun z => ?_), r1, r2, r3, more⟩ <;> (rw [r2] at z; cases z)
        simp at r3
      · rcases hbm with z | ⟨bm, ob, b1, b2, b3, b4, b5, b6⟩
        · rw [z] at hp
          cases hp
        · have q := below b3 (fun xs n z => by rw [b6] at z; cases z) (fun z => by rw [b6] at z; cases z)
          refine ⟨bm, ob, b1, b2, fun z => ?_, fun z => ?_, q, b4, b5, b6⟩
          · obtain ⟨o, es, ep, e, hd, _⟩ := hns
            rw [z, e] at b3
            cases b3
            rw [hd] at b6
            cases b6
          · rw [z, ht] at b3
            cases b3
            cases b6
      · intro z
        obtain ⟨o, es, ep, e, hd, _⟩ := hns
        rw [z, ht] at e
        cases e
        cases hd
    have hM : Mod K mg (hidT s₁.heap H) := by
      obtain ⟨mc, c1, c2⟩ := hlim
      exact ⟨KB, nsB hns, ⟨mb, nsB hb, hbb⟩, ⟨mc, nsB c1, c2⟩⟩
    have e0 : Env0 P w K mg (hidT s₁.heap H) callerA [] s₁ H := ⟨rfl, hM, fun b o e => of_hidT e, Nat.le_of_eq (hidT_size _ _), trivial, fun b z => absurd z (by simp [frs]), hok, .of_eq hg⟩
    have sp0 := law_sp cs TA.nd hTT (fun b e => by cases e; exact naT) (hsp H hS)
    refine codeAny_mono ((FF _ KB (nsB hns) TB).go callerA [] s₁ H ⟨[.ref a], []⟩ [.ref a] [.ref a] _ _ rfl hr e0 (hbind s₁ (.ref a)) (.cons rfl .nil) sp0) fun r s' h => ?_
    cases r with
    | error e => exact (show False from h).elim
    | ok fl =>
      cases fl with
      | next => exact (show False from h).elim
      | brk => exact (show False from h).elim
      | cont => exact (show False from h).elim
      | ret u =>
        obtain ⟨v, H', os, bare, un, hok', r', q⟩ := h
        have q' : v = .bl true := q
        subst q'
        obtain rfl : u = Value.bool true := r'
        have same : ∀ b o, b ∉ (cs.map fun p => p.2.1) → s₁.heap.get? b = some o → s'.heap.get? b = some o := fun b o nb e => by
          cases q : H b with
          | none => exact un.keep b o e q (by simp [frs]) (by simp)
          | some u =>
            rcases hA b u q with ⟨rfl, rfl, _⟩ | ⟨z, _⟩
            · have z := un.frzs b _ _ q
              obtain ⟨e2, _⟩ := hok' b _ z
              rw [ha] at e
              cases e
              exact e2
            · exact absurd z nb
        have more : ∀ p ∈ cs, ∃ ps : Array Value, s'.heap.get? p.2.1 = some { cls := .none, data := .fields ps } := fun p hp => by
          obtain ⟨ps, z⟩ := un.tbls p.2.1 #[] (hTT p hp)
          exact ⟨_, hok' p.2.1 _ z⟩
        refine ⟨rfl, ⟨fun b o e => ?_, fun b o e => ?_⟩, os, bare⟩
        · by_cases nb : b ∈ cs.map fun p => p.2.1
          · obtain ⟨p, hp, rfl⟩ := List.mem_map.mp nb
            obtain ⟨ps, z⟩ := more p hp
            have e' := isT nb
            rw [e] at e'
            cases e'
            refine .inr (.inl ⟨((TA.code p hp).tab (TA.at_ p hp)).isCodeTable, rfl, #[], ps, rfl, ?_⟩)
            rw [Array.empty_append]
            exact z
          · exact .inl (same b o nb e)
        · by_cases nb : b ∈ cs.map fun p => p.2.1
          · obtain ⟨p, hp, rfl⟩ := List.mem_map.mp nb
            obtain ⟨ps, z⟩ := more p hp
            exact ⟨_, z⟩
          · exact ⟨o, same b o nb e⟩
  cases hk : K.lookup a with
  | some o =>
    have e := KX a o hk
    rw [ha] at e
    cases e
    refine main (fun b => if b ∈ (cs.map fun p => p.2.1) then some (.tbl #[]) else none) (fun b u z => ?_) (fun p hp => if_pos (List.mem_map.mpr ⟨p, hp, rfl⟩)) (.inr ⟨_, vs.toArray, _, hk, rfl, rfl, rfl, by rw [List.size_toArray, lv]; exact hl, by simpa using rv⟩)
    split at z
    · cases z
      exact .inr ⟨by assumption, rfl⟩
    · cases z
  | none =>
    refine main (fun b => if b = a then some (.frz { cls := .type "list", data := .seq vs.toArray } (.lst (ns.map V.int))) else if b ∈ (cs.map fun p => p.2.1) then some (.tbl #[]) else none) (fun b u z => ?_) (fun p hp => ?_) (.inl (.inr ⟨_, if_pos rfl⟩))
    · split at z
      · cases z
        exact .inl ⟨by assumption, rfl, hk⟩
      · split at z
        · cases z
          exact .inr ⟨by assumption, rfl⟩
        · cases z
    · have hm : p.2.1 ∈ cs.map fun p => p.2.1 := List.mem_map.mpr ⟨p, hp, rfl⟩
      show (if p.2.1 = a then _ else _) = _
      rw [if_neg (fun z => naT (by rw [← z]; exact hm)), if_pos hm]
/-- the goal that k_head leaves -/
theorem law_end {l : PySem.W.OpenLaw} {k : Nat} {q : Program} {loose : List Str} {XP : (Str → Option Value) → Heap → Prop} {YP : World → Heap → Prop} {d : DefRec} {F : Fn} {x : Str}
    (hn : l.most = some 63) (hdf : d.params.defaults = []) (hr : Room k callerA)
    (hF : ∀ (w : World) (mg : Str → Option Value) (fa : Addr) (h : Heap), YP w h → h.Ns mainGlobals mg → mg d.name = some (.ref fa) →
      ∃ (K : PySem.W.Frag) (fd : FuncData) (cs : List (Addr × Addr × Str)), K.In h ∧ TabsAt K h cs ∧ (∀ (s : Shared) (u : Value), BindsTo s fd ⟨[u], []⟩ [(x, u)]) ∧ ∀ base : Heap, K.In base → base.Ns mainGlobals mg → (∀ p ∈ cs, LamX.TabB base mg p.1 p.2.1) → FnG l.prog w K mg base k fa fd [x] (spF (tabT cs) K 1 F))
    (law : ∀ ns : List Int, ns.length ≤ 63 → ∃ m, F [.val (.list (ns.map .int))] [] = some (.val (.bool true), m)) :
    PySem.W.WalkO q loose XP YP l.row.toRowW d [] (fun f vs => PySem.call f vs) := by
  refine Att.attach_callB hn hdf fun w s₀ s₁ mg mb fa o pm cd doc a vs ns G Y ho hd hcd hmg hobj hints hlen hbits hg => ?_
  obtain ⟨K, fd, cs, KX, TA, hb, FF⟩ := hF w mg fa _ Y G.T.g hmg
  obtain ⟨bm, ob, b⟩ := G.T.bmain
  exact law_run KX G.T.g G.T.b G.T.builtins G.T.nolimit hg TA (.inr ⟨bm, ob, b⟩) hobj hints (Nat.le_trans hlen (by decide)) hr FF hb fun H hS => ⟨a, ns, rfl, hS, hlen, (law ns hlen).choose, (law ns hlen).choose_spec, fun _ => rfl⟩
end Ev

set_option Elab.async false
set_option linter.all false
set_option maxRecDepth 100000
/-! Rules that serve several kinds at once; what the generator writes. -/
namespace Ev
open PySem PySem.Spec PyProof.Rows L2

/-! ### walks over lists or tuples -/
def itAny (f : EF) : IF := fun env m => (f env m).bind fun x => match x.1 with
  | .val (.tuple ds) => iL ds x.2
  | .val (.list ds) => iL ds x.2
  | .ref k => match x.2[k]? with
    | some (.lst ds) => some ((srcR k, ds.length), x.2)
    | _ => none
  | _ => none
def itEnum (f : AF) : IF := fun env m => (f env m).bind fun x => match x.1 with
  | [.val (.tuple ds)] => iL (enumD ds) x.2
  | [.val (.list ds)] => iL (enumD ds) x.2
  | [.ref k] => match x.2[k]? with
    | some (.lst ds) => some ((srcE k, ds.length), x.2)
    | _ => none
  | _ => none
section
variable {X : Cx} {tg e : Expr} {f : EF} {fa : AF} {p pos tpos : Pos} {elts : List Expr} {kk : Nat}
/-- the list's or the tuple's own iterator -/
theorem iter_lt {pins : List (Addr × Obj)} {σ : L2.St} {s : Shared} {H : Hp} {R : It → Hp → Prop} {a : Addr} {xs : List V} (I : Inv X pins σ H s) (h : (SqL X.K H a xs ∧ R (Itl X.K a) H) ∨ (SqT X.K H a xs ∧ R (Itt X.K a) H)) :
    wpAny (model X.prog X.w) X.A (pyIter (.ref a)) (PIE X pins σ tg R) X.xe s := by
  have fp : ∀ b ∈ [s.heap.objs.size], FpOk X pins H b := fun b hb => by
    rw [List.mem_singleton.mp hb]
    exact I.fpOk (Nat.le_refl _) (I.hok.fresh (Nat.le_refl _))
  rcases h with ⟨hq, q⟩ | ⟨hq, q⟩
  · obtain ⟨its, rv, pl, hz⟩ := I.list hq
    exact wpAny_pyIter_list pl.isList ⟨s.heap.objs.size, [s.heap.objs.size], _, _, H, rfl, I.kept (t' := s.toks) fun b o e => Heap.get?_push_of_some _ e, turn_list a _, ⟨_, Heap.get?_push_size _ rfl, rfl, rfl⟩, fp, q⟩
  · obtain ⟨its, rv, pl, hz⟩ := I.tuple hq
    exact iter_tuple pl ⟨s.heap.objs.size, [s.heap.objs.size], _, _, H, rfl, I.kept (t' := s.toks) fun b o e => Heap.get?_push_of_some _ e, turn_tuple a _, ⟨_, Heap.get?_push_size _ rfl, rfl, rfl⟩, fp, q⟩
theorem i_any (he : PE X e (tE ζ X.K f)) : PI X tg e (tI ζ X.K (itAny f)) := ⟨fun pins s σ H R I q => by
  obtain ⟨φ, env, m, src, n, m', S, E, hf, k⟩ := q
  obtain ⟨⟨r, m1⟩, h1, hf⟩ := bind_some_iff hf
  refine thn (he.run pins s σ H (fun v H1 => ∃ a xs, v = .ref a ∧ ((SqL X.K H1 a xs ∧ R (Itl X.K a) H1) ∨ (SqT X.K H1 a xs ∧ R (Itt X.K a) H1))) I ⟨φ, env, m, r, m1, S, E, h1, fun φ1 H1 v g1 S1 R1 => ?_⟩) fun u s1 ⟨v, H1, I1, rv, a, xs, e, q⟩ => ?_
  · cases r with
    | val d =>
      cases d with
      | list ds =>
        cases hf
        have R1' : Dp X.K (off φ1 H1) v (.list ds) := R1
        cases R1' with
        | lst hs ha => exact ⟨_, _, rfl, .inl ⟨off_same.seq hs, k φ1 H1 _ g1 S1 (jok_list hs ha)⟩⟩
      | tuple ds =>
        cases hf
        have R1' : Dp X.K (off φ1 H1) v (.tuple ds) := R1
        cases R1' with
        | tup hs ha => exact ⟨_, _, rfl, .inr ⟨sqT_mono off_same hs, k φ1 H1 _ g1 S1 (jok_tup hs ha)⟩⟩
      | _ => cases hf
    | ref j =>
      simp only at hf
      split at hf
      · rename_i ds hm
        cases hf
        obtain ⟨ad, e1, e2⟩ := R1
        obtain ⟨xs, h3, h4⟩ := S1.obj j _ ad hm e2
        exact ⟨ad, xs, e1, .inl ⟨.inl (.inl h3), k φ1 H1 _ g1 S1 (jok_live e2)⟩⟩
      · cases hf
  · subst e
    cases rv
    exact iter_lt I1 q⟩
theorem i_enum (hg : Gl X "enumerate") (hm : X.mg "enumerate" = none) (ha : PA X [e] (tA ζ X.K fa)) (hs : starEach [e] X.env = [(false, eval e X.env)] := by rfl) : PI X (.Tuple elts kk tpos) (.Call (.Name "enumerate" p) [e] [] pos) (tI ζ X.K (itEnum fa)) := ⟨fun pins s σ H R I q => by
  obtain ⟨φ, env, m, src, n, m', S, E, hf, k⟩ := q
  obtain ⟨⟨rs, m1⟩, h1, hf⟩ := bind_some_iff hf
  by_cases ht : ∃ ds, rs = [.val (.tuple ds)]
  · obtain ⟨ds, rfl⟩ := ht
    cases hf
    exact (i_enumT hg hm ha hs).run pins s σ H R I ⟨φ, env, m, _, _, m1, S, E, by unfold itEnumT; rw [h1]; rfl, k⟩
  · refine (i_enumL hg hm ha hs).run pins s σ H R I ⟨φ, env, m, src, n, m', S, E, ?_, k⟩
    unfold itEnumL
    rw [h1]
    simp only [Option.bind_some]
    simp only at hf
    split at hf
    · exact absurd ⟨_, rfl⟩ ht
    · exact hf
    · exact hf
    · cases hf⟩
/-- xs[lo:hi], of a list or a tuple -/
def eSl (f : EF) (l h : OF) : EF := fun env m => (f env m).bind fun x => (l env x.2).bind fun y => (h env y.2).bind fun z => match x.1 with
  | .val (.tuple ds) => some (.val (.tuple (cutD ds y.1 z.1)), z.2)
  | r => (asL r z.2).bind fun ds => some (.val (.list (cutD ds y.1 z.1)), z.2)
theorem x_sl {a : Expr} {lo hi : Option Expr} {fl fh : OF} {p2 : Pos} (ha : PE X a (tE ζ X.K f)) (hl : PO X lo (tO' ζ X.K fl)) (hh : PO X hi (tO' ζ X.K fh)) : PE X (.Subscript a (.Slice lo hi none p2) pos) (tE ζ X.K (eSl f fl fh)) := ⟨fun pins s σ H Q I q => by
  obtain ⟨φ, env, m, r, m', S, E, hf, k⟩ := q
  obtain ⟨⟨r1, m1⟩, h1, hf⟩ := bind_some_iff hf
  obtain ⟨⟨o1, m2⟩, h2, hf⟩ := bind_some_iff hf
  obtain ⟨⟨o2, m3⟩, h3, hf⟩ := bind_some_iff hf
  by_cases ht : ∃ ds, r1 = .val (.tuple ds)
  · obtain ⟨ds, rfl⟩ := ht
    exact (x_slT ha hl hh).run pins s σ H Q I ⟨φ, env, m, r, m', S, E, by unfold eSlT; rw [h1]; simp only [Option.bind_some]; rw [h2]; simp only [Option.bind_some]; rw [h3]; exact hf, k⟩
  · simp only at hf
    split at hf
    · exact absurd ⟨_, rfl⟩ ht
    · exact (x_ofN (n_slL ha hl hh)).run pins s σ H Q I ⟨φ, env, m, r, m', S, E, by
        unfold eL nSlL
        rw [h1]
        simp only [Option.bind_some]
        rw [h2]
        simp only [Option.bind_some]
        rw [h3]
        simp only [Option.bind_some]
        obtain ⟨ds, h4, hf⟩ := bind_some_iff hf
        rw [h4]
        exact hf, k⟩⟩
/-- + of ints, tuples, lists -/
def pCatLf (a b : R) (m : M) : Option (R × M) := (asL a m).bind fun xs => (asL b m).bind fun ys => if xs.length + ys.length ≤ sizeLine then some (.val (.list (xs ++ ys)), m) else none
def pPlus : R → R → M → Option (R × M) := pOr pAddN pCatLf
theorem o_catLf : OpR X (binaryOp .Add) (r2P ζ X.K pCatLf) := by
  intro pins s σ H x y v u Q I rx ry q
  obtain ⟨φ, m, r1, r2, r, m', S, R1, R2, hf, k⟩ := q
  obtain ⟨xs, h1, hf⟩ := bind_some_iff hf
  obtain ⟨ys, h2, hf⟩ := bind_some_iff hf
  split at hf
  · rename_i hl
    cases hf
    exact o_catL pins s σ H x y v u Q I rx ry ⟨φ, m, r1, r2, xs, ys, S, R1, R2, h1, h2, hl, fun p vs hp hd => k φ _ _ (gr_alloc hp) (S.alloc hp) (rr_newL S hp hd)⟩
  · cases hf
theorem o_plus : OpR X (binaryOp .Add) (r2P ζ X.K pPlus) := o_or o_add o_catLf
/-- a name of the module -/
theorem x_glob {x : Str} {d : D} {v : V} {u : Value} (hg : Gl X x) (hm : X.mg x = some u) (r : RelV v u) (hv : ∀ H, Dp X.K H v d) (hd : (x == ("__debug__" : Str)) = false := by decide) : PE X (.Name x pos) (tE ζ X.K (eC d)) := x_c (pe_glob hg hm r hd) hv
theorem x_globI {x : Str} {i : Int} (hg : Gl X x) (hm : ∃ t, X.mg x = some (.int i t)) (hd : (x == ("__debug__" : Str)) = false := by decide) : PE X (.Name x pos) (tE ζ X.K (eC (.int i))) := by
  obtain ⟨t, hm⟩ := hm
  exact x_glob (v := .int i) hg hm ⟨t, rfl⟩ (fun _ => .int i) hd
/-! patterns -/
theorem p_name {i : Nat} {x : Str} (hN : X.N.Nodup) (hi : X.N[i]? = some x) (hx : Loc X.env.scope x) (hf : X.fn x = true ∨ X.env.scope.names.lookup x = some .local := by first | exact .inl rfl | exact .inr rfl | assumption) : PG X (.Name x pos) (gPat ζ X.K (.nm i)) := by
  rw [gPat]
  exact pg_name hN hi hx hf
theorem p_nil : PGs X [] (gPats ζ X.K .nil) := by
  rw [gPats]
  exact pgs_nil
theorem p_cons {es : List Expr} {q : Pat} {qs : Pats} (h1 : PG X e (gPat ζ X.K q)) (h2 : PGs X es (gPats ζ X.K qs)) (hs : (assignEach (e :: es) X.env).map (·.2) = assign e X.env :: (assignEach es X.env).map (·.2) := by rfl) : PGs X (e :: es) (gPats ζ X.K (.cons q qs)) := by
  rw [gPats]
  exact pgs_cons h1 h2 hs
theorem p_tup {es : List Expr} {k : Nat} {qs : Pats} (hc : X.calm = true) (h : PGs X es (gPats ζ X.K qs)) (hn : (assignEach es X.env).length = qs.len := by rfl) (hst : (assignEach es X.env).findIdx? (·.1) = none := by rfl) : PG X (.Tuple es k pos) (gPat ζ X.K (.tp qs)) := by
  rw [gPat]
  exact pg_tup hc h hn hst
/-! a, b, .. = x, y, .. by a tuple that is laid and taken apart -/
def setAll : List Nat → List R → Sl → Option Sl
  | [], [], env => some env
  | i :: is, r :: rs, env => setAll is rs (env.set i (some r))
  | _, _, _ => none
def sParG (is : List Nat) (f : AF) : SF := fun env m => (f env m).bind fun x => if x.1.length ≤ sizeLine then (setAll is x.1 env).bind fun e => some (.nx e x.2) else none
def gNames (is : List Nat) : TGs := match is with
  | [] => gNil
  | i :: is => gCons (gName i) (gNames is)
theorem gn_nil : PGs X [] (gNames []) := pgs_nil
theorem gn_cons {i : Nat} {is : List Nat} {x : Str} {es : List Expr} (hN : X.N.Nodup) (hi : X.N[i]? = some x) (hx : Loc X.env.scope x) (h : PGs X es (gNames is)) (hs : (assignEach (.Name x pos :: es) X.env).map (·.2) = assign (.Name x pos) X.env :: (assignEach es X.env).map (·.2) := by rfl)
    (hf : X.fn x = true ∨ X.env.scope.names.lookup x = some .local := by first | exact .inl rfl | exact .inr rfl | assumption) : PGs X (.Name x pos :: es) (gNames (i :: is)) := pgs_cons (pg_name hN hi hx hf) h hs
theorem gn_ok {K : PySem.W.Frag} {φ : Ad} {H : Hp} : ∀ {is : List Nat} {rs : List R} {vs : List V} {σ : L2.St} {env env' : Sl} {Q : L2.St → Hp → Prop}, ER K φ H σ env → RRs K φ H vs rs → setAll is rs env = some env' → (∀ σ', ER K φ H σ' env' → Q σ' H) → gNames is vs σ H Q
  | [], [], _, _, _, _, _, E, R, e, q => by
    cases e
    cases R
    exact ⟨rfl, q _ E⟩
  | i :: is, r :: rs, _, _, _, _, _, E, R, e, q => by
    cases R with
    | cons a t => exact ⟨_, _, rfl, gn_ok (E.set a i) t e q⟩
  | [], _ :: _, _, _, _, _, _, _, _, e, _ => by cases e
  | _ :: _, [], _, _, _, _, _, _, _, e, _ => by cases e
theorem s_parG {is : List Nat} {es ts : List Expr} {kt k2 : Nat} {pt pt2 : Pos} (hc : X.calm = true) (ha : PA X es (tA ζ X.K fa)) (hg : PGs X ts (gNames is)) (hn : (assignEach ts X.env).length = is.length := by rfl) (hst : (assignEach ts X.env).findIdx? (·.1) = none := by rfl)
    (hs : swapsWithSole [.Tuple ts kt pt] (.Tuple es k2 pt2) pos.line X.env = pure false := by rfl) (hw : swappedStores [.Tuple ts kt pt] (.Tuple es k2 pt2) X.env = pure none := by rfl) (h1 : (assignEach [.Tuple ts kt pt] X.env).map (·.2) = [assign (.Tuple ts kt pt) X.env] := by rfl) :
    PS X (.Assign [.Tuple ts kt pt] (.Tuple es k2 pt2) pos) (tS ζ X.K (sParG is fa)) := ps_imp (ps_asg (pe_tup ha) (pg_tup hc hg hn hst) hs hw h1) fun W σ H q => by
  obtain ⟨φ, env, m, fl, S, E, hf, k⟩ := q
  obtain ⟨⟨rs, m1⟩, h1, hf⟩ := bind_some_iff hf
  split at hf
  · rename_i hl
    obtain ⟨e1, h2, hf⟩ := bind_some_iff hf
    cases hf
    refine ⟨φ, env, m, rs, m1, S, E, h1, fun φ1 H1 vs g1 S1 R1 => ⟨by rw [Paired.len R1]; exact hl, fun p hp => ?_⟩⟩
    have g2 := g1.trans (gr_alloc (o := .tup vs) hp)
    have hlen : rs.length = is.length := len_setAll h2
    exact ⟨p, vs, rfl, .inl (.inl upd_same), by rw [Paired.len R1]; exact hlen, gn_ok (E.mono g2) (RRs.mono (gr_alloc (o := .tup vs) hp) R1) h2 fun σ' E' => k φ1 σ' _ g2 (S1.alloc hp) E'⟩
  · cases hf
where
  len_setAll : ∀ {is : List Nat} {rs : List R} {env env' : Sl}, setAll is rs env = some env' → rs.length = is.length
    | [], [], _, _, _ => rfl
    | i :: is, r :: rs, _, _, e => by
      rw [List.length_cons, List.length_cons, len_setAll (is := is) (rs := rs) e]
    | [], _ :: _, _, _, e => by cases e
    | _ :: _, [], _, _, e => by cases e
/-! tuple * int, at least two -/
def pRepT (a b : R) (m : M) : Option (R × M) := match a with
  | .val (.tuple ds) => (asI b).bind fun k => if ds ≠ [] ∧ 2 ≤ k ∧ k ≤ 1000 ∧ ds.length ≤ 1000 then some (.val (.tuple (List.replicate k.toNat ds).flatten), m) else none
  | _ => none
theorem o_repT : OpR X (binaryOp .Mult) (r2P ζ X.K pRepT) := by
  intro pins s σ H x y v u Q I rx ry q
  obtain ⟨φ, m, r1, r2, r, m', S, R1, R2, hf, k⟩ := q
  unfold pRepT at hf
  split at hf
  · rename_i ds
    obtain ⟨n, h2, hf⟩ := bind_some_iff hf
    split at hf
    · rename_i hc
      cases hf
      have e2 := asI_some h2
      subst e2
      obtain ⟨a, xs, rfl, hs, hd⟩ := seqT_of R1
      have hn := DpAll.len hd
      have hne : xs ≠ [] := fun z => hc.1 (List.length_eq_zero_iff.mp (by rw [← hn, z]; rfl))
      exact op_repT pins s σ H _ _ v u Q I rx ry ⟨a, n, xs, rfl, rr_int R2, hs, hne, hc.2.1, hc.2.2.1, by rw [hn]; exact hc.2.2.2, fun p hp => k φ _ _ (gr_alloc hp) (S.alloc hp) (rr_newT S hp (DpAll.rep hd _))⟩
    · cases hf
  · cases hf
end
/-! how many arguments -/
theorem la_nil : ∀ env m rs m', aNil env m = some (rs, m') → rs.length = 0 := fun env m rs m' h => by
  cases h
  rfl
theorem la_cons {f : EF} {g : AF} {n : Nat} (h : ∀ env m rs m', g env m = some (rs, m') → rs.length = n) : ∀ env m rs m', aCons f g env m = some (rs, m') → rs.length = n + 1 := fun env m rs m' e => by
  obtain ⟨⟨r1, m1⟩, h1, e⟩ := bind_some_iff e
  obtain ⟨⟨r2, m2⟩, h2, e⟩ := bind_some_iff e
  cases e
  rw [List.length_cons, h _ _ _ _ h2]
end Ev

set_option Elab.async false
set_option linter.all false
set_option maxRecDepth 100000
/-! xs[::-1]; what a def of the module is to its callers. -/
namespace Ev
open PySem PySem.Spec PyProof.Rows L2

section
variable {prog : Program} {w : World} {A : Around} {E : Value → Shared → Prop} {s : Shared}
theorem pick_back (xs : Array Value) : ((List.range xs.size).filterMap fun (m : Nat) => xs[(((xs.size : Int) - 1) + (m : Int) * (-1)).toNat]?).toArray = xs.toList.reverse.toArray := by
  have e : ((List.range xs.size).filterMap fun (m : Nat) => xs[(((xs.size : Int) - 1) + (m : Int) * (-1)).toNat]?) = (List.range xs.size).filterMap fun m => xs.toList.reverse[m]? := by
    have cg : ∀ (l : List Nat) (f g : Nat → Option Value), (∀ m ∈ l, f m = g m) → l.filterMap f = l.filterMap g := by
      intro l f g h
      induction l with
      | nil => rfl
      | cons a l ih => rw [List.filterMap_cons, List.filterMap_cons, h a List.mem_cons_self, ih fun m hm => h m (List.mem_cons_of_mem _ hm)]
    refine cg _ _ _ fun m hm => ?_
    have h := List.mem_range.mp hm
    rw [show (((xs.size : Int) - 1) + (m : Int) * (-1)).toNat = xs.size - 1 - m by omega, List.getElem?_reverse (by rw [Array.length_toList]; exact h), Array.length_toList, Array.getElem?_toList]
  rw [e]
  have h2 : xs.size = xs.toList.reverse.length := by simp
  rw [h2]
  congr 1
  have key : ∀ l : List Value, (List.range l.length).filterMap (fun m => l[m]?) = l := by
    intro l
    induction l with
    | nil => rfl
    | cons a l ih =>
      rw [List.length_cons, List.range_succ_eq_map, List.filterMap_cons]
      simp only [List.getElem?_cons_zero, List.filterMap_map]
      congr 1
  exact key _
theorem getItem_tuple_back {t sl : Addr} {items : Array Value} {vl vu vs : Value} {Q : Value → Shared → Prop} (ht : IsTup s.heap t items) (hs : s.heap.IsSliceOf sl vl vu vs) (pl : IsPart vl none) (pu : IsPart vu none) (ps : IsPart vs (some (-1)))
    (h : Q (.ref s.heap.objs.size) { s with heap := s.heap.push { cls := .type "tuple", data := .seq items.toList.reverse.toArray } })
    (hsz : items.size ≤ sizeLine) : wpAny (model prog w) A (getItem (.ref t) (.ref sl)) Q E s := by
  have htake : sizeOk (.seq items.toList.reverse.toArray) := by
    show items.toList.reverse.toArray.size ≤ sizeLine
    simp
    exact hsz
  obtain ⟨os, hos, hcs, hds⟩ := id hs
  have hTs : s.TypeIs (.ref sl) "slice" := ⟨os, hos, hcs⟩
  unfold getItem
  try with_reducible refine wpAny_holding ?_
  first | refine wpAny_bind (wpAny_pure ?_) | skip
  refine wpAny_bind (wpAny_sequenceKey ht.typeIs (by decide) ?_)
  refine wpAny_bind (wpAny_callSpecial?_slot (name := Str.ofString "__getitem__") ht.typeIs PyProof.Rows.slot_tuple_getitem
    (wpAny_call_entry PyProof.Rows.slot_tuple_getitem ht.typeIs entry_tuple_getitem ?_ (args_tuple_getitem _ _)))
  show wpAny _ _ (Builtin.Tuple.tupleItemsOf (.ref t) >>= _) _ _ s
  refine wpAny_bind (PyProof.Rows.tupleItemsOf_ ht ?_)
  refine wpAny_bind (wpAny_typeOf hTs ?_)
  rw [if_pos (by decide)]
  have places : Builtin.Slice.slicePlaces ((items.size : Int) - 1) (-1) (-1) = items.size := by
    unfold Builtin.Slice.slicePlaces
    have h1 : ¬ ((-1 : Int) > 0) := by decide
    simp only [h1, if_false, Int.neg_neg, Int.ediv_one]
    split <;> omega
  refine wpAny_bind ?_
  · unfold Builtin.Slice.sliceApplied Builtin.Slice.sliceFields
    refine wpAny_bind (wpAny_bind (wpAny_field hos hds (x := vl) rfl (wpAny_bind (wpAny_field hos hds (x := vu) rfl (wpAny_bind (wpAny_field hos hds (x := vs) rfl (wpAny_pure ?_)))))))
    refine wpAny_bind (HT.slicePart_ ps ?_)
    show wpAny _ _ (if ((-1 : Int) == 0) = true then _ else _) _ _ s
    rw [if_neg (by decide)]
    refine wpAny_bind (HT.slicePart_ pl (wpAny_bind (HT.slicePart_ pu (wpAny_bind (wpAny_pure ?_)))))
    show wpAny _ _ (pure (((items.size : Int) - 1), (-1 : Int), Builtin.Slice.slicePlaces ((items.size : Int) - 1) (-1) (-1))) _ _ s
    rw [places]
    refine wpAny_pure ?_
    have hno : ¬ (((((items.size : Int) - 1)) == 0 && (-1 : Int) == 1 && items.size == items.size) = true) := by
      intro q
      rw [Bool.and_eq_true, Bool.and_eq_true] at q
      exact absurd q.1.2 (by decide)
    show wpAny _ _ (if ((((items.size : Int) - 1)) == 0 && (-1 : Int) == 1 && items.size == items.size) = true then _ else _) _ _ s
    rw [if_neg hno, pick_back]
    first
      | exact wpAny_bind (m := Builtin.Tuple.tupleExact _) (wpAny_newObj_type (wpAny_pure ⟨_, rfl, wpAny_pure h⟩) htake)
      | exact wpAny_bind (m := Builtin.Tuple.tupleExact _) (wpAny_newObj_type (wpAny_bind (wpAny_pure (wpAny_pure ⟨_, rfl, wpAny_pure h⟩))) htake)
      | exact wpAny_bind (wpAny_bind (m := Builtin.Tuple.tupleExact _) (wpAny_newObj_type (wpAny_pure (wpAny_pure ⟨_, rfl, wpAny_pure h⟩)) htake))
      | exact wpAny_bind (wpAny_bind (m := Builtin.Tuple.tupleExact _) (wpAny_newObj_type (wpAny_pure ⟨_, rfl, wpAny_pure h⟩) htake))
end
def tRevT (K : PySem.W.Frag) (te : TE) : TE := fun σ H Q => te σ H fun x H1 => ∃ a xs, x = .ref a ∧ SqT K H1 a xs ∧ ∀ p, H1 p = none → Q (.ref p) (upd H1 p (.tup xs.reverse))
section
variable {X : Cx}
theorem pe_revT {e : Expr} {te : TE} {k : Nat} {p1 p2 p3 pos : Pos} (he : PE X e te) : PE X (.Subscript e (.Slice none none (some (.UnaryOp .USub (.Constant (.int 1) k p1) p2)) p3) pos) (tRevT X.K te) := by
  refine ⟨fun pins s σ H Q I h => ?_⟩
  refine Subscript_ (thn (he.run pins s σ H _ I h) fun v s1 ⟨x, H1, I1, r1, q1⟩ => ?_)
  obtain ⟨a, xs, ex, hx, q⟩ := q1
  subst ex
  cases r1
  have hst : PO X (some (.UnaryOp .USub (.Constant (.int 1) k p1) p2)) (tPart (tUn (rU fun i => .int (-i)) (tC (.int 1)))) := po_some (pe_un un_neg pe_int)
  refine wpAny_Slice (thn (po_none.run pins s1 σ H1 (fun o H2 => o = none ∧ H2 = H1) I1 ⟨rfl, rfl⟩) fun vl s2 ⟨l, H2, I2, pl, el, e2⟩ => ?_)
  subst el e2
  refine thn (po_none.run pins s2 σ H2 (fun o H3 => o = none ∧ H3 = H2) I2 ⟨rfl, rfl⟩) fun vu s3 ⟨u, H3, I3, pu, eu, e3⟩ => ?_
  subst eu e3
  refine thn (hst.run pins s3 σ H3 (fun o H4 => o = some (-1) ∧ H4 = H3) I3 ⟨1, rfl, -1, rfl, rfl, rfl⟩) fun vs s4 ⟨o, H4, I4, ps, eo, e4⟩ => ?_
  subst eo e4
  have I5 : Inv X pins σ H4 { s4 with heap := s4.heap.push { cls := .type "slice", data := .fields #[vl, vu, vs] } } := I4.kept (t' := s4.toks) fun b ob q => Heap.get?_push_of_some _ q
  obtain ⟨its, r, ht, hz⟩ := I5.tuple hx
  have hlen := r.length
  show wpAny (model X.prog X.w) X.A (subscriptTail e (.Slice none none (some (.UnaryOp .USub (.Constant (.int 1) k p1) p2)) p3) (.ref a) (.ref s4.heap.objs.size)) (EP X pins σ Q) X.xe { s4 with heap := s4.heap.push { cls := .type "slice", data := .fields #[vl, vu, vs] } }
  refine tail_any (ops := [.ref a, .ref s4.heap.objs.size]) ht.typeIs (PyProof.Rows.slot_tuple_getitem.lookup) ?_ (by with_unfolding_all rfl)
  refine getItem_tuple_back ht (Heap.IsSliceOf.new _ vl vu vs) pl pu ps ?_ (by rw [List.size_toArray]; omega)
  refine ⟨.ref _, _, I5.laid (t' := s4.toks) (o := .tup xs.reverse) (fun b ob q => Heap.get?_push_of_some _ q) (Nat.le_refl _) ?_, rfl, q _ (I5.hok.fresh (Nat.le_refl _))⟩
  exact ⟨by rw [List.length_reverse]; exact hz, _, r.reverse, IsTup.new _ _⟩
theorem DpAll.rev {K : PySem.W.Frag} {H : Hp} : ∀ {ds : List D} {vs : List V}, DpAll K H vs ds → DpAll K H vs.reverse ds.reverse
  | [], [], _ => .nil
  | _ :: _, _ :: _, .cons a t => by
    rw [List.reverse_cons, List.reverse_cons]
    exact DpAll.append (DpAll.rev t) (.cons a .nil)
/-- xs[::-1] -/
def eRev (f : EF) : EF := fun env m => (f env m).bind fun x => match x.1 with
  | .val (.tuple ds) => some (.val (.tuple ds.reverse), x.2)
  | r => (asL r x.2).bind fun ds => some (.val (.list ds.reverse), x.2)
theorem x_rev {a : Expr} {f : EF} {k : Nat} {p1 p2 p3 pos : Pos} (ha : PE X a (tE ζ X.K f)) : PE X (.Subscript a (.Slice none none (some (.UnaryOp .USub (.Constant (.int 1) k p1) p2)) p3) pos) (tE ζ X.K (eRev f)) := ⟨fun pins s σ H Q I q => by
  obtain ⟨φ, env, m, r, m', S, E, hf, k⟩ := q
  obtain ⟨⟨r1, m1⟩, h1, hf⟩ := bind_some_iff hf
  by_cases ht : ∃ ds, r1 = .val (.tuple ds)
  · obtain ⟨ds, rfl⟩ := ht
    cases hf
    exact (pe_revT ha).run pins s σ H Q I ⟨φ, env, m, _, _, S, E, h1, fun φ1 H1 v g1 S1 R1 => by
      obtain ⟨a, xs, rfl, hs, hd⟩ := seqT_of R1
      exact ⟨a, xs, rfl, hs, fun p hp => k φ1 _ _ (g1.trans (gr_alloc hp)) (S1.alloc hp) (rr_newT S1 hp (DpAll.rev hd))⟩⟩
  · simp only at hf
    split at hf
    · exact absurd ⟨_, rfl⟩ ht
    · obtain ⟨ds, h4, hf⟩ := bind_some_iff hf
      cases hf
      exact (pe_revL ha).run pins s σ H Q I ⟨φ, env, m, _, _, S, E, h1, fun φ1 H1 v g1 S1 R1 => by
        obtain ⟨a, xs, rfl, hs, hd⟩ := seqL_of S1 R1 h4
        exact ⟨a, xs, rfl, hs, fun p hp => k φ1 _ _ (g1.trans (gr_alloc hp)) (S1.alloc hp) (rr_newL S1 hp (DpAll.rev hd))⟩⟩⟩
end

/-! ### a def of the module -/
def HasDef (K : PySem.W.Frag) (mg : Str → Option Value) (x nm : Str) (st : Stmt) (ps : List Str) : Prop := ∃ f fd, mg x = some (.ref f) ∧ Fun K nm nm st f fd ∧ ∀ us : List Value, us.length = ps.length → bindArgs fd ⟨us, []⟩ = pure (ps.zip us)
def Okd (ζ : Tbs) (P : Program) (w : World) (K : PySem.W.Frag) (mg : Str → Option Value) (base : Heap) (k : Nat) (x : Str) (ps : List Str) (F : Fn) : Prop :=
  ∃ f fd, mg x = some (.ref f) ∧ PySem.W.keepIn K (.ref f) = true ∧ (∃ oc od osl, K.lookup f = some ⟨oc, od, .func fd, osl⟩) ∧ (∀ us : List Value, us.length = ps.length → bindArgs fd ⟨us, []⟩ = pure (ps.zip us)) ∧ FnG P w K mg base k f fd ps (spF ζ K ps.length F)
section
variable {P : Program} {w : World} {K : PySem.W.Frag} {mg : Str → Option Value} {base : Heap}
theorem hasDef {x nm : Str} {st : Stmt} {ps : List Str} {h : Heap} {f : Addr} {oc : Value} {od an : Option Addr} {osl : Array (Option Value)} {kV doc pm cdv ct : Value} (X : K.In h) (G : h.Ns mainGlobals mg)
    (b : ∀ (kV doc pm : Value) (an : Option Addr) (cdv ct : Value) (us : List Value), us.length = ps.length → bindArgs (PySem.W.fnOf nm nm (defArgs st) (defBody st) (defScope st) .none kV doc pm an cdv ct) ⟨us, []⟩ = pure (ps.zip us))
    (a : PySem.W.nsIn K mainGlobals x = some (some (.ref f))) (l : K.lookup f = some ⟨oc, od, .func (PySem.W.fnOf nm nm (defArgs st) (defBody st) (defScope st) .none kV doc pm an cdv ct), osl⟩)
    (c : PySem.W.codeIn K cdv nm = true) (k : PySem.W.keepIn K (.ref f) = true) : HasDef K mg x nm st ps :=
  ⟨f, _, PySem.W.mg_of X G a, fun_mk l c k, b _ _ _ _ _ _⟩
theorem okd_of {x nm : Str} {st : Stmt} {ps : List Str} {k : Nat} {Fm : Fn} (D : HasDef K mg x nm st ps) (h : ∀ f fd, Fun K nm nm st f fd → FnG P w K mg base k f fd ps (spF ζ K ps.length Fm)) : Okd ζ P w K mg base k x ps Fm := by
  obtain ⟨f, fd, hm, F, hB⟩ := D
  obtain ⟨oc, od, kV, doc, pm, an, cdv, ct, osl, e, l, c⟩ := F.ex
  exact ⟨f, fd, hm, F.kp, ⟨oc, od, osl, l⟩, hB, h f fd F⟩
theorem okd {x nm : Str} {st : Stmt} {N ps : List Str} {k n : Nat} {body : SF} (D : HasDef K mg x nm st ps) (S : FnScope N ps (defScope st)) (hn : N.length = n)
    (hb : ∀ f cdv A outer s H E, A.guards = some [] → Room k (A.deeper (envOfC nm (defScope st) s.heap.objs.size f cdv)) → PSs (Cf P w K mg base N nm st f cdv A outer s H E) (defBody st) (tS ζ K body)) : Okd ζ P w K mg base (k + 1) x ps (bodyF n body) :=
  okd_of D fun f fd F => fnF F S hn fun cdv A outer s H E _ => hb f cdv A outer s H E
theorem okdK {x nm : Str} {st : Stmt} {N ps : List Str} {k n : Nat} {body : SF} (D : HasDef K mg x nm st ps) (S : FnScope N ps (defScope st)) (hn : N.length = n)
    (hb : ∀ f cdv A outer s H E, A.guards = some [] → Room k (A.deeper (envOfC nm (defScope st) s.heap.objs.size f cdv)) → PSs (Cf P w K mg base N nm st f cdv A outer s H E) (defBody st) (tS ζ K body)) : Okd ζ P w K mg base (k + 1) x ps (bodyK n body) :=
  okd_of D fun f fd F => fnK F S hn fun cdv A outer s H E _ => hb f cdv A outer s H E
theorem endO {x nm : Str} {st : Stmt} {p : Str} {k : Nat} {Fm : Fn} {fa : Addr} {h : Heap} {cs : List (Addr × Addr × Str)} (X : K.In h) (D : HasDef K mg x nm st [p]) (TA : TabsAt K h cs) (O : ∀ base : Heap, (∀ p ∈ cs, LamX.TabB base mg p.1 p.2.1) → Okd (tabT cs) P w K mg base k x [p] Fm) (hmg : mg x = some (.ref fa)) :
    ∃ (K : PySem.W.Frag) (fd : FuncData) (cs : List (Addr × Addr × Str)), K.In h ∧ TabsAt K h cs ∧ (∀ (s : Shared) (u : Value), BindsTo s fd ⟨[u], []⟩ [(p, u)]) ∧ ∀ base : Heap, K.In base → base.Ns mainGlobals mg → (∀ p ∈ cs, LamX.TabB base mg p.1 p.2.1) → FnG P w K mg base k fa fd [p] (spF (tabT cs) K 1 Fm) := by
  obtain ⟨f, fd, hm, F, hB⟩ := D
  obtain ⟨oc, od, kV, doc, pm, an, cdv, ct, osl, e, l, c⟩ := F.ex
  rw [hm] at hmg
  cases hmg
  refine ⟨K, fd, cs, X, TA, fun s u => .of_eq (hB [u] rfl), fun base _ _ TB => ?_⟩
  obtain ⟨f2, fd2, hm2, _, ⟨oc2, od2, osl2, l2⟩, _, G⟩ := O base TB
  rw [hm] at hm2
  cases hm2
  rw [l] at l2
  cases l2
  exact G
end
theorem x_callO {X : Cx} {k : Nat} {ps : List Str} {x : Str} {p pos : Pos} {e : Expr} {es : List Expr} {fa : AF} {F : Fn} (O : Okd ζ X.prog X.w X.K X.mg X.base k x ps F) (hr : Room k X.A) (hgd : X.A.guards = some []) (hg : Gl X x)
    (ha : PA X (e :: es) (tA ζ X.K fa)) (hl : ∀ env m rs m', fa env m = some (rs, m') → rs.length = ps.length) (hdb : (x == ("__debug__" : Str)) = false := by decide) (he : starEach (e :: es) X.env = (false, eval e X.env) :: starEach es X.env := by rfl) (hpl : (backTo pos (starEach es X.env)).any (·.1) = false := by rfl) :
    PE X (.Call (.Name x p) (e :: es) [] pos) (tE ζ X.K (eAp F fa)) := by
  obtain ⟨f, fd, hm, hk, _, hB, G⟩ := O
  exact x_call G hr hgd hg hm hk (.all hB) rfl ha hl hdb he hpl
/-- .. whose code object is known (it makes lambdas) -/
def HasCode (K : PySem.W.Frag) (mg : Str → Option Value) (x nm : Str) (st : Stmt) (ps : List Str) (c : Addr) : Prop := ∃ f fd, mg x = some (.ref f) ∧ Fun K nm nm st f fd ∧ fd.code = .ref c ∧ ∀ us : List Value, us.length = ps.length → bindArgs fd ⟨us, []⟩ = pure (ps.zip us)
section
variable {P : Program} {w : World} {K : PySem.W.Frag} {mg : Str → Option Value} {base : Heap}
theorem HasCode.def_ {x nm : Str} {st : Stmt} {ps : List Str} {c : Addr} (D : HasCode K mg x nm st ps c) : HasDef K mg x nm st ps := by
  obtain ⟨f, fd, a, b, _, e⟩ := D
  exact ⟨f, fd, a, b, e⟩
theorem okdC {x nm : Str} {st : Stmt} {N ps : List Str} {k n : Nat} {body : SF} {c : Addr} (D : HasCode K mg x nm st ps c) (S : FnScope N ps (defScope st)) (hn : N.length = n)
    (hb : ∀ f A outer s H E, A.guards = some [] → Room k (A.deeper (envOfC nm (defScope st) s.heap.objs.size f (.ref c))) → PSs (Cf P w K mg base N nm st f (.ref c) A outer s H E) (defBody st) (tS ζ K body)) : Okd ζ P w K mg base (k + 1) x ps (bodyF n body) := by
  obtain ⟨f, fd, hm, F, hc, hB⟩ := D
  obtain ⟨oc, od, kV, doc, pm, an, cdv, ct, osl, e, l, cd⟩ := F.ex
  exact ⟨f, fd, hm, F.kp, ⟨oc, od, osl, l⟩, hB, fnF F S hn fun cdv A outer s H E e2 hg hr => by
    have e3 : cdv = .ref c := e2.symm.trans hc
    subst e3
    exact hb f A outer s H E hg hr⟩
end
/-! ### the known part of the heap, tables left out -/
def cutK (K : PySem.W.Frag) (ts : List Addr) : PySem.W.Frag := K.filter fun q => !ts.contains q.1
theorem cutK_out {ts : List Addr} {a : Addr} (h : ts.contains a = false) : ∀ {K : PySem.W.Frag}, (cutK K ts).lookup a = K.lookup a
  | [] => rfl
  | (b, o) :: K => by
    have ih := cutK_out h (K := K)
    unfold cutK at ih ⊢
    rw [List.filter_cons, List.lookup_cons]
    by_cases hb : ts.contains b = true
    · have nab : (a == b) = false := beq_eq_false_iff_ne.mpr fun z => by
        rw [z, hb] at h
        cases h
      simp only [hb, Bool.not_true, Bool.false_eq_true, if_false, nab]
      exact ih
    · have hb' : ts.contains b = false := by simpa using hb
      simp only [hb', Bool.not_false, if_true, List.lookup_cons]
      cases a == b
      · exact ih
      · rfl
theorem cutK_none {ts : List Addr} {a : Addr} (h : ts.contains a = true) : ∀ {K : PySem.W.Frag}, (cutK K ts).lookup a = none
  | [] => rfl
  | (b, o) :: K => by
    have ih := cutK_none h (K := K)
    unfold cutK at ih ⊢
    rw [List.filter_cons]
    by_cases hb : ts.contains b = true
    · simp only [hb, Bool.not_true, Bool.false_eq_true, if_false]
      exact ih
    · have hb' : ts.contains b = false := by simpa using hb
      have nab : (a == b) = false := beq_eq_false_iff_ne.mpr fun z => by
        rw [z, hb'] at h
        cases h
      simp only [hb', Bool.not_false, if_true, List.lookup_cons, nab]
      exact ih
theorem cutK_In {K : PySem.W.Frag} {ts : List Addr} {h : Heap} (X : K.In h) : (cutK K ts).In h := fun a o e => by
  cases hc : ts.contains a with
  | true =>
    rw [cutK_none hc] at e
    cases e
  | false =>
    rw [cutK_out hc] at e
    exact X a o e
theorem cut_code {K : PySem.W.Frag} {ts : List Addr} {c : Addr} {q : Str} (h : ts.contains c = false) (e : PySem.W.codeIn K (.ref c) q = true) : PySem.W.codeIn (cutK K ts) (.ref c) q = true := by
  unfold PySem.W.codeIn at e ⊢
  simp only at e ⊢
  rw [cutK_out h]
  exact e
theorem cut_hd {K : PySem.W.Frag} {ts : List Addr} {c P : Addr} (h : ts.contains c = false) (e : PySem.W.codeHdIn K c P = true) : PySem.W.codeHdIn (cutK K ts) c P = true := by
  unfold PySem.W.codeHdIn at e ⊢
  rw [cutK_out h]
  exact e
/-- a def's facts, told of the cut part -/
theorem hasCode {K : PySem.W.Frag} {mg : Str → Option Value} {x nm : Str} {st : Stmt} {ps : List Str} {h : Heap} {ts : List Addr} {f c : Addr} {oc : Value} {od an : Option Addr} {osl : Array (Option Value)} {kV doc pm ct : Value} (X : K.In h) (G : h.Ns mainGlobals mg)
    (b : ∀ (kV doc pm : Value) (an : Option Addr) (cdv ct : Value) (us : List Value), us.length = ps.length → bindArgs (PySem.W.fnOf nm nm (defArgs st) (defBody st) (defScope st) .none kV doc pm an cdv ct) ⟨us, []⟩ = pure (ps.zip us))
    (a : PySem.W.nsIn K mainGlobals x = some (some (.ref f))) (l : K.lookup f = some ⟨oc, od, .func (PySem.W.fnOf nm nm (defArgs st) (defBody st) (defScope st) .none kV doc pm an (.ref c) ct), osl⟩)
    (cd : PySem.W.codeIn K (.ref c) nm = true) (nf : ts.contains f = false) (nc : ts.contains c = false) : HasCode (cutK K ts) mg x nm st ps c := by
  have l' : (cutK K ts).lookup f = some ⟨oc, od, .func (PySem.W.fnOf nm nm (defArgs st) (defBody st) (defScope st) .none kV doc pm an (.ref c) ct), osl⟩ := by rw [cutK_out nf]; exact l
  refine ⟨f, _, PySem.W.mg_of X G a, fun_mk l' (cut_code nc cd) ?_, rfl, b _ _ _ _ _ _⟩
  unfold PySem.W.keepIn
  simp only [l']
theorem cst_ {K : PySem.W.Frag} {mg : Str → Option Value} {h : Heap} {x : Str} {i : Int} {v : Value} (X : K.In h) (G : h.Ns mainGlobals mg) (a : PySem.W.nsIn K mainGlobals x = some (some v)) (e : ∃ t, v = .int i t) : ∃ t, mg x = some (.int i t) := by
  obtain ⟨t, rfl⟩ := e
  exact ⟨t, PySem.W.mg_of X G a⟩
/-! the builtins' names -/
theorem bt_len : bootBuiltins "len" = some (.builtin "len") := by decide +kernel
theorem bt_abs : bootBuiltins "abs" = some (.builtin "abs") := by decide +kernel
theorem bt_min : bootBuiltins "min" = some (.builtin "min") := by decide +kernel
theorem bt_max : bootBuiltins "max" = some (.builtin "max") := by decide +kernel
theorem bt_sum : bootBuiltins "sum" = some (.builtin "sum") := by decide +kernel
theorem bt_all : bootBuiltins "all" = some (.builtin "all") := by decide +kernel
theorem bt_any : bootBuiltins "any" = some (.builtin "any") := by decide +kernel
theorem bt_repr : bootBuiltins "repr" = some (.builtin "repr") := by decide +kernel
theorem bt_int : bootBuiltins "int" = some (.type "int") := by decide +kernel
theorem bt_bool : bootBuiltins "bool" = some (.type "bool") := by decide +kernel
theorem bt_tuple : bootBuiltins "tuple" = some (.type "tuple") := by decide +kernel
theorem bt_list : bootBuiltins "list" = some (.type "list") := by decide +kernel
theorem bt_isinstance : bootBuiltins "isinstance" = some (.builtin "isinstance") := by decide +kernel
end Ev

set_option Elab.async false
set_option linter.all false
set_option maxRecDepth 100000
/-! Evaluators by simp; repr of small data. -/
namespace Ev
open PySem PySem.Spec PyProof.Rows L2

/-! ### small data: ints of at most 24 digits, no texts -/
mutual
def smallD : D → Bool
  | .none => true
  | .bool _ => true
  | .int i => decide (-(1000000000000000000000000 : Int) < i ∧ i < (1000000000000000000000000 : Int))
  | .list xs => smallDs xs
  | .tuple xs => smallDs xs
  | .str _ => false
  | .dict _ => false
def smallDs : List D → Bool
  | [] => true
  | x :: xs => smallD x && smallDs xs
end
theorem int_log {i : Int} (h : -(1000000000000000000000000 : Int) < i ∧ i < (1000000000000000000000000 : Int)) : i.natAbs < 1000000000000000000000000 := by omega
theorem len_ofString (s : String) : (Str.ofString s).length = s.length := by
  rw [Str.ofString_eq_toList]
  show (s.toList.map Char.toNat).toArray.size = s.length
  rw [List.size_toArray, List.length_map, String.length_toList]
theorem shown_int_len {i : Int} (h : i.natAbs < 1000000000000000000000000) : (PyData.shown (.int i)).length ≤ 25 := by
  have e : PyData.shown (.int i) = Str.ofString (toString i) := rfl
  rw [e, len_ofString]
  have hn : ∀ n : Nat, n < 1000000000000000000000000 → (Nat.repr n).length ≤ 24 := fun n hn => (Nat.length_repr_le_iff (by decide)).mpr (by simpa using hn)
  cases i with
  | ofNat n => exact Nat.le_succ_of_le (hn n h)
  | negSucc n =>
    have e2 : toString (Int.negSucc n) = "-" ++ Nat.repr (n + 1) := rfl
    rw [e2, String.length_append]
    have := hn (n + 1) h
    have e3 : ("-" : String).length = 1 := by decide
    omega
def okS (s : Str) : Prop := ∀ c ∈ s.cps.toList, c < 0x110000
theorem okS_of (s : String) : okS (Str.ofString s) := by
  rw [Str.ofString_eq_toList]
  intro c hc
  simp only [List.mem_map] at hc
  obtain ⟨x, _, rfl⟩ := hc
  have := x.valid
  rcases this with h | h <;> (show x.val.toNat < _; omega)
theorem okS_app {a b : Str} (ha : okS a) (hb : okS b) : okS (a ++ b) := fun c hc => by
  have e : (a ++ b).cps = a.cps ++ b.cps := rfl
  rw [e, Array.toList_append, List.mem_append] at hc
  exact hc.elim (ha c) (hb c)
theorem okS_join {sep : Str} (hs : okS sep) : ∀ {l : List Str}, (∀ x ∈ l, okS x) → okS (Str.join sep l)
  | [], _ => fun c hc => by simp [Str.join, Str.empty] at hc
  | [x], h => h x (by simp)
  | x :: y :: r, h => okS_app (okS_app (h x (by simp)) hs) (okS_join hs (l := y :: r) fun z hz => h z (by simp [hz]))
theorem okS_strOk {s : Str} (h : okS s) : PyData.strOk s = true := by
  unfold PyData.strOk
  rw [Array.all_eq_true_iff_forall_mem]
  intro x hx
  simpa using h x (Array.mem_toList_iff.mpr hx)
mutual
theorem small_ok : ∀ d : D, smallD d = true → d.showable = true ∧ d.hasDict = false ∧ d.leavesShort 25 = true ∧ okS d.shown
  | .none, _ => ⟨rfl, rfl, rfl, okS_of "None"⟩
  | .bool b, _ => ⟨rfl, rfl, rfl, by cases b <;> exact okS_of _⟩
  | .int i, h => by
    have h1 := int_log (of_decide_eq_true h)
    refine ⟨?_, rfl, ?_, okS_of _⟩
    · show decide (i.natAbs.log2 < 1920) = true
      refine decide_eq_true ?_
      have : i.natAbs.log2 < 80 := by
        by_cases z : i.natAbs = 0
        · rw [z]; decide
        · exact (Nat.log2_lt z).mpr (Nat.lt_of_lt_of_le h1 (by decide))
      omega
    · show decide ((PyData.shown (.int i)).length ≤ 25) = true
      exact decide_eq_true (shown_int_len h1)
  | .list xs, h => by
    obtain ⟨a, b, c, e⟩ := smalls_ok xs h
    refine ⟨a, b, c, ?_⟩
    show okS (listText (PyData.shownAll xs))
    rw [listText_eq_join]
    exact okS_app (okS_app (okS_of "[") (okS_join (okS_of ", ") e)) (okS_of "]")
  | .tuple xs, h => by
    obtain ⟨a, b, c, e⟩ := smalls_ok xs h
    refine ⟨a, b, c, ?_⟩
    show okS (tupleText (PyData.shownAll xs))
    unfold tupleText
    refine okS_app (okS_app (okS_of "(") (okS_join (okS_of ", ") e)) ?_
    split <;> exact okS_of _
  | .str _, h => by cases h
  | .dict _, h => by cases h
theorem smalls_ok : ∀ ds : List D, smallDs ds = true → PyData.showableAll ds = true ∧ PyData.hasDictAll ds = false ∧ PyData.leavesShortAll 25 ds = true ∧ ∀ x ∈ PyData.shownAll ds, okS x
  | [], _ => ⟨rfl, rfl, rfl, fun x hx => by cases hx⟩
  | d :: ds, h => by
    have h' : (smallD d && smallDs ds) = true := h
    rw [Bool.and_eq_true] at h'
    obtain ⟨a, b, c, e⟩ := small_ok d h'.1
    obtain ⟨a2, b2, c2, e2⟩ := smalls_ok ds h'.2
    refine ⟨?_, ?_, ?_, ?_⟩
    · show (PyData.showable d && PyData.showableAll ds) = true
      rw [a, a2]; rfl
    · show (PyData.hasDict d || PyData.hasDictAll ds) = false
      rw [b, b2]; rfl
    · show (PyData.leavesShort 25 d && PyData.leavesShortAll 25 ds) = true
      rw [c, c2]; rfl
    · intro x hx
      rcases List.mem_cons.mp (show x ∈ PyData.shown d :: PyData.shownAll ds from hx) with q | q
      · rw [q]; exact e
      · exact e2 x q
end
theorem pRepr_ok {d : D} {m : M} (h : smallD d = true) (hd : d.depth ≤ 60) (hw : d.weight ≤ 500000) : pRepr [.val d] m = some (.val (.str d.shown), m) := by
  obtain ⟨a, b, c, _⟩ := small_ok d h
  have h2 := PyData.shown_le 25 (by decide) d c
  have h3 : (25 + 2) * d.weight ≤ 27 * 500000 := Nat.mul_le_mul (by omega) hw
  have h4 : d.shown.length ≤ sizeLine := by
    rw [sizeLine_eq]
    omega
  show (if (d.showable && !d.hasDict && decide (d.depth ≤ 60) && decide (d.shown.length ≤ sizeLine)) = true then some (R.val (.str d.shown), m) else none) = _
  rw [a, b, decide_eq_true hd, decide_eq_true h4]
  rfl
theorem pNe_shown {d : D} {m : M} (h : smallD d = true) : pNe (.val (.str d.shown)) (.val (.str d.shown)) m = some (.val (.bool false), m) := by
  have z := okS_strOk (small_ok d h).2.2.2
  have s1 : SeqAt.shaped (.str d.shown) = true := by
    show (PyData.strOk d.shown && decide (PyData.depth (.str d.shown) ≤ 64)) = true
    rw [z]
    rfl
  have e : PyData.eqv (.str d.shown) (.str d.shown) = true := by simp [PyData.eqv]
  show (if (SeqAt.shaped (.str d.shown) && SeqAt.shaped (.str d.shown)) = true then some (R.val (.bool (if true then !PyData.eqv (.str d.shown) (.str d.shown) else PyData.eqv (.str d.shown) (.str d.shown))), m) else none) = _
  rw [s1, e]
  rfl
theorem pEq_shown {d : D} {m : M} (h : smallD d = true) : pEq (.val (.str d.shown)) (.val (.str d.shown)) m = some (.val (.bool true), m) := by
  have z := okS_strOk (small_ok d h).2.2.2
  have s1 : SeqAt.shaped (.str d.shown) = true := by
    show (PyData.strOk d.shown && decide (PyData.depth (.str d.shown) ≤ 64)) = true
    rw [z]
    rfl
  have e : PyData.eqv (.str d.shown) (.str d.shown) = true := by simp [PyData.eqv]
  show (if (SeqAt.shaped (.str d.shown) && SeqAt.shaped (.str d.shown)) = true then some (R.val (.bool (if false then !PyData.eqv (.str d.shown) (.str d.shown) else PyData.eqv (.str d.shown) (.str d.shown))), m) else none) = _
  rw [s1, e]
  rfl

/-! ### evaluation by simp -/
/-- a step that simp is to write down -/
theorem nr {α : Sort u} {a b : α} (h : a = b) : a = b := h
@[simp high] theorem ob_some {α β : Type} (a : α) (f : α → Option β) : (some a).bind f = f a := nr rfl
@[simp high] theorem ob_none {α β : Type} (f : α → Option β) : (none : Option α).bind f = none := nr rfl
section
variable {f g h : EF} {fa ga : AF} {tf tg : TF} {sf sg : SF} {gf : GF} {env : Sl} {m : M} {r : R} {p q : R → R → M → Option (R × M)}
@[simp] theorem ev_var0 {a : Option R} {l : Sl} : eVar 0 (a :: l) m = match a with
  | some r => some (r, m)
  | none => none := by cases a <;> rfl
@[simp] theorem ev_varS {i : Nat} {a : Option R} {l : Sl} : eVar (i + 1) (a :: l) m = eVar i l m := nr rfl
@[simp] theorem ev_c {d : D} : eC d env m = some (.val d, m) := nr rfl
@[simp] theorem ev_bin : eBin p f g env m = (f env m).bind fun x => (g env x.2).bind fun y => p x.1 y.1 y.2 := nr rfl
@[simp] theorem ev_un {p : R → M → Option (R × M)} : eUn p f env m = (f env m).bind fun x => p x.1 x.2 := nr rfl
@[simp] theorem ev_nil : aNil env m = some ([], m) := nr rfl
@[simp] theorem ev_cons : aCons f fa env m = (f env m).bind fun x => (fa env x.2).bind fun y => some (x.1 :: y.1, y.2) := nr rfl
@[simp] theorem ev_ap {p : List R → M → Option (R × M)} : eAp p fa env m = (fa env m).bind fun x => p x.1 x.2 := nr rfl
@[simp] theorem ev_tOf : tOf f env m = (f env m).bind fun x => (asB x.1).bind fun b => some (b, x.2) := nr rfl
@[simp] theorem ev_asB {b : Bool} : asB (.val (.bool b)) = some b := nr rfl
@[simp] theorem ev_asI {i : Int} : asI (.val (.int i)) = some i := nr rfl
@[simp] theorem ev_tNot : tNotF tf env m = (tf env m).bind fun x => some (!x.1, x.2) := nr rfl
@[simp] theorem ev_tAnd : tAndF tf tg env m = (tf env m).bind fun x => if x.1 = true then tg env x.2 else some (false, x.2) := nr rfl
@[simp] theorem ev_tOr : tOrF tf tg env m = (tf env m).bind fun x => if x.1 = true then some (true, x.2) else tg env x.2 := nr rfl
@[simp] theorem ev_eOf : eOf tf env m = (tf env m).bind fun x => some (.val (.bool x.1), x.2) := nr rfl
@[simp] theorem ev_eIf : eIf tf f g env m = (tf env m).bind fun x => if x.1 = true then f env x.2 else g env x.2 := nr rfl
@[simp] theorem ev_chain : eChain p q f g h env m = (f env m).bind fun x => (g env x.2).bind fun y => (p x.1 y.1 y.2).bind fun z =>
  (asB z.1).bind fun b => if b = true then (h env z.2).bind fun w => q y.1 w.1 w.2 else some (.val (.bool false), z.2) := rfl
@[simp] theorem ev_seq : sSeq sf sg env m = (sf env m).bind fun fl => thenF fl sg := nr rfl
@[simp] theorem ev_then_nx : thenF (.nx env m) sg = sg env m := nr rfl
@[simp] theorem ev_then_rt : thenF (.rt r m) sg = some (.rt r m) := nr rfl
@[simp] theorem ev_then_bk : thenF (.bk env m) sg = some (.bk env m) := nr rfl
@[simp] theorem ev_then_ct : thenF (.ct env m) sg = some (.ct env m) := nr rfl
@[simp] theorem ev_aft_nx {k : SF} : aftF (.nx env m) k = k env m := nr rfl
@[simp] theorem ev_aft_ct {k : SF} : aftF (.ct env m) k = k env m := nr rfl
@[simp] theorem ev_aft_rt {k : SF} : aftF (.rt r m) k = some (.rt r m) := nr rfl
@[simp] theorem ev_aft_bk {k : SF} : aftF (.bk env m) k = some (.nx env m) := nr rfl
@[simp] theorem ev_next : sNext env m = some (.nx env m) := nr rfl
@[simp] theorem ev_never : sNever env m = none := nr rfl
@[simp] theorem ev_break : sBreak env m = some (.bk env m) := nr rfl
@[simp] theorem ev_contn : sCont env m = some (.ct env m) := nr rfl
@[simp] theorem ev_ret : sRet f env m = (f env m).bind fun x => some (.rt x.1 x.2) := nr rfl
@[simp] theorem ev_retN : sRetN env m = some (.rt (.val .none) m) := nr rfl
@[simp] theorem ev_expr : sExpr f env m = (f env m).bind fun x => some (.nx env x.2) := nr rfl
@[simp] theorem ev_if : sIf tf sf sg env m = (tf env m).bind fun x => if x.1 = true then sf env x.2 else sg env x.2 := nr rfl
@[simp] theorem ev_asg : sAsg f gf env m = (f env m).bind fun x => (gf x.1 env x.2).bind fun y => some (.nx y.1 y.2) := nr rfl
@[simp] theorem ev_gNm {i : Nat} : gNm i r env m = some (env.set i (some r), m) := nr rfl
@[simp] theorem ev_par {i j : Nat} : sPar i j fa env m = (fa env m).bind fun x => match x.1 with
  | [a, b] => some (.nx ((env.set i (some a)).set j (some b)) x.2)
  | _ => none := nr rfl
@[simp] theorem ev_parG {is : List Nat} : sParG is fa env m = (fa env m).bind fun x => if x.1.length ≤ sizeLine then (setAll is x.1 env).bind fun e => some (.nx e x.2) else none := nr rfl
@[simp] theorem ev_sub {pp : R → R → R → M → Option M} : gSubF pp f g r env m = (f env m).bind fun x => (g env x.2).bind fun y => (pp x.1 y.1 r y.2).bind fun m' => some (env, m') := nr rfl
@[simp] theorem ev_aug {i : Nat} : sAugF p i f env m = (eVar i env m).bind fun x => (f env m).bind fun y => (p x.1 y.1 y.2).bind fun z => some (.nx (env.set i (some z.1)) z.2) := nr rfl
@[simp] theorem ev_augS {pp : R → R → R → M → Option M} : sAugSF q pp f g h env m = (f env m).bind fun x => (g env x.2).bind fun y => (pIdx x.1 y.1 y.2).bind fun z => (h env z.2).bind fun w => (q z.1 w.1 w.2).bind fun u => (pp x.1 y.1 u.1 u.2).bind fun m' => some (.nx env m') := nr rfl
@[simp] theorem ev_bm {pp : MF} : eBM pp f fa env m = (f env m).bind fun x => (asL x.1 x.2).bind fun _ => (fa env x.2).bind fun y => pp x.1 y.1 y.2 := nr rfl
@[simp] theorem ev_eL {nf : NF} : eL nf env m = (nf env m).bind fun x => some (.val (.list x.1), x.2) := nr rfl
@[simp] theorem ev_eNew {nf : NF} : eNew nf env m = (nf env m).bind fun x => some (.ref x.2.length, x.2 ++ [.lst x.1]) := nr rfl
@[simp] theorem ev_nLst : nLst fa env m = (fa env m).bind fun x => (vals x.1).bind fun ds => if ds.length ≤ sizeLine then some (ds, x.2) else none := nr rfl
@[simp] theorem ev_vals0 : vals [] = some [] := nr rfl
@[simp] theorem ev_valsC {d : D} {rs : List R} : vals (.val d :: rs) = (vals rs).bind fun ds => some (d :: ds) := nr rfl
@[simp] theorem ev_pTup {rs : List R} : pTup rs m = (vals rs).bind fun ds => if ds.length ≤ sizeLine then some (.val (.tuple ds), m) else none := nr rfl
@[simp] theorem ev_isA {t : Ty} : eIsA t f env m = (f env m).bind fun x => match x.1 with
  | .val d => some (.val (.bool (isA t (.val d))), x.2)
  | .ref k => (x.2[k]?).bind fun o => match o with
    | .lst _ => some (.val (.bool (isA t (.ref k))), x.2) := by
  unfold eIsA
  congr 1
  funext x
  obtain ⟨r, m'⟩ := x
  cases r <;> rfl

/-! loops and comprehensions -/
def runI (o : Option ((Src × Nat) × M)) (gf : GF) (sf : SF) (env : Sl) : Option Fl := o.bind fun x => loop x.1.1 gf sf x.1.2 0 env x.2
@[simp] theorem ev_for {it : IF} : sFor it gf sf env m = runI (it env m) gf sf env := nr rfl
@[simp] theorem run_iL {ds : List D} : runI (iL ds m) gf sf env = loopL gf sf ds env m := loop_srcL ds ds 0 env m rfl
def runC (o : Option ((Src × Nat) × M)) (p : Pat) (vs : List Nat) (tt : TF) (te : EF) (env : Sl) : Option (List D × M) := o.bind fun x => if x.1.2 ≤ sizeLine then clp x.1.1 p tt te (wipeE env vs) x.1.2 0 x.2 else none
@[simp] theorem ev_comp {it : IF} {p : Pat} {vs : List Nat} {tt : TF} {te : EF} : nComp it p vs tt te env m = runC (it env m) p vs tt te env := nr rfl
@[simp] theorem sz : sizeLine = 16777216 := sizeLine_eq
theorem runC_iL {p : Pat} {vs : List Nat} {tt : TF} {te : EF} {ds : List D} (h : ds.length ≤ 16777216) : runC (iL ds m) p vs tt te env = clpL p tt te (wipeE env vs) ds m := by
  have := nComp_L (it := fun _ m => iL ds m) (p := p) (vs := vs) (tt := tt) (te := te) (env := env) (m := m) (m' := m) (ds := ds) rfl (by rw [sz]; exact h)
  exact this
@[simp] theorem run_none {gf : GF} {sf : SF} {env : Sl} : runI none gf sf env = none := nr rfl
def rg1 (rs : List R) (m : M) : Option ((Src × Nat) × M) := match rs with
  | [.val (.int j)] => if -(2 ^ 62) ≤ j ∧ j < 2 ^ 62 then iL (rngD 0 j.toNat) m else none
  | _ => none
def rg2 (rs : List R) (m : M) : Option ((Src × Nat) × M) := match rs with
  | [.val (.int i), .val (.int j)] => if -(2 ^ 62) ≤ i ∧ i < 2 ^ 62 ∧ -(2 ^ 62) ≤ j ∧ j < 2 ^ 62 then iL (rngD i (j - i).toNat) m else none
  | _ => none
@[simp] theorem it_rg1 {fa : AF} : itRng1 fa env m = (fa env m).bind fun x => rg1 x.1 x.2 := nr rfl
@[simp] theorem it_rg2 {fa : AF} : itRng2 fa env m = (fa env m).bind fun x => rg2 x.1 x.2 := nr rfl
theorem rngD_nat (a n : Nat) : rngD (a : Int) n = (List.range' a n).map fun j : Nat => PyData.int j := by
  unfold rngD
  rw [List.range'_eq_map_range, List.map_map]
  apply List.map_congr_left
  intro j _
  simp
theorem rg1_nat {n : Nat} (h : n ≤ 1000000000) : rg1 [.val (.int n)] m = iL ((List.range n).map fun j : Nat => PyData.int j) m := by
  have h2 : -(2 ^ 62) ≤ (n : Int) ∧ (n : Int) < 2 ^ 62 := by omega
  simp only [rg1]
  rw [if_pos h2, Int.toNat_natCast, List.range_eq_range']
  exact congrArg (fun l => iL l m) (rngD_nat 0 n)
theorem rg2_nat {a b : Nat} {i j : Int} (hi : i = a) (hj : j = b) (ha : a ≤ 1000000000) (h : b ≤ 1000000000) : rg2 [.val (.int i), .val (.int j)] m = iL ((List.range' a (b - a)).map fun j : Nat => PyData.int j) m := by
  subst hi hj
  have h2 : -(2 ^ 62) ≤ (a : Int) ∧ (a : Int) < 2 ^ 62 ∧ -(2 ^ 62) ≤ (b : Int) ∧ (b : Int) < 2 ^ 62 := by omega
  simp only [rg2]
  rw [if_pos h2, show ((b : Int) - a).toNat = b - a by omega, rngD_nat]
@[simp] theorem leave_v {b : Nat} {d : D} : leave b (.val d) m = some (.val d, m.take b) := nr rfl
theorem step_nx {sf : SF} {gf : GF} {d : D} {ds : List D} {env1 env2 : Sl} {m1 m2 : M} (hg : gf (.val d) env m = some (env1, m1)) (hb : sf env1 m1 = some (.nx env2 m2)) : loopL gf sf (d :: ds) env m = loopL gf sf ds env2 m2 := by
  show ((gf (.val d) env m).bind fun x => (sf x.1 x.2).bind fun fl => aftF fl (loopL gf sf ds)) = _
  rw [hg]
  simp only [Option.bind_some]
  rw [hb]
  rfl
theorem step_rt {sf : SF} {gf : GF} {d : D} {ds : List D} {env1 : Sl} {m1 m2 : M} {r : R} (hg : gf (.val d) env m = some (env1, m1)) (hb : sf env1 m1 = some (.rt r m2)) : loopL gf sf (d :: ds) env m = some (.rt r m2) := by
  show ((gf (.val d) env m).bind fun x => (sf x.1 x.2).bind fun fl => aftF fl (loopL gf sf ds)) = _
  rw [hg]
  simp only [Option.bind_some]
  rw [hb]
  rfl
@[simp] theorem loop_nil {sf : SF} {gf : GF} : loopL gf sf [] env m = some (.nx env m) := nr rfl
def en1 (rs : List R) (m : M) : Option ((Src × Nat) × M) := match rs with
  | [.val (.tuple ds)] => iL (enumD ds) m
  | [.val (.list ds)] => iL (enumD ds) m
  | [.ref k] => match m[k]? with
    | some (.lst ds) => some ((srcE k, ds.length), m)
    | _ => none
  | _ => none
@[simp] theorem it_en {fa : AF} : itEnum fa env m = (fa env m).bind fun x => en1 x.1 x.2 := nr rfl
@[simp] theorem en1_t {ds : List D} : en1 [.val (.tuple ds)] m = iL (enumD ds) m := nr rfl
@[simp] theorem en1_l {ds : List D} : en1 [.val (.list ds)] m = iL (enumD ds) m := nr rfl
def an1 (r : R) (m : M) : Option ((Src × Nat) × M) := match r with
  | .val (.tuple ds) => iL ds m
  | .val (.list ds) => iL ds m
  | .ref k => match m[k]? with
    | some (.lst ds) => some ((srcR k, ds.length), m)
    | _ => none
  | _ => none
@[simp] theorem it_an {f : EF} : itAny f env m = (f env m).bind fun x => an1 x.1 x.2 := nr rfl
@[simp] theorem an1_t {ds : List D} : an1 (.val (.tuple ds)) m = iL ds m := nr rfl
@[simp] theorem an1_l {ds : List D} : an1 (.val (.list ds)) m = iL ds m := nr rfl
def rev1 (r : R) (m : M) : Option (R × M) := match r with
  | .val (.tuple ds) => some (.val (.tuple ds.reverse), m)
  | r => (asL r m).bind fun ds => some (.val (.list ds.reverse), m)
@[simp] theorem ev_rev : eRev f env m = (f env m).bind fun x => rev1 x.1 x.2 := nr rfl
@[simp] theorem rev1_t {ds : List D} : rev1 (.val (.tuple ds)) m = some (.val (.tuple ds.reverse), m) := nr rfl
@[simp] theorem rev1_l {ds : List D} : rev1 (.val (.list ds)) m = some (.val (.list ds.reverse), m) := nr rfl
end
end Ev

set_option Elab.async false
set_option linter.all false
set_option maxRecDepth 100000
/-! Operators on known values, by simp; comprehensions and loops by invariants. -/
namespace Ev
open PySem PySem.Spec PyProof.Rows L2
section
variable {m : M} {i j : Int} {a b : Bool} {ds es : List D} {d e : D} {k : Nat}
@[simp] theorem pp_ii : pPlus (.val (.int i)) (.val (.int j)) m = some (.val (.int (i + j)), m) := nr rfl
theorem pp_tt (h : ds.length + es.length ≤ 16777216) : pPlus (.val (.tuple ds)) (.val (.tuple es)) m = some (.val (.tuple (ds ++ es)), m) := by
  show (match (match pAddI (.val (.tuple ds)) (.val (.tuple es)) m with
    | some x => some x
    | none => pCatT (.val (.tuple ds)) (.val (.tuple es)) m) with
    | some x => some x
    | none => pCatLf (.val (.tuple ds)) (.val (.tuple es)) m) = _
  have e1 : pAddI (.val (.tuple ds)) (.val (.tuple es)) m = none := rfl
  have e2 : pCatT (.val (.tuple ds)) (.val (.tuple es)) m = some (.val (.tuple (ds ++ es)), m) := by
    show (if ds.length + es.length ≤ sizeLine then some (R.val (.tuple (ds ++ es)), m) else none) = _
    rw [sz, if_pos h]
  rw [e1]
  simp only [e2]
theorem pp_ll (h : ds.length + es.length ≤ 16777216) : pPlus (.val (.list ds)) (.val (.list es)) m = some (.val (.list (ds ++ es)), m) := by
  show (match (match pAddI (.val (.list ds)) (.val (.list es)) m with
    | some x => some x
    | none => pCatT (.val (.list ds)) (.val (.list es)) m) with
    | some x => some x
    | none => pCatLf (.val (.list ds)) (.val (.list es)) m) = _
  have e1 : pAddI (.val (.list ds)) (.val (.list es)) m = none := rfl
  have e2 : pCatT (.val (.list ds)) (.val (.list es)) m = none := rfl
  rw [e1]
  simp only [e2]
  show (if ds.length + es.length ≤ sizeLine then some (R.val (.list (ds ++ es)), m) else none) = _
  rw [sz, if_pos h]
@[simp] theorem pa_ii : pAddI (.val (.int i)) (.val (.int j)) m = some (.val (.int (i + j)), m) := nr rfl
@[simp] theorem ps_ii : pSub (.val (.int i)) (.val (.int j)) m = some (.val (.int (i - j)), m) := nr rfl
theorem log2_lt_of {n k : Nat} (h : n < 2 ^ (k + 1)) : n.log2 ≤ k := by
  by_cases z : n = 0
  · rw [z]; exact Nat.zero_le _
  · exact Nat.le_of_lt_succ ((Nat.log2_lt z).mpr h)
theorem pm_ii (hi : i.natAbs < 18446744073709551616) (hj : j.natAbs < 18446744073709551616) : pMul (.val (.int i)) (.val (.int j)) m = some (.val (.int (i * j)), m) := by
  have h : mulOk i j = true := by
    have h1 := log2_lt_of (k := 63) (n := i.natAbs) hi
    have h2 := log2_lt_of (k := 63) (n := j.natAbs) hj
    exact decide_eq_true (by omega)
  show (if mulOk i j = true then some (R.val (.int (i * j)), m) else none) = _
  rw [if_pos h]
theorem pdv_ii (h : 0 < j) (hj : j < 18446744073709551616) : pDiv (.val (.int i)) (.val (.int j)) m = some (.val (.int (i / j)), m) := by
  have h : divOk i j = true := by
    have h2 := log2_lt_of (k := 63) (n := j.natAbs) (by omega)
    exact decide_eq_true ⟨h, by omega⟩
  show (if divOk i j = true then some (R.val (.int (i / j)), m) else none) = _
  rw [if_pos h]
theorem pmd_ii (h : 0 < j) : pMod (.val (.int i)) (.val (.int j)) m = some (.val (.int (i % j)), m) := by
  have h : modOk i j = true := decide_eq_true h
  show (if modOk i j = true then some (R.val (.int (i % j)), m) else none) = _
  rw [if_pos h]
@[simp] theorem plt_ii : pLt (.val (.int i)) (.val (.int j)) m = some (.val (.bool (decide (i < j))), m) := nr rfl
@[simp] theorem ple_ii : pLe (.val (.int i)) (.val (.int j)) m = some (.val (.bool (decide (i ≤ j))), m) := nr rfl
@[simp] theorem pgt_ii : pGt (.val (.int i)) (.val (.int j)) m = some (.val (.bool (decide (j < i))), m) := nr rfl
@[simp] theorem pge_ii : pGe (.val (.int i)) (.val (.int j)) m = some (.val (.bool (decide (j ≤ i))), m) := nr rfl
@[simp] theorem peq_ii : pEq (.val (.int i)) (.val (.int j)) m = some (.val (.bool (decide (i = j))), m) := by
  have : PyData.eqv (.int i) (.int j) = decide (i = j) := by show (i == j) = _; rfl
  show some (R.val (.bool (PyData.eqv (.int i) (.int j))), m) = _
  rw [this]
@[simp] theorem pne_ii : pNe (.val (.int i)) (.val (.int j)) m = some (.val (.bool (decide (i ≠ j))), m) := by
  have : PyData.eqv (.int i) (.int j) = decide (i = j) := by show (i == j) = _; rfl
  show some (R.val (.bool (!PyData.eqv (.int i) (.int j))), m) = _
  rw [this]
  by_cases h : i = j <;> simp [h]
@[simp] theorem peq_bb : pEq (.val (.bool a)) (.val (.bool b)) m = some (.val (.bool (a == b)), m) := nr rfl
@[simp] theorem pne_bb : pNe (.val (.bool a)) (.val (.bool b)) m = some (.val (.bool (a != b)), m) := nr rfl
@[simp] theorem pis_n : pIsN (.val .none) (.val .none) m = some (.val (.bool true), m) := nr rfl
@[simp] theorem pis_i : pIsN (.val (.int i)) (.val .none) m = some (.val (.bool false), m) := nr rfl
@[simp] theorem pis_t : pIsN (.val (.tuple ds)) (.val .none) m = some (.val (.bool false), m) := nr rfl
@[simp] theorem pisnt_n : pIsnt (.val .none) (.val .none) m = some (.val (.bool false), m) := nr rfl
@[simp] theorem pisnt_i : pIsnt (.val (.int i)) (.val .none) m = some (.val (.bool true), m) := nr rfl
@[simp] theorem pisnt_t : pIsnt (.val (.tuple ds)) (.val .none) m = some (.val (.bool true), m) := nr rfl
@[simp] theorem pneg_i : pNeg (.val (.int i)) m = some (.val (.int (-i)), m) := nr rfl
@[simp] theorem plen_t : pLen [.val (.tuple ds)] m = some (.val (.int ds.length), m) := nr rfl
@[simp] theorem plen_l : pLen [.val (.list ds)] m = some (.val (.int ds.length), m) := nr rfl
@[simp] theorem pabs_i : pAbs [.val (.int i)] m = some (.val (.int (if i < 0 then -i else i)), m) := nr rfl
@[simp] theorem pmin_ii : pMin [.val (.int i), .val (.int j)] m = some (.val (.int (if j < i then j else i)), m) := nr rfl
@[simp] theorem pmax_ii : pMax [.val (.int i), .val (.int j)] m = some (.val (.int (if j > i then j else i)), m) := nr rfl
@[simp] theorem pint_i : pInt [.val (.int i)] m = some (.val (.int i), m) := nr rfl
@[simp] theorem ptup_l : pTupleOf [.val (.list ds)] m = some (.val (.tuple ds), m) := nr rfl
@[simp] theorem ptup_t : pTupleOf [.val (.tuple ds)] m = some (.val (.tuple ds), m) := nr rfl
theorem ptup_r (h : m[k]? = some (.lst ds)) : pTupleOf [.ref k] m = some (.val (.tuple ds), m) := by
  show ((asL (.ref k) m).bind fun ds => some (R.val (.tuple ds), m)) = _
  simp [asL, h]
theorem plen_r (h : m[k]? = some (.lst ds)) : pLen [.ref k] m = some (.val (.int ds.length), m) := by
  show ((asLT (.ref k) m).bind fun ds => some (R.val (.int ds.length), m)) = _
  simp [asLT, asL, h]
@[simp] theorem pix_t : pIdx (.val (.tuple ds)) (.val (.int i)) m = (atI ds i).bind fun d => some (.val d, m) := nr rfl
@[simp] theorem pix_l : pIdx (.val (.list ds)) (.val (.int i)) m = (atI ds i).bind fun d => some (.val d, m) := nr rfl
theorem pix_r (h : m[k]? = some (.lst ds)) : pIdx (.ref k) (.val (.int i)) m = (atI ds i).bind fun d => some (.val d, m) := by
  show ((asLT (.ref k) m).bind fun ds => (atI ds i).bind fun d => some (R.val d, m)) = _
  simp [asLT, asL, h]
theorem pset_r (h : m[k]? = some (.lst ds)) : pSet (.ref k) (.val (.int i)) (.val d) m = (ixN ds.length i).bind fun j => some (m.set k (.lst (ds.set j d))) := by
  unfold pSet
  simp [h]
theorem papp_r (h : m[k]? = some (.lst ds)) (hl : ds.length < 16777216) : pAppend (.ref k) [.val d] m = some (.val .none, m.set k (.lst (ds ++ [d]))) := by
  simp [pAppend, h, hl]
theorem asL_r (h : m[k]? = some (.lst ds)) : asL (.ref k) m = some ds := by
  simp [asL, h]
@[simp] theorem asBs_map (bs : List Bool) : asBs (bs.map PyData.bool) = some bs := by
  induction bs with
  | nil => rfl
  | cons b bs ih => simp [asBs, ih]
@[simp] theorem asIs_map (ns : List Int) : asIs (ns.map PyData.int) = some ns := by
  induction ns with
  | nil => rfl
  | cons b bs ih => simp [asIs, ih]
theorem asBs_map' {α : Type} (l : List α) (f : α → Bool) : asBs (l.map fun x => PyData.bool (f x)) = some (l.map f) := by
  have := asBs_map (l.map f)
  rwa [List.map_map] at this
theorem asIs_map' {α : Type} (l : List α) (f : α → Int) : asIs (l.map fun x => PyData.int (f x)) = some (l.map f) := by
  have := asIs_map (l.map f)
  rwa [List.map_map] at this
theorem pany_l {α : Type} (l : List α) (f : α → Bool) : pAny [.val (.list (l.map fun x => PyData.bool (f x)))] m = some (.val (.bool (l.any f)), m) := by
  show ((asBs (l.map fun x => PyData.bool (f x))).bind fun ns => some (R.val (.bool (ns.any id)), m)) = _
  rw [asBs_map']
  simp [List.any_map]
theorem pall_l {α : Type} (l : List α) (f : α → Bool) : pAll [.val (.list (l.map fun x => PyData.bool (f x)))] m = some (.val (.bool (l.all f)), m) := by
  show ((asBs (l.map fun x => PyData.bool (f x))).bind fun ns => some (R.val (.bool (ns.all id)), m)) = _
  rw [asBs_map']
  simp [List.all_map]
theorem psum_t {α : Type} (l : List α) (f : α → Int) : pSum [.val (.tuple (l.map fun x => PyData.int (f x)))] m = some (.val (.int (l.map f).sum), m) := by
  show ((asIs (l.map fun x => PyData.int (f x))).bind fun ns => some (R.val (.int ns.sum), m)) = _
  rw [asIs_map']
  rfl
end
/-! places -/
section
variable {α : Type} {xs : List α}
theorem ixN_nat {n k : Nat} (h : k < n) : ixN n (k : Int) = some k := by
  unfold ixN
  rw [if_pos (by omega)]
  simp [h]
theorem at_nat {k : Nat} {x : α} (h : xs[k]? = some x) : atI xs (k : Int) = some x := by
  have hk : k < xs.length := (List.getElem?_eq_some_iff.mp h).1
  unfold atI
  rw [ixN_nat hk]
  exact h
theorem at_int {i : Int} {x : α} (h0 : 0 ≤ i) (h : xs[i.toNat]? = some x) : atI xs i = some x := by
  have e : i = (i.toNat : Int) := by omega
  rw [e]
  exact at_nat h
@[simp] theorem atI_0 {x : α} : atI (x :: xs) 0 = some x := at_nat (k := 0) rfl
@[simp] theorem atI_1 {x y : α} : atI (x :: y :: xs) 1 = some y := at_nat (k := 1) rfl
@[simp] theorem atI_2 {x y z : α} : atI (x :: y :: z :: xs) 2 = some z := at_nat (k := 2) rfl
end
/-! comprehensions -/
theorem asD0_val (d : D) : clp.asD0 (.val d) = some d := rfl
theorem clpL_map {α : Type} {p : Pat} {tt : TF} {te : EF} {env : Sl} {m : M} (enc : α → D) (t : α → Bool) (F : α → D) : ∀ (l : List α),
    (∀ a ∈ l, ∃ e, bindP p (enc a) env = some e ∧ tt e m = some (t a, m) ∧ (t a = true → te e m = some (.val (F a), m))) → clpL p tt te env (l.map enc) m = some ((l.filter t).map F, m)
  | [], _ => rfl
  | a :: l, h => by
    obtain ⟨e, h1, h2, h3⟩ := h a List.mem_cons_self
    have ih := clpL_map (p := p) (tt := tt) (te := te) (env := env) (m := m) enc t F l fun b hb => h b (List.mem_cons_of_mem _ hb)
    rw [List.map_cons]
    unfold clpL
    rw [h1]
    simp only [Option.bind_some]
    rw [h2]
    simp only [Option.bind_some]
    cases ht : t a with
    | false =>
      rw [if_neg Bool.false_ne_true, ih, List.filter_cons_of_neg (by rw [ht]; exact Bool.false_ne_true)]
    | true =>
      rw [if_pos rfl, h3 ht]
      simp only [Option.bind_some, asD0_val]
      rw [ih, List.filter_cons_of_pos ht]
      rfl
theorem clpL_all {α : Type} {p : Pat} {te : EF} {env : Sl} {m : M} (enc : α → D) (F : α → D) (l : List α)
    (h : ∀ a ∈ l, ∃ e, bindP p (enc a) env = some e ∧ te e m = some (.val (F a), m)) : clpL p tTrue te env (l.map enc) m = some (l.map F, m) := by
  have := clpL_map (p := p) (tt := tTrue) (te := te) (env := env) (m := m) enc (fun _ => true) F l fun a ha => by
    obtain ⟨e, h1, h2⟩ := h a ha
    exact ⟨e, h1, rfl, fun _ => h2⟩
  rw [this, List.filter_eq_self.mpr fun _ _ => rfl]
/-- with a store that moves on -/
theorem clpL_inv {p : Pat} {te : EF} {env : Sl} (I : M → Prop) (P : D → Prop) : ∀ (ds : List D) (m : M), I m →
    (∀ d ∈ ds, ∀ m, I m → ∃ e d' m', bindP p d env = some e ∧ te e m = some (.val d', m') ∧ P d' ∧ I m') → ∃ ds' m', clpL p tTrue te env ds m = some (ds', m') ∧ ds'.length = ds.length ∧ (∀ d ∈ ds', P d) ∧ I m'
  | [], m, hI, _ => ⟨[], m, rfl, rfl, (fun d hd => by cases hd), hI⟩
  | d :: ds, m, hI, h => by
    obtain ⟨e, d', m1, h1, h2, hP, hI1⟩ := h d List.mem_cons_self m hI
    obtain ⟨ds', m2, h3, hl, hPs, hI2⟩ := clpL_inv (p := p) (te := te) (env := env) I P ds m1 hI1 fun b hb => h b (List.mem_cons_of_mem _ hb)
    refine ⟨d' :: ds', m2, ?_, by rw [List.length_cons, List.length_cons, hl], fun x hx => ?_, hI2⟩
    · unfold clpL
      rw [h1]
      simp only [Option.bind_some]
      rw [show tTrue e m = some (true, m) from rfl]
      simp only [Option.bind_some, if_true]
      rw [h2]
      simp only [Option.bind_some, asD0_val]
      rw [h3]
      rfl
    · rcases List.mem_cons.mp hx with q | q
      · rw [q]; exact hP
      · exact hPs x q
end Ev

set_option Elab.async false
set_option linter.all false
set_option maxRecDepth 100000
/-! sorted(xs). -/
namespace Ev
open PySem PySem.Spec PyProof.Rows L2
/-- what sorted takes: all alike; all tuples that hold something, or none a tuple or None -/
def sortableB (ds : List D) : Bool := (ds.all fun x => ds.all fun y => PySem.W.alike x y) && ((ds.all fun x => match x with
  | .tuple (_ :: _) => true
  | _ => false) || ds.all fun x => match x with
  | .none => false
  | .tuple _ => false
  | _ => true)
theorem sortable_ok {ds : List D} (h : sortableB ds = true) : PySem.W.AllAlike ds ∧ PySem.W.Sortable ds := by
  unfold sortableB at h
  rw [Bool.and_eq_true, Bool.or_eq_true, List.all_eq_true, List.all_eq_true, List.all_eq_true] at h
  refine ⟨fun x hx y hy => List.all_eq_true.mp (h.1 x hx) y hy, ?_⟩
  rcases h.2 with q | q
  · refine .inl fun d hd => ?_
    have z := q d hd
    split at z
    · exact ⟨_, _, rfl⟩
    · cases z
  · refine .inr fun d hd => ⟨fun e => ?_, fun xs e => ?_⟩
    · have z := q d hd
      rw [e] at z
      cases z
    · have z := q d hd
      rw [e] at z
      cases z
def sortD (ds : List D) : List D := ds.mergeSort (PySem.W.dataLe false id)
def pSorted : PF := p1 fun r m => (asL r m).bind fun ds => if (sortableB ds && smallAll ds && decide (ds.length ≤ sizeLine)) = true then some (.val (.list (sortD ds)), m) else none
theorem each_of {K : PySem.W.Frag} {H : Hp} : ∀ {ds : List D} {xs : List V} {its : List Value}, DpAll K H xs ds → Vals xs its → PySem.W.EachIs (fun v d => ∃ x : V, RelV x v ∧ Dp K H x d) its ds
  | [], [], [], _, _ => .nil
  | _ :: _, _ :: _, _ :: _, .cons a t, .cons r u => .cons ⟨_, r, a⟩ (each_of t u)
theorem of_each {K : PySem.W.Frag} {H : Hp} : ∀ {ds : List D} {its : List Value}, PySem.W.EachIs (fun v d => ∃ x : V, RelV x v ∧ Dp K H x d) its ds → ∃ xs : List V, Vals xs its ∧ DpAll K H xs ds
  | [], [], _ => ⟨[], .nil, .nil⟩
  | _ :: _, _ :: _, .cons ⟨x, r, a⟩ t => by
    obtain ⟨xs, u, w⟩ := of_each t
    exact ⟨x :: xs, .cons r u, .cons a w⟩
theorem depth_all {ds : List D} {d : D} (h : d ∈ ds) : d.depth ≤ PyData.depthAll ds := by
  induction ds with
  | nil => cases h
  | cons e ds ih =>
    show d.depth ≤ max e.depth (PyData.depthAll ds)
    rcases List.mem_cons.mp h with q | q
    · rw [q]; omega
    · have := ih q
      omega
section
variable {X : Cx} {k : Nat}
theorem c_sorted (hr : Room k X.A) : CallR X (.builtin "sorted") (rsP ζ X.K pSorted) := c_one fun pins s σ H v us Q φ m a r m' I rx S ra hf kk => by
  obtain ⟨ds, h1, hf⟩ := bind_some_iff hf
  split at hf
  · rename_i hc
    cases hf
    rw [Bool.and_eq_true, Bool.and_eq_true] at hc
    obtain ⟨⟨c1, c2⟩, c3⟩ := hc
    obtain ⟨hal, hso⟩ := sortable_ok c1
    have hsm := of_decide_eq_true c2
    have hlen := of_decide_eq_true c3
    obtain ⟨p, xs, rfl, hs, hd⟩ := seqL_of S ra h1
    obtain ⟨u, rfl, ru⟩ := one_val rx
    cases ru
    obtain ⟨its, rv, hl, hz⟩ := I.list hs
    have hun := hr.un
    have e1 := each_of hd rv
    have er : PySem.W.EachIs (fun v b => ∃ as, Reads s.heap v (id b) as) its ds := e1.mono fun v d ⟨x, r, q⟩ => Dp.reads I _ _ _ (dp_mono off_same q) r
    refine PySem.W.sorted_data (enc := id) hl.isList e1 er (by rw [List.map_id]; exact hal) (by rw [List.map_id]; exact hso) hlen (fun b hb => ?_) fun out ho eo => ?_
    · have := depth_all hb
      show X.A.units + 2 + b.depth < cLine
      omega
    · obtain ⟨ys, rv2, hd2⟩ := of_each eo
      obtain ⟨e, he⟩ := sortedAll_at s.heap its (List.toArray out)
      have hp : H (s.heap.objs.size + 1) = none := I.hok.fresh (Nat.le_succ _)
      have hyl : ys.length = out.length := rv2.length
      have I2 : Inv X pins σ (upd H (s.heap.objs.size + 1) (.lst ys)) { s with heap := sortedAll s.heap its (List.toArray out), toks := s.toks } := I.laid (o := .lst ys) (fun b ob q => sortedAll_old q) (Nat.le_succ _) ⟨by rw [hyl, ho]; exact hlen, out, e, rv2, he⟩
      exact ⟨.ref _, _, I2, rfl, kk φ _ _ (gr_alloc hp) (S.alloc hp) (rr_newL S hp hd2)⟩
  · cases hf
end
theorem bt_sorted : bootBuiltins "sorted" = some (.builtin "sorted") := by decide +kernel
end Ev

set_option Elab.async false
set_option linter.all false
set_option maxRecDepth 100000
/-! three names at once; list.remove. -/
namespace Ev
open PySem PySem.Spec PyProof.Rows L2
def sPar3 (i j l : Nat) (f : AF) : SF := fun env m => (f env m).bind fun x => match x.1 with
  | [a, b, c] => some (.nx (((env.set i (some a)).set j (some b)).set l (some c)) x.2)
  | _ => none
section
variable {X : Cx} {fa : AF} {pos : Pos}
theorem s_par3 {i j l : Nat} {x y z : Str} {a b c : Expr} {px py pz pt : Pos} {kt k2 : Nat} {pt2 : Pos} (hc : X.calm = true) (hN : X.N.Nodup) (hi : X.N[i]? = some x) (hj : X.N[j]? = some y) (hl : X.N[l]? = some z) (hij : i ≠ j) (hil : i ≠ l) (hjl : j ≠ l)
    (hx : X.env.scope.names.lookup x = some .local) (hy : X.env.scope.names.lookup y = some .local) (hz : X.env.scope.names.lookup z = some .local) (ha : PA X [a, b, c] (tA ζ X.K fa))
    (hw : swappedStores [.Tuple [.Name x px, .Name y py, .Name z pz] kt pt] (.Tuple [a, b, c] k2 pt2) X.env = pure (some [x, y, z]))
    (hs : swapsWithSole [.Tuple [.Name x px, .Name y py, .Name z pz] kt pt] (.Tuple [a, b, c] k2 pt2) pos.line X.env = pure false := by rfl) :
    PS X (.Assign [.Tuple [.Name x px, .Name y py, .Name z pz] kt pt] (.Tuple [a, b, c] k2 pt2) pos) (tS ζ X.K (sPar3 i j l fa)) := ps_imp (ps_par3 hc hN hi hj hl hij hil hjl hx hy hz ha hw hs) fun W σ H q => by
  obtain ⟨φ, env, m, fl, S, E, hf, k⟩ := q
  obtain ⟨⟨rs, m1⟩, h1, hf⟩ := bind_some_iff hf
  simp only at hf
  split at hf
  · cases hf
    refine ⟨φ, env, m, _, m1, S, E, h1, fun φ1 H1 vs g1 S1 R1 => ?_⟩
    cases R1 with
    | cons a1 t1 =>
      cases t1 with
      | cons a2 t2 =>
        cases t2 with
        | cons a3 t3 =>
          cases t3
          exact ⟨_, _, _, rfl, k φ1 _ H1 g1 S1 ((((E.mono g1).set a1 i).set a2 j).set a3 l)⟩
  · cases hf
end
/-- the first place of x -/
def placeI (x : Int) : List Int → Option Nat
  | [] => none
  | y :: ys => if y = x then some 0 else (placeI x ys).bind fun j => some (j + 1)
theorem placeI_at {x : Int} : ∀ {ns : List Int} {j : Nat}, placeI x ns = some j → ns[j]? = some x ∧ ∀ i : Nat, i < j → ns[i]? ≠ some x
  | [], j, h => by cases h
  | y :: ys, j, h => by
    unfold placeI at h
    split at h
    · rename_i e
      cases h
      subst e
      exact ⟨rfl, fun i hi => absurd hi (Nat.not_lt_zero _)⟩
    · rename_i e
      obtain ⟨i, h1, h⟩ := bind_some_iff h
      cases h
      obtain ⟨a, b⟩ := placeI_at h1
      refine ⟨by simpa using a, fun q hq => ?_⟩
      cases q with
      | zero => simpa using e
      | succ q => simpa using b q (Nat.lt_of_succ_lt_succ hq)
def pRemove : MF := fun r rs m => match r, rs with
  | .ref k, [.val (.int x)] => (m[k]?).bind fun o => match o with
    | .lst ds => (asIs ds).bind fun ns => (placeI x ns).bind fun j => some (.val .none, m.set k (.lst ((ns.eraseIdx j).map PyData.int)))
  | _, _ => none
section
variable {X : Cx} {k : Nat}
theorem m_remove : MtR X "list.remove" (rmP ζ X.K pRemove) := by
  intro pins s σ H x xs v us Q I rx rxs h
  obtain ⟨φ, m, r0, rs, r, m', S, R0, RS, hf, kk⟩ := h
  unfold pRemove at hf
  split at hf
  · rename_i k y
    obtain ⟨ob, ho, hf⟩ := bind_some_iff hf
    cases ob with
    | lst ds =>
      obtain ⟨ns, h1, hf⟩ := bind_some_iff hf
      obtain ⟨j, h2, hf⟩ := bind_some_iff hf
      cases hf
      have e := asIs_eq h1
      subst e
      obtain ⟨a, rfl, ha⟩ := R0
      obtain ⟨zs, h3, h4⟩ := S.obj k _ a ho ha
      have ez := ints_of_dpAll h4
      subst ez
      obtain ⟨e1, e2⟩ := placeI_at h2
      have hin : a ∈ φ.s := List.mem_of_getElem? ha
      cases RS with
      | cons r1 t1 =>
        cases t1
        have e3 := rr_int r1
        subst e3
        exact mt_remove pins s σ H _ _ v us Q I rx rxs ⟨a, ns, y, j, rfl, rfl, h3, e1, e2, kk φ _ _ (gr_write hin (S.apart hin)) (S.write ha (dpAll_ints _)) Dp.non⟩
  · cases hf
end
end Ev

set_option Elab.async false
set_option linter.all false
set_option maxRecDepth 100000
/-! list(range(..)), tuple(range(..)). -/
namespace Ev
open PySem PySem.Spec PyProof.Rows L2
theorem rgV_dp {K : PySem.W.Frag} {H : Hp} (a b : Int) : DpAll K H (rgV a b) (rngD a (b - a).toNat) := by
  unfold rgV rngD
  have : ∀ l : List Nat, DpAll K H (l.map fun i => V.int (a + (i : Nat))) (l.map fun j : Nat => PyData.int (a + (j : Int))) := by
    intro l
    induction l with
    | nil => exact .nil
    | cons x l ih => exact .cons (.int _) ih
  exact this _
def rgOkB (a b : Int) : Bool := decide (-(2 ^ 62) ≤ a ∧ a < 2 ^ 62 ∧ -(2 ^ 62) ≤ b ∧ b < 2 ^ 62 ∧ (b - a).toNat ≤ 2 ^ 24)
theorem rgOk_of {a b : Int} (h : rgOkB a b = true) : RgOk a b := of_decide_eq_true (p := -(2 ^ 62) ≤ a ∧ a < 2 ^ 62 ∧ -(2 ^ 62) ≤ b ∧ b < 2 ^ 62 ∧ (b - a).toNat ≤ 2 ^ 24) h
/-- range(b), range(a, b) as data -/
def nRg1 (f : EF) : NF := fun env m => (f env m).bind fun x => (asI x.1).bind fun b => if rgOkB 0 b = true then some (rngD 0 (b - 0).toNat, x.2) else none
def nRg2 (f g : EF) : NF := fun env m => (f env m).bind fun x => (g env x.2).bind fun y => (asI x.1).bind fun a => (asI y.1).bind fun b => if rgOkB a b = true then some (rngD a (b - a).toNat, y.2) else none
def eTupN (f : NF) : EF := fun env m => (f env m).bind fun x => some (.val (.tuple x.1), x.2)
section
variable {X : Cx} {a b : Expr} {f g : EF} {p p2 pos pos2 : Pos}
theorem n_listRg1 (hc : X.calm = true) (hg : Gl X "list") (hm : X.mg "list" = none) (hg2 : Gl X "range") (hm2 : X.mg "range" = none) (ha : PE X a (tE ζ X.K f)) (na : starEach [a] X.env = (false, eval a X.env) :: starEach [] X.env := by rfl)
    (nc : starEach [.Call (.Name "range" p2) [a] [] pos2] X.env = (false, eval (.Call (.Name "range" p2) [a] [] pos2) X.env) :: starEach [] X.env := by rfl) : PE X (.Call (.Name "list" p) [.Call (.Name "range" p2) [a] [] pos2] [] pos) (tN ζ X.K (nRg1 f)) :=
  pe_imp (pe_listRg hc hg hm (prg_1 hg2 hm2 ha na) nc) fun σ H Q q => by
  obtain ⟨φ, env, m, ds, m', S, E, hf, k⟩ := q
  obtain ⟨⟨r, m1⟩, h1, hf⟩ := bind_some_iff hf
  obtain ⟨i, h2, hf⟩ := bind_some_iff hf
  split at hf
  · rename_i hr
    cases hf
    refine ⟨φ, env, m, r, m1, S, E, h1, fun φ1 H1 v g1 S1 R1 => ?_⟩
    have e := asI_some h2
    simp only at e
    subst e
    have e2 := rr_int R1
    subst e2
    exact ⟨i, rfl, rgOk_of hr, fun q hq => k φ1 H1 q _ g1 S1 hq (rgV_dp 0 i)⟩
  · cases hf
theorem n_listRg2 (hc : X.calm = true) (hg : Gl X "list") (hm : X.mg "list" = none) (hg2 : Gl X "range") (hm2 : X.mg "range" = none) (ha : PE X a (tE ζ X.K f)) (hb : PE X b (tE ζ X.K g))
    (na : starEach [a, b] X.env = (false, eval a X.env) :: starEach [b] X.env := by rfl) (nb : starEach [b] X.env = (false, eval b X.env) :: starEach [] X.env := by rfl) (nh : (backTo pos2 (starEach [b] X.env)).any (·.1) = false := by rfl)
    (nc : starEach [.Call (.Name "range" p2) [a, b] [] pos2] X.env = (false, eval (.Call (.Name "range" p2) [a, b] [] pos2) X.env) :: starEach [] X.env := by rfl) : PE X (.Call (.Name "list" p) [.Call (.Name "range" p2) [a, b] [] pos2] [] pos) (tN ζ X.K (nRg2 f g)) :=
  pe_imp (pe_listRg hc hg hm (prg_2 hg2 hm2 ha hb na nb nh) nc) fun σ H Q q => by
  obtain ⟨φ, env, m, ds, m', S, E, hf, k⟩ := q
  obtain ⟨⟨r, m1⟩, h1, hf⟩ := bind_some_iff hf
  obtain ⟨⟨r2, m2⟩, h2, hf⟩ := bind_some_iff hf
  obtain ⟨i, h3, hf⟩ := bind_some_iff hf
  obtain ⟨j, h4, hf⟩ := bind_some_iff hf
  split at hf
  · rename_i hr
    cases hf
    refine ⟨φ, env, m, r, m1, S, E, h1, fun φ1 H1 v g1 S1 R1 => ?_⟩
    refine ⟨φ1, env, m1, r2, m2, S1, E.mono g1, h2, fun φ2 H2 v2 g2 S2 R2 => ?_⟩
    have e3 := asI_some h3
    have e4 := asI_some h4
    simp only at e3 e4
    subst e3 e4
    have e5 := rr_int R1
    have e6 := rr_int R2
    subst e5 e6
    exact ⟨i, j, rfl, rfl, rgOk_of hr, fun q hq => k φ2 H2 q _ (g1.trans g2) S2 hq (rgV_dp i j)⟩
  · cases hf
end
end Ev

set_option Elab.async false
set_option linter.all false
set_option maxRecDepth 100000
set_option maxHeartbeats 1000000
/-! A lambda of one parameter: its context. -/
namespace Ev
open PySem PySem.Spec PyProof.Rows L2 LamX
/-- slots that the lambda's own name hides are masked -/
def mskL {α : Type} : List Bool → List (Option α) → List (Option α)
  | true :: bs, _ :: l => none :: mskL bs l
  | false :: bs, x :: l => x :: mskL bs l
  | [], l => l
  | _, [] => []
theorem mskL_len {α : Type} : ∀ (bs : List Bool) (l : List (Option α)), (mskL bs l).length = l.length
  | true :: bs, _ :: l => by simp [mskL, mskL_len bs l]
  | false :: bs, _ :: l => by simp [mskL, mskL_len bs l]
  | [], l => by cases l <;> rfl
  | true :: _, [] => rfl
  | false :: _, [] => rfl
theorem mskL_get {α : Type} : ∀ {bs : List Bool} {l : List (Option α)} {i : Nat} {x : α}, (mskL bs l)[i]? = some (some x) → l[i]? = some (some x) ∧ bs[i]? ≠ some true
  | true :: bs, _ :: l, 0, x, h => by simp [mskL] at h
  | true :: bs, _ :: l, i + 1, x, h => by
    have := mskL_get (bs := bs) (l := l) (i := i) (by simpa [mskL] using h)
    simpa using this
  | false :: bs, y :: l, 0, x, h => by
    simp only [mskL, List.getElem?_cons_zero] at h ⊢
    exact ⟨h, by simp⟩
  | false :: bs, _ :: l, i + 1, x, h => by
    have := mskL_get (bs := bs) (l := l) (i := i) (by simpa [mskL] using h)
    simpa using this
  | [], l, i, x, h => by
    have e : mskL [] l = l := by cases l <;> rfl
    rw [e] at h
    exact ⟨h, by simp⟩
  | true :: _, [], i, x, h => by simp [mskL] at h
  | false :: _, [], i, x, h => by simp [mskL] at h
/-- one parameter p, no name of its own else: captured ones and globals -/
structure LamP (sc scope : Scope) (p : Str) : Prop where
  kind : scope.kind = .function
  co : scope.isCoroutine = false
  gen : scope.isGenerator = false
  par : scope.names.lookup p = some .local
  nocell : ∀ y ∈ scope.names, y.2 ≠ .cell
  own : ∀ y ∈ scope.names, y.2 = .local → y.1 = p
  free : ∀ y ∈ scope.names, y.2 = .free → sc.names.lookup y.1 = some .cell ∨ sc.names.lookup y.1 = some .free
def lamPB (sc scope : Scope) (p : Str) : Bool :=
  decide (scope.kind = .function) && !scope.isCoroutine && !scope.isGenerator && decide (scope.names.lookup p = some .local) && scope.names.all fun y => !decide (y.2 = .cell) && (!decide (y.2 = .local) || decide (y.1 = p)) && (!decide (y.2 = .free) || decide (sc.names.lookup y.1 = some .cell) || decide (sc.names.lookup y.1 = some .free))
theorem lamP_by {sc scope : Scope} {p : Str} (h : lamPB sc scope p = true) : LamP sc scope p := by
  unfold lamPB at h
  simp only [Bool.and_eq_true, Bool.or_eq_true, Bool.not_eq_true', decide_eq_true_eq, decide_eq_false_iff_not, List.all_eq_true] at h
  obtain ⟨⟨⟨⟨h1, h2⟩, h3⟩, h5⟩, h4⟩ := h
  refine ⟨h1, h2, h3, h5, fun y hy => (h4 y hy).1.1, fun y hy e => ?_, fun y hy e => ?_⟩
  · rcases (h4 y hy).1.2 with z | z
    · exact absurd e z
    · exact z
  · rcases (h4 y hy).2 with (z | z) | z
    · exact absurd e z
    · exact .inl z
    · exact .inr z
theorem LamP.has {X : Cx} {scope : Scope} {p : Str} (L : LamP X.env.scope scope p) (ok : X.Ok) : ∀ y ∈ scope.names, y.2 = .free → ∃ c, X.env.cells.lookup y.1 = some c := fun y hy e => by
  rcases L.free y hy e with k | k
  · exact ok.has _ (.inl k)
  · exact ok.has _ (.inr k)
/-- nothing is wanted of an exception: there is none -/
def noX : XK := fun _ _ _ => False
/-- the context of the lambda's body -/
def lamCxP (X : Cx) (A : Around) (outer : List Env) (s : Shared) (H : Hp) (scope : Scope) (p : Str) (f c' : Addr) : Cx := { LamX.lamCx X A outer s H noX scope f c' with N := p :: X.N }
section
variable {X : Cx} {pins : List (Addr × Obj)} {σ : L2.St} {H : Hp} {s : Shared}
theorem lam_startP {A : Around} {scope : Scope} {p : Str} {f c' : Addr} {h₁ : Heap} {tk : Nat} {bs : List Bool} {v : V} {u : Value} (I : Inv X pins σ H s) (L : LamP X.env.scope scope p) (e0 : Env0 X.prog X.w X.K X.mg X.base A X.stack s H) (hd : A.handled = none)
    (hm : ∀ i : Nat, X.N[i]? = some p → bs[i]? = some true) (r : RelV v u)
    (hns : h₁.Ns s.heap.objs.size fun y => ([(p, u)] : List (Str × Value)).reverse.lookup y) (kp : ∀ b o, s.heap.get? b = some o → h₁.get? b = some o) :
    Inv (lamCxP X A X.stack s H scope p f c') [] (some v :: mskL bs σ) H { s with heap := h₁, toks := tk } := by
  have hfree := L.has I.ok
  have cm : ∀ {y c}, (cloFrom X.env.cells scope.names []).lookup y = some c → X.env.cells.lookup y = some c := fun {y c} e => by
    rcases cloFrom_mem (PySem.mem_of_lookup e) with hm | ⟨h1, h2⟩
    · cases hm
    · obtain ⟨c1, hc⟩ := hfree _ h1 rfl
      have hc : X.env.cells.lookup y = some c1 := hc
      have e2 : c = c1 := by
        rw [h2, hc] <;> rfl
      rw [e2]
      exact hc
  have look : ∀ {y}, scope.names.lookup y = some .free → ∃ c, (cloFrom X.env.cells scope.names []).lookup y = some c := fun {y} hl => by
    have hy : (y, NameKind.free) ∈ scope.names := PySem.mem_of_lookup hl
    exact mem_lookup (cloFrom_has (cells := X.env.cells) (acc := []) hy)
  have cellK : ∀ {c : Addr} {v : Option Value}, s.heap.IsCell c v → h₁.IsCell c v := fun {c v} ⟨o, ho, hd⟩ => ⟨o, kp _ _ ho, hd⟩
  have noA : ∀ b : Addr, b ∉ (lamCxP X A X.stack s H scope p f c').ex := fun b z => absurd (show b ∈ ([] : List Addr) from z) (by simp)
  refine ⟨⟨e0.mod, L.kind, rfl, rfl, Nat.le_refl _, fun y z c e1 e2 => I.ok.inj y z c (cm e1) (cm e2), fun y hy => ?_, fun y c z _ => ?_, fun _ => hd, Around.frames_deeper e0.frames, .inr ⟨rfl, rfl⟩, fun b z => absurd z (noA b), e0.bs, e0.bsz, fun b _ _ => noA b,
      fun b z => absurd z (noA b), e0.funs, e0.frf⟩,
    rfl, e0.bare, Un.kept kp, ⟨_, hns, fun i y w e1 e2 e3 => ?_⟩, fun y c e => ?_, e0.hok.fresh (Nat.le_refl _), fun y c e => ?_, fun q hq => absurd (show q ∈ ([] : List (Addr × Obj)) ++ [] from hq) (by simp), e0.hok.kept kp, ?_⟩
  · have hy : scope.names.lookup y = some .cell ∨ scope.names.lookup y = some .free := hy
    rcases hy with hy | hy
    · exact absurd rfl (L.nocell _ (PySem.mem_of_lookup hy))
    · exact look hy
  · have z : false = true := z
    cases z
  · have e1 : (p :: X.N)[i]? = some y := e1
    have e3 : Vis scope y := e3
    cases i with
    | zero =>
      simp only [List.getElem?_cons_zero, Option.some.injEq] at e1 e2
      subst e1
      subst e2
      exact ⟨u, r, .inl ⟨L.par, by simp⟩⟩
    | succ i =>
      simp only [List.getElem?_cons_succ] at e1 e2
      obtain ⟨e2, hb⟩ := mskL_get e2
      have np : y ≠ p := fun z => hb (hm i (z ▸ e1))
      rcases e3 with k | k | k
      · exact absurd (L.own _ (PySem.mem_of_lookup k) rfl) np
      · exact absurd rfl (L.nocell _ (PySem.mem_of_lookup k))
      · obtain ⟨m, hn, hl⟩ := I.loc
        have hvis : Vis X.env.scope y := (L.free _ (PySem.mem_of_lookup k) rfl).elim (fun k => .inr (.inl k)) (fun k => .inr (.inr k))
        obtain ⟨w', r, q⟩ := hl i y w e1 e2 hvis
        obtain ⟨c2, h2⟩ := look k
        refine ⟨w', r, .inr ⟨.inr k, c2, h2, ?_⟩⟩
        have c1 := cm h2
        rcases q with ⟨k', _⟩ | ⟨_, c3, e', z⟩
        · have k' : X.env.scope.names.lookup y = some .local := k'
          rcases L.free _ (PySem.mem_of_lookup k) rfl with k2 | k2 <;> rw [show X.env.scope.names.lookup y = _ from k2] at k' <;> cases k'
        · rw [c1] at e'
          cases e'
          exact cellK z
  · obtain ⟨w', z⟩ := I.cell y c (cm e)
    exact ⟨w', cellK z⟩
  · exact I.freeC y c (cm e)
  · show (some v :: mskL bs σ).length = (p :: X.N).length
    rw [List.length_cons, List.length_cons, mskL_len, I.len]
/-- the lambda is called -/
theorem lam_callP {A : Around} {scope : Scope} {p : Str} {f c' : Addr} {params : Arguments} {body : Expr} {pm ctv : Value} {bs : List Bool} {v : V} {u : Value} {k : Nat} {Q : VK} {tb : TE} (I : Inv X pins σ H s) (L : LamP X.env.scope scope p) (e0 : Env0 X.prog X.w X.K X.mg X.base A X.stack s H)
    (hr : Room (k + 1) A) (hm : ∀ i : Nat, X.N[i]? = some p → bs[i]? = some true) (r : RelV v u)
    (hf : s.heap.get? f = some (PySem.W.kla_obj "<lambda>" (X.env.qual ++ "<lambda>") params body scope (cloFrom X.env.cells scope.names []) pm c' ctv)) (hco : H c' = some (CodeO c' (X.env.qual ++ "<lambda>")))
    (hbind : bindArgs (PySem.W.kla_fn "<lambda>" (X.env.qual ++ "<lambda>") params body scope (cloFrom X.env.cells scope.names []) pm (.ref c') ctv) ⟨[u], []⟩ = pure [(p, u)])
    (hbody : Room k (A.deeper (lamEnv X scope s.heap.objs.size f c')) → PE (lamCxP X A X.stack s H scope p f c') body tb) (ht : tb (some v :: mskL bs σ) H Q) :
    codeAny (model X.prog X.w) A (.call (.ref f) ⟨[u], []⟩) (CR (L2.CX X.prog X.w) X.stack X.prog X.w H s Q noX) s := by
  obtain ⟨⟨oc, vs, t, hoc, hdc, hvc⟩, _, _⟩ := I.hok c' _ hco
  refine PySem.W.kla_callFunE hr.depth hf rfl L.co L.gen rfl ⟨c', oc, vs, t, rfl, hoc, hdc, hvc⟩ ?_
  rw [hbind]
  refine wpAny_pure (wpAny_newFunctionEnv L.nocell (fun y hy => ?_) (fun h₁ hns hsb => ⟨I.nolimit.fresh _ hsb, ?_⟩) L.kind)
  · rw [List.mem_singleton.mp hy]
    exact L.par
  show codeAny _ _ (.expr body (lamEnv X scope s.heap.objs.size f c')) _ _
  have kp : ∀ b o, s.heap.get? b = some o → h₁.get? b = some o := fun b o e => hsb.extBut b o (Nat.ne_of_lt (Heap.lt_size e)) (Heap.get?_push_of_some _ e)
  have J : Inv (lamCxP X A X.stack s H scope p f c') [] (some v :: mskL bs σ) H { s with heap := h₁, toks := s.toks + ([(p, u)] : List (Str × Value)).length } := lam_startP I L e0 hr.hd hm r hns kp
  refine PySem.W.kla_codeExpr (wpAny_mono ((hbody (hr.deeper _)).run [] _ _ H Q J ht) (fun v s' hq => ?_) fun e s' hq => hq)
  obtain ⟨w', H', J', rv, q⟩ := hq
  exact ⟨w', H', J'.os, J'.bare, J'.base, J'.hok, rv, q⟩
theorem noX_cx {P : Program} {w : World} {outer : List Env} {H : Hp} {s s' : Shared} {u : Value} (h : L2.CX P w outer H s noX u s') : False := by
  obtain ⟨a, B, H', cls, d, _, _, _, _, _, _, _, q⟩ := h
  exact q
end
end Ev

set_option Elab.async false
set_option linter.all false
set_option maxRecDepth 100000
set_option maxHeartbeats 1000000
/-! sorted(xs, key=f): f may do what it likes with the store. -/
namespace PySem.W
open PySem PySem.Calls PyProof.Rows
section
variable {prog : Program} {w : World} {A : Around} {E : Value → Shared → Prop} {s : Shared} {a kS : Addr} {b : Bool} {vs : List Value} {e1 : Nat} {P : PySem.Fin → Shared → Prop}
theorem keyI_rest {f : Value} {J : Nat → Array Value → Shared → Prop} (h0 : J 0 #[] s) (nk : s.heap.get? kS = some (seqObj "list" #[] 0)) (na : s.heap.get? a = some (seqObj "list" #[] e1)) (hka : kS ≠ a) (hZ : vs.length ≤ sizeLine)
    (turn : ∀ (i : Nat) (v : Value) (keys : Array Value) (e : Nat) (s' : Shared), vs[i]? = some v → J i keys s' → s'.heap.get? kS = some (seqObj "list" keys e) → s'.heap.get? a = some (seqObj "list" #[] e1) →
      wpAny (model prog w) A (call f [v]) (fun k s'' => s''.heap.get? kS = some (seqObj "list" keys e) ∧ s''.heap.get? a = some (seqObj "list" #[] e1) ∧ ∀ h', Heap.SameBut kS s''.heap h' → (∃ o, h'.get? kS = some o) → J (i + 1) (keys.push k) { s'' with heap := h' }) (fun _ _ => False) s')
    (done : ∀ (keys : Array Value) (e : Nat) (s' : Shared), J vs.length keys s' → s'.heap.get? kS = some (seqObj "list" keys e) → s'.heap.get? a = some (seqObj "list" #[] e1) → keys.size = vs.length →
      ∃ kz : List PyData, EachIs (fun v k => ∃ as, Reads s'.heap v k as) keys.toList kz ∧ AllAlike kz ∧ Sortable kz ∧ (∀ d, d ∈ kz → A.units + d.depth < cLine) ∧
        ∀ h' tk out c, (∀ b o, b ≠ a → b ≠ kS → s'.heap.get? b = some o → h'.get? b = some o) → h'.get? a = some (seqObj "list" (List.toArray out) c) → KeyedOut b kz vs out → P (.done (.ret .none)) { s' with heap := h', toks := tk }) :
    wpAny (model prog w) A (ksk_rest a f b vs.toArray e1 (.ref kS)) P E s := by
  unfold ksk_rest
  refine wpAny_bind (wpAny_rule ?_)
  first
    | rw [List.forIn_toArray]
    | (rw [← Array.forIn_toList]; simp only [List.toList_toArray])
    | rw [← Array.forIn_toList]
  refine wpAny_bind (ksk_fold (fun i s' => ∃ kA e, J i kA s' ∧ kA.size = i ∧ s'.heap.get? kS = some (seqObj "list" kA e) ∧ s'.heap.get? a = some (seqObj "list" #[] e1)) vs 0 s
    ⟨#[], 0, h0, rfl, nk, na⟩ ?step ?done)
  case step =>
    rintro j x s' hx ⟨kA, e, hJ, hsz, nk', na'⟩
    simp only [Nat.zero_add] at hJ hsz ⊢
    have hj : j < vs.length := (List.getElem?_eq_some_iff.mp hx).1
    have hz : kA.size ≤ vs.length := by omega
    refine wpAny_bind (wpAny_attempt (wpAny_mono (turn j x kA e s' hx hJ nk' na') (fun v s'' he => ?_) fun _ _ hF => hF.elim))
    obtain ⟨nk2, na2, hn⟩ := he
    try dsimp only
    have s1 := Heap.SameBut.update s''.heap kS (Obj.mapSeq (·.push v))
    obtain ⟨c2, hc2⟩ : ∃ c2, (s''.heap.update kS (Obj.mapSeq (·.push v))).get? kS = some (seqObj "list" (kA.push v) c2) := ⟨_, get?_update_seq nk2 (·.push v)⟩
    refine wpAny_bind (listUpdate_at nk2 rfl ?_ (Nat.le_trans hz hZ) (Nat.le_trans (Nat.le_of_eq (Array.size_push ..)) (Nat.succ_le_succ (Nat.le_trans hz hZ))))
    refine wpAny_pure ⟨rfl, kA.push v, c2, hn _ s1 ⟨_, hc2⟩, ?_, hc2, (s1.2 a hka.symm).trans na2⟩
    rw [Array.size_push, hsz]
  case done =>
    rintro s' ⟨kA, e, hJ, hsz, nk', na'⟩
    rw [Nat.zero_add] at hJ hsz
    obtain ⟨kz, hk, hal, hsk, hu, fin⟩ := done kA e s' hJ nk' na' hsz
    try dsimp only
    refine wpAny_bind (listItems_at nk' rfl ?_)
    have hs : ∀ b, b ∈ ([kS] : List Addr) → b = kS := fun b hb => List.mem_singleton.mp hb
    have hg : ∀ b o, (hideAll s'.heap [kS]).get? b = some o → s'.heap.get? b = some o := fun b o q => of_hideAll [kS] q
    have kp : KeepsBut a (hideAll s'.heap [kS]) s'.heap := fun b o _ q => hg b o q
    have hkS : (hideAll s'.heap [kS]).get? kS = none := hideAll_none [kS] (by simp)
    have hd : EachIs (fun v k => ∃ as, Reads s'.heap v k as) kA.toList kz := hk
    refine keyH_end (κ := dataKind s'.heap kz) (h₁ := hideAll s'.heap [kS]) kp hkS nk' na' hka (SortsAt.data (s := s') hk hal hsk hu) hsz hZ fun h3 tk3 c k3 n3 => ?_
    exact fin h3 tk3 _ c (fun b o h1 h2 q => k3 b o h1 (hideAll_get _ q (by simpa using h2))) n3 ⟨s'.heap, kA.toList, hal, rfl, hk⟩
theorem keyI_tree {f : Value} {n : Nat} {J : Nat → Array Value → Shared → Prop} (ho : s.heap.get? a = some (seqObj "list" vs.toArray n)) (hZ : vs.length ≤ sizeLine)
    (h0 : ∀ h' e1, (∀ b o, b ≠ a → s.heap.get? b = some o → h'.get? b = some o) → h'.get? a = some (seqObj "list" #[] e1) → h'.get? (s.heap.objs.size + 1) = some (seqObj "list" #[] 0) → J 0 #[] { s with heap := h' })
    (turn : ∀ (i : Nat) (v : Value) (keys : Array Value) (e e1 : Nat) (s' : Shared), vs[i]? = some v → J i keys s' → s'.heap.get? (s.heap.objs.size + 1) = some (seqObj "list" keys e) → s'.heap.get? a = some (seqObj "list" #[] e1) →
      wpAny (model prog w) A (call f [v]) (fun k s'' => s''.heap.get? (s.heap.objs.size + 1) = some (seqObj "list" keys e) ∧ s''.heap.get? a = some (seqObj "list" #[] e1) ∧ ∀ h', Heap.SameBut (s.heap.objs.size + 1) s''.heap h' → (∃ o, h'.get? (s.heap.objs.size + 1) = some o) → J (i + 1) (keys.push k) { s'' with heap := h' }) (fun _ _ => False) s')
    (done : ∀ (keys : Array Value) (e : Nat) (s' : Shared), J vs.length keys s' → s'.heap.get? (s.heap.objs.size + 1) = some (seqObj "list" keys e) → keys.size = vs.length →
      ∃ kz : List PyData, EachIs (fun v k => ∃ as, Reads s'.heap v k as) keys.toList kz ∧ AllAlike kz ∧ Sortable kz ∧ (∀ d, d ∈ kz → A.units + d.depth < cLine) ∧
        ∀ h' tk out c, (∀ b o, b ≠ a → b ≠ s.heap.objs.size + 1 → s'.heap.get? b = some o → h'.get? b = some o) → h'.get? a = some (seqObj "list" (List.toArray out) c) → KeyedOut b kz vs out → P (.done (.ret .none)) { s' with heap := h', toks := tk }) :
    wpAny (model prog w) A (ksk_tree a f b) P E s := by
  have ha : a < s.heap.objs.size := Heap.lt_size ho
  obtain ⟨e1, ho1⟩ : ∃ e1, (s.heap.update a (Obj.mapSeq fun _ => (#[] : Array Value))).get? a = some (seqObj "list" #[] e1) := ⟨_, get?_update_seq ho fun _ => #[]⟩
  have hkS : ((s.heap.update a (Obj.mapSeq fun _ => (#[] : Array Value))).push (seqObj "tuple" vs.toArray 0)).objs.size = s.heap.objs.size + 1 := by rw [size_push', Heap.size_update]
  unfold ksk_tree
  refine wpAny_bind (listItems_at ho rfl ?_)
  refine wpAny_bind (listUpdate_at ho rfl ?_ (by rw [List.size_toArray]; exact hZ) (Nat.zero_le _))
  refine wpAny_bind (seqEpoch_at ho1 rfl ?_)
  refine wpAny_bind (wpAny_newTuple ?_ (by show vs.length ≤ _; exact hZ))
  refine wpAny_bind (wpAny_newList ?_ (Nat.zero_le _))
  refine wpAny_holding ?_
  have kp : ∀ b o, b ≠ a → s.heap.get? b = some o → (sortingHeap s.heap a vs).get? b = some o := fun b o hb q => sortingHeap_old hb q
  have hk2 : (((s.heap.update a (Obj.mapSeq fun _ => (#[] : Array Value))).push (seqObj "tuple" vs.toArray 0)).push (seqObj "list" #[] 0)).get? (s.heap.objs.size + 1) = some (seqObj "list" #[] 0) := by
    rw [← hkS]
    exact Heap.get?_push_size _ rfl
  have ha2 : (((s.heap.update a (Obj.mapSeq fun _ => (#[] : Array Value))).push (seqObj "tuple" vs.toArray 0)).push (seqObj "list" #[] 0)).get? a = some (seqObj "list" #[] e1) := Heap.get?_push_of_some _ (Heap.get?_push_of_some _ ho1)
  have J0 := h0 (((s.heap.update a (Obj.mapSeq fun _ => (#[] : Array Value))).push (seqObj "tuple" vs.toArray 0)).push (seqObj "list" #[] 0)) e1 kp ha2 hk2
  rw [hkS]
  exact keyI_rest (J := J) (s := { s with heap := ((s.heap.update a (Obj.mapSeq fun _ => (#[] : Array Value))).push (seqObj "tuple" vs.toArray 0)).push (seqObj "list" #[] 0) }) (kS := s.heap.objs.size + 1) J0 hk2 ha2
    (Nat.ne_of_gt (Nat.lt_succ_of_lt ha)) hZ (fun i v keys e s' h1 h2 h3 h4 => turn i v keys e e1 s' h1 h2 h3 h4) fun keys e s' h1 h2 _ h4 => done keys e s' h1 h2 h4
end
end PySem.W

set_option Elab.async false
set_option linter.all false
set_option maxRecDepth 100000
set_option maxHeartbeats 1000000
/-! sorted(.., key=lambda p: ..). -/
namespace PySem.W
open PySem PySem.Calls PyProof.Rows
section
variable {prog : Program} {w : World} {A : Around} {E : Value → Shared → Prop} {s : Shared}
/-- sorted(xs, ..): the items collected, a new list of them sorted -/
theorem sorted_of_collect {u : Value} {kw : List (Str × Value)} {Q : Value → Shared → Prop} (ha1 : argsOk "sorted" ⟨[u], kw⟩) (ha2 : ∀ x, argsOk "list.sort" ⟨[.ref x], kw⟩)
    (body : ∀ E' : Value → Shared → Prop, wpAny (model prog w) A.in1 (collect u) (fun vs s1 => vs.length ≤ sizeLine ∧
      ∀ h2 c, (∀ b o, s1.heap.get? b = some o → h2.get? b = some o) → h2.objs.size = s1.heap.objs.size + 1 → h2.get? s1.heap.objs.size = some (seqObj "list" vs.toArray c) →
        ∀ E2 : Value → Shared → Prop, wpAny (model prog w) A.in1.in1 (Builtin.«list.sort» ⟨[.ref s1.heap.objs.size], kw⟩) (fun f s' => f = .done (.ret .none) ∧ Q (.ref s1.heap.objs.size) s') E2 { s1 with heap := h2 }) E' s) :
    wpAny (model prog w) A (call (.builtin "sorted") [u] kw) Q E s := by
  refine call_function_entry_kw kind_sorted plain_sorted entry_sorted ha1 ?_
  unfold Builtin.«sorted»
  refine wpAny_bind (m := checkCount "sorted" 1 1 _) (wpAny_pure ?_)
  refine wpAny_bind (wpAny_mono (body _) (fun vs s1 hq => ?_) fun _ _ e => e)
  obtain ⟨hL, hb⟩ := hq
  refine wpAny_bind (wpAny_newList ?_ hL)
  have hat : (s1.heap.push (seqObj "list" vs.toArray 0)).get? s1.heap.objs.size = some (seqObj "list" vs.toArray 0) := Heap.get?_push_size _ rfl
  refine wpAny_bind (wpAny_holding (wpAny_call_entry_kw slot_list_sort ⟨_, hat, rfl⟩ entry_list_sort ?body (ha2 _)))
  case body =>
    refine wpAny_mono (hb (s1.heap.push (seqObj "list" vs.toArray 0)) 0 (fun b o q => Heap.get?_push_of_some _ q) (size_push' _ _) hat _) (fun f s' hf => ?_) fun _ _ e => e
    obtain ⟨rfl, hq⟩ := hf
    exact ⟨_, rfl, wpAny_pure ⟨_, rfl, hq⟩⟩
end
end PySem.W
namespace Ev
open PySem PySem.Spec PyProof.Rows L2 LamX
/-- a lambda at f that is there, with its body's reading -/
structure LamAt (ζ : Tbs) (X : Cx) (k : Nat) (bs : List Bool) (fb : EF) (p : Str) (f : Addr) (s : Shared) (H : Hp) : Prop where
  call : ∀ {pins : List (Addr × Obj)} {σ : L2.St} {H' : Hp} {s' : Shared} {φ : Ad} {env : Sl} {m m1 : M} {r r1 : R} {v : V} {u : Value} {A : Around}, Inv X pins σ H' s' → Env0 X.prog X.w X.K X.mg X.base A X.stack s' H' → Room (k + 1) A →
    (s.heap.get? f = s'.heap.get? f) → (∀ c q, H c = some (CodeO c q) → H' c = some (CodeO c q)) → RelV v u → SR ζ X.K φ H' m → ER X.K φ H' σ env → RR X.K φ H' v r → fb (some r :: mskL bs env) m = some (r1, m1) →
      wpAny (model X.prog X.w) A (PySem.call (.ref f) [u]) (fun k s'' => ∃ x φ2 H'', RelV x k ∧ Inv X pins σ H'' s'' ∧ Un (frs X.stack) [] H' H'' s'.heap s''.heap ∧ Gr φ H' φ2 H'' ∧ SR ζ X.K φ2 H'' m1 ∧ RR X.K φ2 H'' x r1) (fun _ _ => False) s'
  free : H f = none
  nofr : f ∉ frs X.stack
  here : ∃ o, s.heap.get? f = some o
theorem er_msk {K : PySem.W.Frag} {φ : Ad} {H : Hp} {σ : L2.St} {env : Sl} {v : V} {r : R} (E : ER K φ H σ env) (h : RR K φ H v r) (bs : List Bool) : ER K φ H (some v :: mskL bs σ) (some r :: mskL bs env) := by
  refine ⟨by rw [List.length_cons, List.length_cons, mskL_len, mskL_len, E.len], fun i q e => ?_⟩
  cases i with
  | zero =>
    simp only [List.getElem?_cons_zero, Option.some.injEq] at e
    subst e
    exact ⟨v, rfl, h⟩
  | succ i =>
    rw [List.getElem?_cons_succ] at e
    obtain ⟨e1, nb⟩ := mskL_get e
    obtain ⟨w, e2, e3⟩ := E.at_ i q e1
    refine ⟨w, ?_, e3⟩
    rw [List.getElem?_cons_succ]
    have : ∀ (bs : List Bool) (l : L2.St) (i : Nat) (w : V), l[i]? = some (some w) → bs[i]? ≠ some true → (mskL bs l)[i]? = some (some w) := by
      intro bs
      induction bs with
      | nil =>
        intro l i w e _
        have z : mskL [] l = l := by cases l <;> rfl
        rw [z]
        exact e
      | cons b bs ih =>
        intro l i w e nb
        cases l with
        | nil => simp at e
        | cons y l =>
          cases i with
          | zero =>
            simp only [List.getElem?_cons_zero] at e nb ⊢
            cases b with
            | true => exact absurd rfl nb
            | false => simpa [mskL] using e
          | succ i =>
            simp only [List.getElem?_cons_succ] at e nb
            have := ih l i w e nb
            cases b <;> simpa [mskL] using this
    exact this bs σ i w e2 nb
theorem code_stay {K : PySem.W.Frag} {φ φ' : Ad} {H H' : Hp} {m : M} (S : SR ζ K φ H m) (g : Gr φ H φ' H') {c : Addr} {q : Str} (h : H c = some (CodeO c q)) : H' c = some (CodeO c q) := by
  by_cases hc : c ∈ φ.h
  · exact g.stay c hc _ h codeO_ne
  · have hs : c ∉ φ.s := fun z => by
      obtain ⟨i, hi, e⟩ := List.mem_iff_getElem.mp z
      have hm : i < m.length := by rw [← S.len]; exact hi
      have o := S.obj i m[i] c (List.getElem?_eq_getElem hm) (by rw [List.getElem?_eq_getElem hi, e])
      cases hq : m[i] with
      | lst ds =>
        rw [hq] at o
        obtain ⟨xs, o, _⟩ := o
        rw [h] at o
        injection o with o
        exact codeO_lst o.symm
    have ho : off φ H c = some (CodeO c q) := off_some.mpr ⟨fun z => (Ad.mem.mp z).elim hs hc, h, rfl⟩
    exact (off_some.mp (g.same _ _ ho)).2.1
/-- the tables may have grown -/
theorem gr_extN {φ : Ad} {H H' : Hp} (e : ExtN H H') : Gr φ H φ H' := ⟨List.prefix_refl _, rfl, rfl, fun b o h => by
  rw [off_some] at h ⊢
  exact ⟨h.1, e b o h.2.1 (fun ps z => by rw [z] at h; exact absurd h.2.2 (by simp [isTb])), h.2.2⟩, fun b _ u h n => e b u h n⟩
theorem SR.extN {K : PySem.W.Frag} {φ : Ad} {H H' : Hp} {m : M} (S : SR ζ K φ H m) (e : ExtN H H') (hT : Tabs φ.t H') : SR ζ K φ H' m := by
  refine ⟨S.len, S.nd, fun i o a e1 e2 => ?_, fun a ha => ?_, S.teq, S.tin, hT⟩
  · have q := S.obj i o a e1 e2
    cases o with
    | lst ds =>
      obtain ⟨xs, h1, h2⟩ := q
      exact ⟨xs, e _ _ h1 (fun ps z => by cases z), dps_mono (gr_extN e).same h2⟩
  · rcases S.hid a ha with ⟨u, h, n⟩ | h
    · exact .inl ⟨u, e a u h (fun ps z => by rw [z] at n; cases n), n⟩
    · exact .inr h
end Ev

set_option Elab.async false
set_option linter.all false
set_option maxRecDepth 100000
set_option maxHeartbeats 1000000
/-! sorted(.., key=lambda p: ..): the rule. -/
namespace Ev
open PySem PySem.Spec PyProof.Rows L2 LamX
section
variable {X : Cx} {pins : List (Addr × Obj)} {σ : L2.St} {H : Hp} {s : Shared} {k : Nat} {bs : List Bool} {fb : EF} {p : Str} {f : Addr}
/-- what a lambda of one parameter asks of its maker -/
structure LamOk (ζ : Tbs) (X : Cx) (k : Nat) (bs : List Bool) (fb : EF) (p : Str) (params : Arguments) (body : Expr) (scope : Scope) (c P : Addr) : Prop where
  tb : TabB X.base X.mg c P
  code : X.env.code = .ref c
  mem : (P, X.env.qual ++ "<lambda>") ∈ ζ
  uniq : ∀ q ∈ ζ, q.1 = P → q.2 = X.env.qual ++ "<lambda>"
  scp : LamP X.env.scope scope p
  dflt : defaultsOf params X.env = ([], [])
  bind : ∀ (q : Str) (cl : List (Str × Addr)) (pm cv ctv : Value) (u : Value), bindArgs (PySem.W.kla_fn "<lambda>" q params body scope cl pm cv ctv) ⟨[u], []⟩ = pure [(p, u)]
  msk : ∀ i : Nat, X.N[i]? = some p → bs[i]? = some true
  body : ∀ (A : Around) (s : Shared) (H : Hp) (f c' : Addr), Room k (A.deeper (lamEnv X scope s.heap.objs.size f c')) → PE (lamCxP X A X.stack s H scope p f c') body (tE ζ X.K fb)
/-- a lambda made: it can be called -/
theorem lam_make {params : Arguments} {body : Expr} {scope : Scope} {pos : Pos} {c P : Addr} {φ : Ad} {m : M} {E : Value → Shared → Prop} {Q : Value → Shared → Prop} (L : LamOk ζ X k bs fb p params body scope c P) (I : Inv X pins σ H s) (S : SR ζ X.K φ H m)
    (h : ∀ f H1 s', Inv X pins σ H1 s' → Gr φ H φ H1 → SR ζ X.K φ H1 m → LamAt ζ X k bs fb p f s' H1 → Q (.ref f) s') : wpAny (model X.prog X.w) X.A (eval (.Lambda params body scope pos) X.env) Q E s := by
  refine lam_make2 (T := ζ) I L.tb L.code L.mem L.uniq (by rw [← S.teq]; exact S.tab) L.dflt (L.scp.has I.ok) fun f c' pm ctv H1 s' I1 eN T1 hf hfn hfr hco => ?_
  refine h f H1 s' I1 (gr_extN eN) (S.extN eN (by rw [S.teq]; exact T1)) ⟨?_, hfn, hfr, ⟨_, hf⟩⟩
  intro pins σ H' s2 φ env m m1 r r1 v u A I2 e0 hr hfe hcc rv S2 E2 R2 hfb
  have hf2 := hf
  rw [hfe] at hf2
  refine wpAny_call (codeAny_mono (lam_callP (Q := fun x H'' => ∃ φ2, Gr φ H' φ2 H'' ∧ SR ζ X.K φ2 H'' m1 ∧ RR X.K φ2 H'' x r1) I2 L.scp e0 hr L.msk rv hf2 (hcc _ _ hco) (L.bind _ _ _ _ _ _) (fun _ => L.body A s2 H' f c' ‹_›)
    ⟨φ, some r :: mskL bs env, m, r1, m1, S2, er_msk E2 R2 bs, hfb, fun φ2 H2 v2 g2 S3 R3 => ⟨φ2, g2, S3, R3⟩⟩) fun q s3 hq => ?_)
  cases q with
  | error e => exact (noX_cx hq).elim
  | ok fl =>
    cases fl with
    | ret u2 =>
      obtain ⟨x, H2, os, bare, un, hok, rx, φ2, g2, S3, R3⟩ := hq
      obtain ⟨hh, g, d, t, os'⟩ := s3
      obtain rfl : os' = s2.os := os
      exact ⟨x, φ2, H2, rx, I2.call (h' := hh) (g' := g) (d' := d) (t' := t) (ch := []) un hok bare (fun b z => absurd z (by simp)), un, g2, S3, R3⟩
    | next => exact False.elim hq
    | brk => exact False.elim hq
    | cont => exact False.elim hq
end
/-- a key as data -/
def keyF (fb : EF) (bs : List Bool) (env : Sl) (d : D) (m : M) : Option (D × M) := (fb (some (.val d) :: mskL bs env) m).bind fun x => match x.1 with
  | .val k => some (k, x.2)
  | _ => none
def kfold (fk : D → M → Option (D × M)) : List D → M → Option (List D × M)
  | [], m => some ([], m)
  | d :: ds, m => (fk d m).bind fun x => (kfold fk ds x.2).bind fun y => some (x.1 :: y.1, y.2)
theorem kfold_len {fk : D → M → Option (D × M)} : ∀ {ds ks : List D} {m m' : M}, kfold fk ds m = some (ks, m') → ks.length = ds.length
  | [], _, _, _, h => by cases h; rfl
  | d :: ds, _, m, _, h => by
    obtain ⟨x, h1, h⟩ := bind_some_iff h
    obtain ⟨y, h2, h⟩ := bind_some_iff h
    cases h
    rw [List.length_cons, List.length_cons, kfold_len h2]
/-- stably by the keys -/
def sortKD (ks ds : List D) : List D := ((ks.zip ds).mergeSort (PySem.W.dataLe false Prod.fst)).map Prod.snd
def sortKF (fk : D → M → Option (D × M)) (ds : List D) (m : M) : Option (R × M) := (kfold fk ds m).bind fun x => if (sortableB x.1 && smallAll x.1 && decide (ds.length ≤ sizeLine)) = true then some (.val (.list (sortKD x.1 ds)), x.2) else none
/-- a value that reads as data -/
def Rk (K : PySem.W.Frag) (φ : Ad) (H : Hp) (v : Value) (d : D) : Prop := ∃ x : V, RelV x v ∧ Dp K (off φ H) x d
theorem Rk.mono {K : PySem.W.Frag} {φ φ' : Ad} {H H' : Hp} {v : Value} {d : D} (g : Gr φ H φ' H') (h : Rk K φ H v d) : Rk K φ' H' v d := by
  obtain ⟨x, r, q⟩ := h
  exact ⟨x, r, dp_mono g.same q⟩
theorem each_at {α β : Type} {F : α → β → Prop} : ∀ {as : List α} {bs : List β} {i : Nat} {a : α}, PySem.W.EachIs F as bs → as[i]? = some a → ∃ b, bs[i]? = some b ∧ F a b
  | _, _, _, _, .nil, e => by simp at e
  | _, _, 0, _, .cons (b := b) h t, e => by
    simp at e
    subst e
    exact ⟨b, rfl, h⟩
  | _, _, i + 1, _, .cons _ t, e => by
    obtain ⟨v, h1, h2⟩ := each_at (i := i) t (by simpa using e)
    exact ⟨v, by simpa using h1, h2⟩
theorem each_push {α β : Type} {F : α → β → Prop} : ∀ {as : List α} {bs : List β} {a : α} {b : β}, PySem.W.EachIs F as bs → F a b → PySem.W.EachIs F (as ++ [a]) (bs ++ [b])
  | _, _, _, _, .nil, h => .cons h .nil
  | _, _, _, _, .cons q t, h => .cons q (each_push t h)
theorem each_zip {α β γ : Type} {F : α → β → Prop} : ∀ {as : List α} {bs : List β} {cs : List γ}, cs.length = bs.length → PySem.W.EachIs F as bs → PySem.W.EachIs (fun a (q : γ × β) => F a q.2) as (cs.zip bs)
  | _, _, [], e, .nil => .nil
  | _, _, _ :: _, e, .nil => by simp at e
  | _, _, [], e, .cons _ _ => by simp at e
  | _, _, c :: cs, e, .cons q t => .cons q (each_zip (by simpa using e) t)
theorem each_mapB {α β γ : Type} {F : α → γ → Prop} (f : β → γ) : ∀ {as : List α} {bs : List β}, PySem.W.EachIs (fun a b => F a (f b)) as bs → PySem.W.EachIs F as (bs.map f)
  | _, _, .nil => .nil
  | _, _, .cons q t => .cons q (each_mapB f t)
section
variable {X : Cx} {pins : List (Addr × Obj)} {σ : L2.St} {H : Hp} {s : Shared} {k : Nat} {bs : List Bool} {fb : EF} {p : Str} {f : Addr}
theorem sortK_core {φ : Ad} {env : Sl} {m m' : M} {r : R} {ds : List D} {u : Value} {Q : VK} (I : Inv X pins σ H s) (hr : Room (k + 3) X.A) (S : SR ζ X.K φ H m) (E : ER X.K φ H σ env) (L : LamAt ζ X k bs fb p f s H) (hev : sortKF (keyF fb bs env) ds m = some (r, m'))
    (hcol : ∀ E' : Value → Shared → Prop, wpAny (model X.prog X.w) X.A.in1 (collect u) (fun vs s1 => Inv X pins σ H s1 ∧ (∀ b o, s.heap.get? b = some o → s1.heap.get? b = some o) ∧ PySem.W.EachIs (Rk X.K φ H) vs ds) E' s)
    (q : ∀ φ2 H2 v2, Gr φ H φ2 H2 → SR ζ X.K φ2 H2 m' → RR X.K φ2 H2 v2 r → Q v2 H2) :
    wpAny (model X.prog X.w) X.A (PySem.call (.builtin "sorted") [u] [(Str.ofString "key", .ref f)]) (EP X pins σ Q) X.xe s := by
  obtain ⟨⟨ks, mE⟩, hk, hev⟩ := bind_some_iff hev
  simp only at hev
  split at hev
  · rename_i hc
    cases hev
    rw [Bool.and_eq_true, Bool.and_eq_true] at hc
    obtain ⟨⟨c1, c2⟩, c3⟩ := hc
    obtain ⟨hal, hso⟩ := sortable_ok c1
    have hsm := of_decide_eq_true c2
    have hlen := of_decide_eq_true c3
    have hun := hr.un
    have hkl := kfold_len hk
    refine PySem.W.sorted_of_collect (PyProof.Rows.ksk_s1 _ _) (fun _ => PyProof.Rows.ksk_l1 _ _) fun E' => ?_
    refine wpAny_mono (hcol E') (fun vs s1 ⟨I1, up, hR⟩ => ⟨by rw [hR.length]; exact hlen, fun h2 c kp hsz hat E2 => ?_⟩) fun _ _ e => e
    rw [PyProof.Rows.ksk_t1]
    have I2 : Inv X pins σ H { s1 with heap := h2 } := I1.kept (t' := s1.toks) kp
    have nS : ∀ b : Addr, s1.heap.objs.size ≤ b → H b = none := fun b hb => I1.hok.fresh hb
    have nF : ∀ b : Addr, s1.heap.objs.size ≤ b → b ∉ frs X.stack := fun b hb z => by
      rcases List.mem_cons.mp (I1.stkSub _ z) with e | e
      · have h1 := I1.lt
        rw [← e] at h1
        exact Nat.lt_irrefl _ (Nat.lt_of_lt_of_le h1 hb)
      · exact I1.nofs hb e
    have hkS : s1.heap.objs.size ≤ h2.objs.size + 1 := by omega
    obtain ⟨of, hof⟩ := L.here
    have hflt : f < s1.heap.objs.size := Heap.lt_size (up _ _ hof)
    have hfa : f ≠ s1.heap.objs.size := Nat.ne_of_lt hflt
    have hfk : f ≠ h2.objs.size + 1 := by rw [hsz]; exact Nat.ne_of_lt (Nat.lt_succ_of_lt (Nat.lt_succ_of_lt hflt))
    have hka : h2.objs.size + 1 ≠ s1.heap.objs.size := by omega
    have fpk : ∀ {H' : Hp}, H' (h2.objs.size + 1) = none → FpOk X pins H' (h2.objs.size + 1) := fun h => I1.fpOk hkS h
    have fpa : ∀ {H' : Hp}, H' s1.heap.objs.size = none → FpOk X pins H' s1.heap.objs.size := fun h => I1.fpOk (Nat.le_refl _) h
    refine PySem.W.keyI_tree (s := { s1 with heap := h2 }) (n := c) (J := fun i keys s' => ∃ φ' H' m1 kds rest, Inv X pins σ H' s' ∧ Gr φ H φ' H' ∧ SR ζ X.K φ' H' m1 ∧ H' (h2.objs.size + 1) = none ∧ H' s1.heap.objs.size = none ∧ H' f = none ∧ s'.heap.get? f = s.heap.get? f ∧
        PySem.W.EachIs (Rk X.K φ' H') keys.toList kds ∧ kfold (keyF fb bs env) (ds.drop i) m1 = some (rest, m') ∧ ks = kds ++ rest) hat (by rw [hR.length]; exact hlen) (fun h' e1 k1 na nk => ?_) (fun i v keys e e1 s' hv hJ nk na => ?_) fun keys e s' hJ nk hsz2 => ?_
    · -- the start
      have I3 : Inv X pins σ H { s1 with heap := h' } := Inv.turnedL (s := { s1 with heap := h2 }) (t' := s1.toks) I2 (ch := [s1.heap.objs.size]) (fun b o hb e => k1 b o (fun z => hb (by simp [z])) e) (fun b hb => by
        rw [List.mem_singleton.mp hb]
        exact fpa (nS _ (Nat.le_refl _)))
      exact ⟨φ, H, m, [], ks, I3, .refl, S, nS _ hkS, nS _ (Nat.le_refl _), L.free, (k1 f _ hfa (kp _ _ (up _ _ hof))).trans hof.symm, .nil, hk, rfl⟩
    · -- a turn
      obtain ⟨φ', H', m1, kds, rest, I', g, S', nk', na', nf', hf', hkd, hfo, eks⟩ := hJ
      obtain ⟨d, hd, rd⟩ := each_at hR hv
      have hdr : ds.drop i = d :: ds.drop (i + 1) := by
        obtain ⟨hi, e⟩ := List.getElem?_eq_some_iff.mp hd
        rw [List.drop_eq_getElem_cons hi, e]
      rw [hdr] at hfo
      obtain ⟨⟨kd, m2⟩, h1, hfo⟩ := bind_some_iff hfo
      obtain ⟨⟨rest2, m3⟩, h3, hfo⟩ := bind_some_iff hfo
      cases hfo
      obtain ⟨⟨r1, m4⟩, h4, h1⟩ := bind_some_iff h1
      cases r1 with
      | ref j => cases h1
      | val kd' =>
        cases h1
        obtain ⟨x, rx, dx⟩ := Rk.mono g rd
        refine wpAny_mono (L.call I' I'.env0.in1.in1 (hr.in1.in1) hf'.symm (fun cc q hc => code_stay S g hc) rx S' (E.mono g) (r := .val d) dx h4) (fun kv s'' hq => ?_) fun _ _ e => e
        obtain ⟨x2, φ2, H2, rx2, I3, un, g2, S3, R3⟩ := hq
        have k2 : s''.heap.get? (h2.objs.size + 1) = some (seqObj "list" keys e) := un.keep _ _ nk nk' (nF _ hkS) (by simp)
        have a2 : s''.heap.get? s1.heap.objs.size = some (seqObj "list" #[] e1) := un.keep _ _ na na' (nF _ (Nat.le_refl _)) (by simp)
        have f2 : s''.heap.get? f = s.heap.get? f := by
          rw [hof] at hf' ⊢
          exact un.keep _ _ hf' nf' L.nofr (by simp)
        refine ⟨k2, a2, fun h' sb hex => ?_⟩
        have n2 : H2 (h2.objs.size + 1) = none := un.free _ _ nk nk' (by simp)
        have n3 : H2 s1.heap.objs.size = none := un.free _ _ na na' (by simp)
        have n4 : H2 f = none := un.free _ _ (hf'.trans hof) nf' (by simp)
        have I4 : Inv X pins σ H2 { s'' with heap := h' } := I3.turnedL (t' := s''.toks) (ch := [h2.objs.size + 1]) (fun b o hb e => by
            rw [sb.2 b (fun z => hb (by simp [z]))]
            exact e) (fun b hb => by
          rw [List.mem_singleton.mp hb]
          exact fpk n2)
        refine ⟨φ2, H2, m4, kds ++ [kd], rest2, I4, g.trans g2, S3, n2, n3, n4, (sb.2 f hfk).trans f2, ?_, h3, by rw [List.append_assoc]; exact eks⟩
        have : (keys.push kv).toList = keys.toList ++ [kv] := by simp
        rw [this]
        exact each_push (hkd.mono fun v d z => z.mono g2) ⟨x2, rx2, R3⟩
    · -- the end
      obtain ⟨φ', H', m1, kds, rest, I', g, S', nk', na', nf', hf', hkd, hfo, eks⟩ := hJ
      have hdr : ds.drop vs.length = [] := List.drop_eq_nil_of_le (by rw [hR.length]; exact Nat.le_refl _)
      rw [hdr] at hfo
      cases hfo
      rw [List.append_nil] at eks
      subst eks
      refine ⟨ks, hkd.mono fun v d ⟨x, r, q⟩ => Dp.reads I' _ _ _ (dp_mono off_same q) r, hal, hso, fun d hd => ?_, fun h' tk out c2 kb hb ko => ⟨rfl, ?_⟩⟩
      · have h1 := depth_all hd
        show X.A.units + 2 + d.depth < cLine
        omega
      · have hkk : (ks.zip ds).map Prod.fst = ks := by
          rw [List.map_fst_zip]
          omega
        have e0 := PySem.W.keyedOut_each (bs := ks.zip ds) Prod.fst (by rw [hkk]; exact ko) (each_zip hkl hR)
        have e1 : PySem.W.EachIs (Rk X.K φ H) out (sortKD ks ds) := each_mapB (F := Rk X.K φ H) Prod.snd e0
        obtain ⟨ys, rv, hd⟩ := of_each (e1.mono fun v d z => z.mono g)
        have hyl : ys.length ≤ sizeLine := by
          rw [rv.length, e1.length]
          unfold sortKD
          rw [List.length_map, List.length_mergeSort, List.length_zip]
          omega
        have hsz3 : s1.heap.objs.size < h2.objs.size := by omega
        have nin : ∀ b w, H' b = some w → b ≠ s1.heap.objs.size ∧ b ≠ h2.objs.size + 1 := fun b w e => ⟨(fun z => by rw [z, na'] at e; cases e), (fun z => by rw [z, nk'] at e; cases e)⟩
        have I5 : Inv X pins σ (upd H' s1.heap.objs.size (.lst ys)) { s' with heap := h', toks := tk } := by
          refine I'.step (g' := s'.gens) (d' := s'.drawn) (ch := [s1.heap.objs.size, h2.objs.size + 1]) (fun b hb => ?_) (fun b o _ _ hc e _ => kb b o (fun z => hc (by simp [z])) (fun z => hc (by simp [z])) e) (fun b o _ _ hc e _ => ⟨o.slots, kb b o (fun z => hc (by simp [z])) (fun z => hc (by simp [z])) e⟩)
            (fun b o hc _ n => by rw [upd_ne (fun z => hc (by simp [z]))]; exact n) (fun b o hc e => ⟨o, kb b o (fun z => hc (by simp [z])) (fun z => hc (by simp [z])) e⟩) (fun b xs e => by rw [upd_ne (nin b _ e).1]; exact e) (fun b o w e => by rw [upd_ne (nin b _ e).1]; exact e) (fun b ps e => ⟨#[], by rw [upd_ne (nin b _ e).1, e]; simp⟩)
            (fun mm hm => ?_) (fun b w e => ?_) I'.bare
          · rcases List.mem_cons.mp hb with z | z
            · subst z
              have f0 := fpa (H' := H') na'
              exact ⟨f0.2.2.2.1, f0.2.1, f0.2.2.2.2.1, f0.2.2.2.2.2⟩
            · rw [List.mem_singleton.mp z]
              have f0 := fpk (H' := H') nk'
              exact ⟨f0.2.2.2.1, f0.2.1, f0.2.2.2.2.1, f0.2.2.2.2.2⟩
          · obtain ⟨o, es, ep, ho, rr⟩ := hm
            exact ⟨o, es, ep, kb _ o (fpa (H' := H') na').2.1.symm (fpk (H' := H') nk').2.1.symm ho, rr⟩
          · by_cases hb2 : b = s1.heap.objs.size
            · subst hb2
              rw [upd_same] at e
              cases e
              exact ⟨hyl, out, c2, rv, hb⟩
            · rw [upd_ne hb2] at e
              refine (I'.hok b w e).stay (fun d v hd z => ?_) (fun d z => by rw [upd_ne (nin d _ z).1]; exact z) fun d xs z => by rw [upd_ne (nin d _ z).1]; exact z
              rcases hd with y | y
              · rw [y] at z ⊢
                exact kb _ _ (nin b _ e).1 (nin b _ e).2 z
              · exact kb _ _ (nin d _ y).1 (nin d _ y).2 z
        refine ⟨.ref s1.heap.objs.size, _, I5, rfl, q φ' _ _ (g.trans (gr_alloc na')) (S'.alloc na') (rr_newL S' na' hd)⟩
  · cases hev
end
theorem collect_tupV {P : Program} {w : World} {A : Around} {E : Value → Shared → Prop} {s : Shared} {l : Addr} {vs : List Value} {Q : List Value → Shared → Prop} (hl : IsTup s.heap l vs.toArray) (hz : vs.length ≤ sizeLine)
    (q : ∀ h' : Heap, (∀ b o, s.heap.get? b = some o → h'.get? b = some o) → Q vs { s with heap := h' }) : wpAny (model P w) A (collect (.ref l)) Q E s := by
  obtain ⟨o, ho, hc, n, hd⟩ := hl
  have hn : (s.heap.push (seqObj "list" #[] 0)).get? s.heap.objs.size = some (seqObj "list" #[] 0) := Heap.get?_push_size _ rfl
  have ho' : (s.heap.push (seqObj "list" #[] 0)).get? l = some o := Heap.get?_push_of_some _ ho
  unfold collect
  refine wpAny_bind (wpAny_runValue (codeAny_builtin F.entry_proto_collect ?_))
  refine wpAny_bind (m := newList []) (wpAny_newList (wpAny_pure ⟨plainId_quiet F.plain_list_iadd _, codeAny_builtin F.entry_list_iadd ?_⟩))
  show wpAny (model P w) _ (Builtin.List.listExtendWith (.ref s.heap.objs.size) (.ref l) (.ref s.heap.objs.size)) _ _ ⟨s.heap.push (seqObj "list" #[] 0), s.gens, s.drawn, s.toks, s.os⟩
  unfold Builtin.List.listExtendWith
  refine wpAny_bind (wpAny_typeOf (T := "tuple") ⟨o, ho', hc⟩ ?_)
  have ht : (Value.type "tuple" == Value.type "tuple") = true := rfl
  rw [if_pos (by rw [ht, Bool.or_true])]
  refine wpAny_bind (listItems_at ho' hd (wpAny_bind (listItems_at hn rfl ?_)))
  rw [if_neg (by simp)]
  refine wpAny_bind (listUpdate_at hn rfl (wpAny_pure ?_) (Nat.zero_le _) (by
    have e : (#[] ++ vs.toArray).size = vs.length := by simp
    rw [e]
    exact Nat.le_succ_of_le hz))
  refine wpAny_bind (m := load s.heap.objs.size) (wpAny_load (get?_update_seq hn _) ?_)
  have e : ((#[] : Array Value) ++ vs.toArray).toList = vs := by simp
  show wpAny _ _ (pure ((#[] : Array Value) ++ vs.toArray).toList) Q E _
  rw [e]
  refine wpAny_pure (q _ fun b u hb => ?_)
  have nb : b ≠ s.heap.objs.size := Nat.ne_of_lt (Heap.lt_size hb)
  rw [Heap.get?_update_ne _ _ _ _ nb]
  exact Heap.get?_push_of_some _ hb
section
variable {X : Cx} {k : Nat} {bs : List Bool} {fb fe : EF} {p : Str} {e body : Expr} {params : Arguments} {scope : Scope} {c P : Addr} {p0 pos lpos kpos : Pos}
/-- a list or a tuple as what is gone through -/
theorem col_LT {pins : List (Addr × Obj)} {σ : L2.St} {φ : Ad} {H : Hp} {m : M} {s : Shared} {r : R} {v : V} {u : Value} {ds : List D} (I : Inv X pins σ H s) (S : SR ζ X.K φ H m) (R : RR X.K φ H v r) (rv : RelV v u) (h : asLT r m = some ds) {A : Around} {E : Value → Shared → Prop} :
    wpAny (model X.prog X.w) A (collect u) (fun vs s1 => Inv X pins σ H s1 ∧ (∀ b o, s.heap.get? b = some o → s1.heap.get? b = some o) ∧ PySem.W.EachIs (Rk X.K φ H) vs ds) E s := by
  by_cases ht : ∃ ts, r = .val (.tuple ts)
  · obtain ⟨ts, rfl⟩ := ht
    cases h
    obtain ⟨a, xs, rfl, hs, hd⟩ := seqT_of R
    obtain rfl : u = Value.ref a := rv
    obtain ⟨its, rvs, hl, hz⟩ := I.tuple hs
    refine collect_tupV hl (by rw [← rvs.length]; exact hz) fun h' up => ⟨I.kept (t' := s.toks) up, up, each_of hd rvs⟩
  · have h2 : asL r m = some ds := by
      unfold asLT at h
      split at h
      · exact absurd ⟨_, rfl⟩ ht
      · exact h
    obtain ⟨a, xs, rfl, hs, hd⟩ := seqL_of S R h2
    obtain rfl : u = Value.ref a := rv
    obtain ⟨its, rvs, hl, hz⟩ := I.list hs
    have up : ∀ b o, s.heap.get? b = some o → ((s.heap.push (seqObj "list" #[] 0)).update s.heap.objs.size (Obj.mapSeq (· ++ its.toArray))).get? b = some o := fun b o hb => by
      rw [Heap.get?_update_ne _ _ _ _ (Nat.ne_of_lt (Heap.lt_size hb))]
      exact Heap.get?_push_of_some _ hb
    refine collect_list hl.isList ⟨I.kept (t' := s.toks) up, up, each_of hd rvs⟩ (by rw [← rvs.length]; exact hz)
def lst1 (fa : AF) : Sl → M → Option (R × M) := fun env m => (fa env m).bind fun x => match x.1 with
  | [r] => some (r, x.2)
  | _ => none
def eSortK (bs : List Bool) (fb : EF) (fa : AF) : EF := fun env m => (lst1 fa env m).bind fun x => (asLT x.1 x.2).bind fun ds => sortKF (keyF fb bs env) ds x.2
theorem x_sortK {fa : AF} (L : LamOk ζ X k bs fb p params body scope c P) (hr : Room (k + 3) X.A) (hg : Gl X "sorted") (hm : X.mg "sorted" = none) (ha : PA X [e] (tA ζ X.K fa))
    (h1 : backTo pos (starEach [e] X.env) = (false, eval e X.env) :: backTo pos (starEach [] X.env) := by rfl) (h2 : (backTo pos (starEach [e] X.env)).any (·.1) = false := by rfl) :
    PE X (.Call (.Name "sorted" p0) [e] [⟨some "key", .Lambda params body scope lpos, kpos⟩] pos) (tE ζ X.K (eSortK bs fb fa)) := by
  refine ⟨fun pins s σ H Q I h => ?_⟩
  obtain ⟨φ, env, m, r, m', S, E, hf, q⟩ := h
  obtain ⟨⟨r1, m1⟩, h3, hf⟩ := bind_some_iff hf
  obtain ⟨ds, h4, hf⟩ := bind_some_iff hf
  obtain ⟨⟨rs, m2⟩, h5, h3⟩ := bind_some_iff h3
  simp only at h3
  split at h3
  · rename_i r0
    cases h3
    refine wpAny_Call_Name_kw (ld_blt I hg hm bt_sorted ?_)
    refine callWith_kw (thn (ha.run pos pins s σ H (fun vs H1 => ∃ φ1, Gr φ H φ1 H1 ∧ SR ζ X.K φ1 H1 m1 ∧ RRs X.K φ1 H1 vs [r1]) I ⟨φ, env, m, [r1], m1, S, E, h5, fun φ1 H1 vs g1 S1 R1 => ⟨φ1, g1, S1, R1⟩⟩) fun us s1 ⟨vs, H1, I1, rvs, φ1, g1, S1, R1⟩ => ?_) h1 h2
    cases R1 with
    | cons R1 R0 =>
      cases R0
      obtain ⟨u, rfl, rv⟩ := one_val rvs
      show wpAny _ _ (evalAll ((do let v ← eval (.Lambda params body scope lpos) X.env; standAt pos; pure v) :: (backToKw pos (keywordEach [] X.env)).map (·.2))) _ _ s1
      refine wpAny_evalAll_cons (wpAny_bind (lam_make L I1 S1 fun f H2 s2 I2 g2 S2 LA => wpAny_bind (wpAny_standAt (wpAny_pure (wpAny_evalAll_nil ?_)))))
      exact sortK_core I2 hr S2 (E.mono (g1.trans g2)) LA hf (fun E' => col_LT I2 S2 (R1.mono g2) rv h4) fun φ2 H3 v2 g3 S3 R3 => q φ2 H3 v2 (g1.trans (g2.trans g3)) S3 R3
  · cases h3
/-! ranges -/
theorem cr_range1 : CallR X (.type "range") (fun vs H Q => ∃ j, vs = [V.int j] ∧ ∀ p, H p = none → Q (.ref p) (upd H p (.rng 0 j))) := by
  intro pins s σ H vs us Q I r h
  obtain ⟨j, rfl, q⟩ := h
  obtain ⟨u1, rfl, rj⟩ := one_val r
  obtain ⟨t, rfl⟩ := rj
  refine call_range_1 ⟨.ref s.heap.objs.size, upd H s.heap.objs.size (.rng 0 j), I.laid (fun b o z => Heap.get?_push_of_some _ z) (Nat.le_refl _) ?_, rfl, q _ (I.hok.fresh (Nat.le_refl _))⟩
  exact ⟨_, t, _, Heap.get?_push_size _ rfl⟩
/-- range(b) or range(a, b): the bounds -/
def bds (rs : List R) : Option (Int × Int) := match rs with
  | [.val (.int j)] => some (0, j)
  | [.val (.int i), .val (.int j)] => some (i, j)
  | _ => none
theorem col_R {pins : List (Addr × Obj)} {σ : L2.St} {φ : Ad} {H : Hp} {s : Shared} {a : Addr} {i j : Int} (I : Inv X pins σ H s) (hc : X.calm = true) (h : H a = some (.rng i j)) (ok : RgOk i j) {E : Value → Shared → Prop} :
    wpAny (model X.prog X.w) X.A.in1 (collect (.ref a)) (fun vs s1 => Inv X pins σ H s1 ∧ (∀ b o, s.heap.get? b = some o → s1.heap.get? b = some o) ∧ PySem.W.EachIs (Rk X.K φ H) vs (rngD i (j - i).toNat)) E s := by
  obtain ⟨t, u, v, ho⟩ := I.hok a _ h
  obtain ⟨b1, b2, b3, b4, b5⟩ := ok
  refine collect_range (A := X.A.in1) (a := i) (b := j) (c := 1) (t := t) (u := u) (v := v) (n := (j - i).toNat) (I.ok.hd hc) ho (small_one b1 b2 b3 b4) (rangeSize_nat i j) b5 fun h' tk acc up hi => ⟨I.kept up, up, ?_⟩
  exact each_of (rgV_dp i j) (vals_rg hi)
def eSortKR (bs : List Bool) (fb : EF) (fa : AF) : EF := fun env m => (fa env m).bind fun x => (bds x.1).bind fun b => if rgOkB b.1 b.2 = true then sortKF (keyF fb bs env) (rngD b.1 (b.2 - b.1).toNat) x.2 else none
theorem x_sortKR {e : Expr} {es : List Expr} {fa : AF} {pr pr2 : Pos} (L : LamOk ζ X k bs fb p params body scope c P) (hc : X.calm = true) (hr : Room (k + 3) X.A) (hg : Gl X "sorted") (hm : X.mg "sorted" = none) (hg2 : Gl X "range") (hm2 : X.mg "range" = none) (ha : PA X (e :: es) (tA ζ X.K fa))
    (he : starEach (e :: es) X.env = (false, eval e X.env) :: starEach es X.env := by rfl) (hpl : (backTo pr2 (starEach es X.env)).any (·.1) = false := by rfl)
    (h0 : starEach [.Call (.Name "range" pr) (e :: es) [] pr2] X.env = (false, eval (.Call (.Name "range" pr) (e :: es) [] pr2) X.env) :: starEach [] X.env := by rfl)
    (h1 : backTo pos (starEach [.Call (.Name "range" pr) (e :: es) [] pr2] X.env) = (false, eval (.Call (.Name "range" pr) (e :: es) [] pr2) X.env) :: backTo pos (starEach [] X.env) := by rfl) (h2 : (backTo pos (starEach [.Call (.Name "range" pr) (e :: es) [] pr2] X.env)).any (·.1) = false := by rfl) :
    PE X (.Call (.Name "sorted" p0) [.Call (.Name "range" pr) (e :: es) [] pr2] [⟨some "key", .Lambda params body scope lpos, kpos⟩] pos) (tE ζ X.K (eSortKR bs fb fa)) := by
  refine ⟨fun pins s σ H Q I h => ?_⟩
  obtain ⟨φ, env, m, r, m', S, E, hf, q⟩ := h
  obtain ⟨⟨rs, m1⟩, h5, hf⟩ := bind_some_iff hf
  obtain ⟨⟨i, j⟩, h4, hf⟩ := bind_some_iff hf
  simp only at hf h4
  split at hf
  · rename_i ok
    have hrg : ∀ vs H1 φ1 (Q : VK), RRs X.K φ1 H1 vs rs → (∀ p, H1 p = none → Q (.ref p) (upd H1 p (.rng i j))) → (∀ pins s σ us, Inv X pins σ H1 s → Vals vs us → wpAny (model X.prog X.w) X.A (call (.type "range") us) (EP X pins σ Q) X.xe s) := by
      intro vs H1 φ1 Q R q pins s σ us I rv
      unfold bds at h4
      split at h4
      · cases h4
        cases R with
        | cons a t =>
          cases t
          have e := rr_int a
          subst e
          exact cr_range1 pins s σ H1 _ us Q I rv ⟨_, rfl, q⟩
      · cases h4
        cases R with
        | cons a t =>
          cases t with
          | cons b t =>
            cases t
            have e := rr_int a
            have e2 := rr_int b
            subst e e2
            exact cr_range2 pins s σ H1 _ us Q I rv ⟨_, _, rfl, q⟩
      · cases h4
    have hR : PE X (.Call (.Name "range" pr) (e :: es) [] pr2) (fun σ H Q => ∃ φ env m m', SR ζ X.K φ H m ∧ ER X.K φ H σ env ∧ fa env m = some (rs, m') ∧ ∀ φ' H' p, Gr φ H φ' H' → SR ζ X.K φ' H' m' → H' p = none → Q (.ref p) (upd H' p (.rng i j))) := by
      refine ⟨fun pins s σ H Q I h => ?_⟩
      obtain ⟨φ, env, m, m', S, E, hf, q⟩ := h
      refine wpAny_Call_Name_kw (ld_blt I hg2 hm2 boot_range ?_)
      refine PyProof.Rows.callWith_type1 (thn (ha.run pr2 pins s σ H (fun vs H1 => ∃ φ1, Gr φ H φ1 H1 ∧ SR ζ X.K φ1 H1 m' ∧ RRs X.K φ1 H1 vs rs) I ⟨φ, env, m, rs, m', S, E, hf, fun φ1 H1 vs g1 S1 R1 => ⟨φ1, g1, S1, R1⟩⟩) fun us s1 ⟨vs, H1, I1, rvs, φ1, g1, S1, R1⟩ => ?_) he hpl
      exact hrg vs H1 φ1 Q R1 (fun p hp => q φ1 H1 p g1 S1 hp) pins s1 σ us I1 rvs
    refine wpAny_Call_Name_kw (ld_blt I hg hm bt_sorted ?_)
    refine callWith_kw (args_cons (thn (hR.run pins s σ H (fun v H1 => ∃ φ1 p, Gr φ H φ1 H1 ∧ SR ζ X.K φ1 H1 m1 ∧ v = .ref p ∧ off φ1 H1 p = some (.rng i j)) I ⟨φ, env, m, m1, S, E, h5, fun φ1 H1 p g1 S1 hp => ⟨φ1, p, g1.trans (gr_alloc hp), S1.alloc hp, rfl, off_some.mpr ⟨S1.new hp, upd_same, rfl⟩⟩⟩) fun u s1 ⟨v, H1, I1, rv, φ1, p1, g1, S1, ev, ho⟩ => args_nil ?_) h0) h1 h2
    subst ev
    obtain rfl : u = Value.ref p1 := rv
    show wpAny _ _ (evalAll ((do let v ← eval (.Lambda params body scope lpos) X.env; standAt pos; pure v) :: (backToKw pos (keywordEach [] X.env)).map (·.2))) _ _ s1
    refine wpAny_evalAll_cons (wpAny_bind (lam_make L I1 S1 fun f H2 s2 I2 g2 S2 LA => wpAny_bind (wpAny_standAt (wpAny_pure (wpAny_evalAll_nil ?_)))))
    exact sortK_core I2 hr S2 (E.mono (g1.trans g2)) LA hf (fun E' => col_R I2 hc (off_some.mp (g2.same _ _ ho)).2.1 (rgOk_of ok)) fun φ2 H3 v2 g3 S3 R3 => q φ2 H3 v2 (g1.trans (g2.trans g3)) S3 R3
  · cases hf
end
end Ev
namespace Ev
open PySem PySem.Spec PyProof.Rows L2 LamX
theorem msk_ok {N : List Str} {p : Str} {bs : List Bool} (h : (N.map fun x => decide (x = p)) = bs) (i : Nat) (e : N[i]? = some p) : bs[i]? = some true := by
  rw [← h, List.getElem?_map, e]
  simp
theorem msk_no {N : List Str} {p : Str} {bs : List Bool} (h : N.contains p = false) (i : Nat) (e : N[i]? = some p) : bs[i]? = some true := by
  have := List.mem_of_getElem? e
  rw [← List.contains_iff_mem, h] at this
  cases this
theorem tab_uniq : ∀ (ζ : Tbs) {P : Addr} {x : Str}, (ζ.map Prod.fst).Nodup → (P, x) ∈ ζ → ∀ p ∈ ζ, p.1 = P → p.2 = x
  | [], _, _, _, h => by cases h
  | z :: ζ, P, x, nd, h => fun p hp e => by
    rw [List.map_cons, List.nodup_cons] at nd
    rcases List.mem_cons.mp h with h | h
    · rcases List.mem_cons.mp hp with q | q
      · rw [q, ← h]
      · exact absurd (List.mem_map.mpr ⟨p, q, by rw [e, ← h]⟩) nd.1
    · rcases List.mem_cons.mp hp with q | q
      · refine absurd (List.mem_map.mpr ⟨_, h, ?_⟩) nd.1
        rw [← q, e]
      · exact tab_uniq ζ nd.2 h p q e
end Ev

/-! fractions, in plain Lean -/
namespace Qa
theorem low_num (n d : Int) (h : 0 < d) : n / (Int.gcd n d : Int) = ((n:Rat)/d).num ∧ d / (Int.gcd n d : Int) = (((n:Rat)/d).den : Int) := by
  rw [← Rat.divInt_eq_div, Rat.num_divInt, Rat.den_divInt]
  rw [Int.sign_eq_one_of_pos h, Int.gcd_comm d n]
  constructor
  · rw [Int.one_mul]
  · rw [if_neg (by omega)]
    have : (d.natAbs : Int) = d := by omega
    push_cast
    rw [this]
theorem frac (x : Rat) : ((x.num : Int) : Rat) / (((x.den : Nat) : Int) : Rat) = x := by
  rw [← Rat.divInt_eq_div, Rat.num_divInt_den]
theorem den_pos (x : Rat) : (0 : Int) < ((x.den : Nat) : Int) := by
  have := x.den_nz
  omega
theorem den_ne (x : Rat) : (((x.den : Nat) : Int) : Rat) ≠ 0 := by
  have h := x.den_nz
  intro e
  have : ((x.den : Nat) : Int) = 0 := by exact_mod_cast e
  omega
theorem add_eq (x y : Rat) : (((x.num * y.den + y.num * x.den : Int)) : Rat) / ((((x.den * y.den : Int))) : Rat) = x + y := by
  have h1 := frac x
  have h2 := frac y
  have h3 := den_ne x
  have h4 := den_ne y
  push_cast at *
  generalize ((x.num : Int) : Rat) = a at *
  generalize ((y.num : Int) : Rat) = b at *
  generalize ((x.den : Nat) : Rat) = c at *
  generalize ((y.den : Nat) : Rat) = d at *
  rw [← h1, ← h2]
  grind
theorem mul_eq (x y : Rat) : (((x.num * y.num : Int)) : Rat) / ((((x.den * y.den : Int))) : Rat) = x * y := by
  have h1 := frac x
  have h2 := frac y
  have h3 := den_ne x
  have h4 := den_ne y
  push_cast at *
  generalize ((x.num : Int) : Rat) = a at *
  generalize ((y.num : Int) : Rat) = b at *
  generalize ((x.den : Nat) : Rat) = c at *
  generalize ((y.den : Nat) : Rat) = d at *
  rw [← h1, ← h2]
  grind
theorem num_neg (x : Rat) : (-x).num = -x.num ∧ (-x).den = x.den := ⟨rfl, rfl⟩
/-- a multiple of 1 / N -/
def In (N : Nat) (x : Rat) : Prop := ∃ k : Int, x * (N : Rat) = k
theorem In.add {N : Nat} {x y : Rat} (a : In N x) (b : In N y) : In N (x + y) := by
  obtain ⟨k, a⟩ := a
  obtain ⟨l, b⟩ := b
  refine ⟨k + l, ?_⟩
  push_cast
  grind
theorem In.neg {N : Nat} {x : Rat} (a : In N x) : In N (-x) := by
  obtain ⟨k, a⟩ := a
  refine ⟨-k, ?_⟩
  push_cast
  grind
theorem In.sub {N : Nat} {x y : Rat} (a : In N x) (b : In N y) : In N (x - y) := by
  obtain ⟨k, a⟩ := a
  obtain ⟨l, b⟩ := b
  refine ⟨k - l, ?_⟩
  push_cast
  grind
theorem In.mul {N M : Nat} {x y : Rat} (a : In N x) (b : In M y) : In (N * M) (x * y) := by
  obtain ⟨k, a⟩ := a
  obtain ⟨l, b⟩ := b
  refine ⟨k * l, ?_⟩
  push_cast
  grind
theorem In.int {N : Nat} (i : Int) : In N (i : Rat) := ⟨i * N, by push_cast; rfl⟩
theorem In.nat {N : Nat} (i : Nat) : In N (i : Rat) := ⟨i * N, by push_cast; rfl⟩
theorem In.up {N : Nat} {x : Rat} (a : In N x) (M : Nat) : In (N * M) x := by
  obtain ⟨k, a⟩ := a
  refine ⟨k * M, ?_⟩
  push_cast
  grind
theorem In.dvd {N M : Nat} {x : Rat} (a : In N x) (h : N ∣ M) : In M x := by
  obtain ⟨c, rfl⟩ := h
  exact a.up c
theorem In.inv {N : Nat} (h : 0 < N) : In N (1 / (N : Rat)) := ⟨1, by
  have : (N : Rat) ≠ 0 := by
    intro e
    have : N = 0 := by exact_mod_cast e
    omega
  grind⟩
theorem In.den {N : Nat} {x : Rat} (hN : 0 < N) (a : In N x) : x.den ∣ N := by
  obtain ⟨k, a⟩ := a
  have hn : (N : Rat) ≠ 0 := by
    intro e
    have : N = 0 := by exact_mod_cast e
    omega
  have e : x = (k : Rat) / (((N : Nat) : Int) : Rat) := by
    push_cast
    grind
  have h2 := (low_num k N (by omega)).2
  rw [← e] at h2
  have h3 : (x.den : Int) * (Int.gcd k N : Int) = N := by
    rw [← h2]
    exact Int.ediv_mul_cancel (Int.gcd_dvd_right _ _)
  exact ⟨Int.gcd k N, by exact_mod_cast h3.symm⟩
theorem In.den_le {N : Nat} {x : Rat} (hN : 0 < N) (a : In N x) : x.den ≤ N := Nat.le_of_dvd hN (a.den hN)
theorem num_le {B : Nat} {x : Rat} (h1 : -(B : Rat) ≤ x) (h2 : x ≤ (B : Rat)) : x.num.natAbs ≤ B * x.den := by
  have e1 := Rat.le_iff (a := -(B : Rat)) (b := x)
  have e2 := Rat.le_iff (a := x) (b := (B : Rat))
  have a1 := e1.mp h1
  have a2 := e2.mp h2
  have n1 : (-(B : Rat)).num = -(B : Int) := rfl
  have n2 : ((B : Rat)).num = (B : Int) := rfl
  have n3 : (-(B : Rat)).den = 1 := rfl
  have n4 : ((B : Rat)).den = 1 := rfl
  rw [n1, n3] at a1
  rw [n2, n4] at a2
  have e3 : (-(B : Int)) * (x.den : Int) = -(((B * x.den : Nat)) : Int) := by push_cast; grind
  have e4 : ((B : Int)) * (x.den : Int) = (((B * x.den : Nat)) : Int) := by push_cast; rfl
  rw [e3] at a1
  rw [e4] at a2
  omega
end Qa

set_option Elab.async false
set_option linter.all false
set_option maxRecDepth 100000
/-! greatest common divisors, fractions. -/
namespace Ev
open PySem PySem.Spec PyProof.Rows L2 Qa
theorem gcd_loop {c : TF} {body : SF} {m : M} (e : Nat → Nat → Sl) (hc : ∀ a b, c (e a b) m = some (decide (0 < b), m)) (hb : ∀ a b, 0 < b → body (e a b) m = some (.nx (e b (a % b)) m)) :
    ∀ (k n a b : Nat), b < 2 ^ k → 2 * k + 1 ≤ n → wloop c body n (e a b) m = some (.nx (e (Nat.gcd a b) 0) m)
  | k, 0, a, b, _, h => by omega
  | k, n + 1, a, 0, _, _ => by
    unfold wloop
    rw [hc, ob_some]
    simp
  | 0, n + 1, a, b + 1, h, _ => by simp at h
  | k + 1, n + 1, a, b + 1, h, hn => by
    have hp : 0 < b + 1 := Nat.succ_pos b
    have hlt : a % (b + 1) < b + 1 := Nat.mod_lt a hp
    unfold wloop
    rw [hc, ob_some]
    simp only [hp, decide_true, if_true]
    rw [hb a (b + 1) hp, ob_some, ev_aft_nx]
    have e1 : Nat.gcd a (b + 1) = Nat.gcd (b + 1) (a % (b + 1)) := by rw [Nat.gcd_comm a, Nat.gcd_rec, Nat.gcd_comm]
    rw [e1]
    cases n with
    | zero => omega
    | succ n =>
      by_cases hr : a % (b + 1) = 0
      · rw [hr]
        unfold wloop
        rw [hc, ob_some]
        simp
      · have hrp : 0 < a % (b + 1) := Nat.pos_of_ne_zero hr
        unfold wloop
        rw [hc, ob_some]
        simp only [hrp, decide_true, if_true]
        rw [hb _ _ hrp, ob_some, ev_aft_nx]
        have h2 : (b + 1) % (a % (b + 1)) < 2 ^ k := by
          have h3 : (b + 1) % (a % (b + 1)) < a % (b + 1) := Nat.mod_lt _ hrp
          have h4 : (b + 1) % (a % (b + 1)) + a % (b + 1) ≤ b + 1 := by
            have h5 := Nat.div_add_mod (b + 1) (a % (b + 1))
            have h6 : 1 ≤ (b + 1) / (a % (b + 1)) := Nat.div_pos (Nat.le_of_lt hlt) hrp
            have h7 : a % (b + 1) * 1 ≤ a % (b + 1) * ((b + 1) / (a % (b + 1))) := Nat.mul_le_mul_left _ h6
            omega
          rw [Nat.pow_succ] at h
          omega
        rw [gcd_loop e hc hb k n _ _ h2 (by omega)]
        have e2 : Nat.gcd (a % (b + 1)) ((b + 1) % (a % (b + 1))) = Nat.gcd (b + 1) (a % (b + 1)) := by rw [Nat.gcd_comm (a % (b + 1)), ← Nat.gcd_rec, Nat.gcd_comm]
        rw [e2]
/-- small: below 2 ^ k -/
def Sz (k : Nat) (i : Int) : Prop := i.natAbs < 2 ^ k
theorem Sz.log {k : Nat} {i : Int} (h : Sz k i) : i.natAbs.log2 ≤ k := by
  by_cases z : i.natAbs = 0
  · rw [z]; exact Nat.zero_le _
  · exact Nat.le_of_lt ((Nat.log2_lt z).mpr h)
theorem Sz.mul {k l : Nat} {i j : Int} (a : Sz k i) (b : Sz l j) : Sz (k + l) (i * j) := by
  unfold Sz at *
  rw [Int.natAbs_mul, Nat.pow_add]
  exact Nat.mul_lt_mul'' a b
theorem Sz.up {k l : Nat} {i : Int} (a : Sz k i) (h : k ≤ l) : Sz l i := Nat.lt_of_lt_of_le a (Nat.pow_le_pow_right (by decide) h)
theorem Sz.add {k : Nat} {i j : Int} (a : Sz k i) (b : Sz k j) : Sz (k + 1) (i + j) := by
  unfold Sz at *
  rw [Nat.pow_succ]
  omega
theorem Sz.neg {k : Nat} {i : Int} (a : Sz k i) : Sz k (-i) := by
  unfold Sz at *
  omega
theorem pm_sz {k l : Nat} {i j : Int} {m : M} (a : Sz k i) (b : Sz l j) (h : k + l < 900000) : pMul (.val (.int i)) (.val (.int j)) m = some (.val (.int (i * j)), m) := by
  have h : mulOk i j = true := by
    have h1 := a.log
    have h2 := b.log
    exact decide_eq_true (by omega)
  show (if mulOk i j = true then some (R.val (.int (i * j)), m) else none) = _
  rw [if_pos h]
theorem pdv_sz {k : Nat} {i j : Int} {m : M} (hj : 0 < j) (b : Sz k j) (h : k < 8000) : pDiv (.val (.int i)) (.val (.int j)) m = some (.val (.int (i / j)), m) := by
  have h : divOk i j = true := by
    have h2 := b.log
    exact decide_eq_true ⟨hj, by omega⟩
  show (if divOk i j = true then some (R.val (.int (i / j)), m) else none) = _
  rw [if_pos h]
/-- a fraction as the program has it -/
def encQ (x : Rat) : D := .tuple [.int x.num, .int (x.den : Int)]
/-- below 2 ^ 1000, above and below the line -/
structure SmQ (x : Rat) : Prop where
  num : Sz 1000 x.num
  den : Sz 1000 (x.den : Int)
theorem SmQ.of {N B : Nat} {x : Rat} (hN : 0 < N) (a : In N x) (h1 : -(B : Rat) ≤ x) (h2 : x ≤ (B : Rat)) (h : B * N < 2 ^ 1000) (hN2 : N < 2 ^ 1000) : SmQ x := by
  have h3 := num_le h1 h2
  have h4 := a.den_le hN
  refine ⟨Nat.lt_of_le_of_lt (Nat.le_trans h3 (Nat.mul_le_mul_left B h4)) h, ?_⟩
  show ((x.den : Nat) : Int).natAbs < 2 ^ 1000
  rw [Int.natAbs_natCast]
  exact Nat.lt_of_le_of_lt h4 hN2
theorem SmQ.nat {n : Nat} (h : n < 2 ^ 1000) : SmQ (n : Rat) := ⟨by show ((n : Nat) : Int).natAbs < _; rw [Int.natAbs_natCast]; exact h, by show (1 : Nat) < 2 ^ 1000; exact Nat.one_lt_two_pow (by decide)⟩
theorem encQ_nat (n : Nat) : encQ (n : Rat) = .tuple [.int n, .int 1] := rfl
theorem encQ_0 : encQ 0 = .tuple [.int 0, .int 1] := rfl
theorem encQ_1 : encQ 1 = .tuple [.int 1, .int 1] := rfl
theorem inv_num {n : Nat} (h : 0 < n) : (1 / (n : Rat)).num = 1 ∧ (1 / (n : Rat)).den = n := by
  have e := low_num 1 n (by omega)
  have g : Int.gcd 1 n = 1 := by simp
  rw [g] at e
  have e2 : ((1 : Int) : Rat) / (((n : Nat) : Int) : Rat) = 1 / (n : Rat) := by push_cast; rfl
  rw [e2] at e
  refine ⟨by rw [← e.1]; simp, ?_⟩
  have := e.2
  have h2 : ((n : Nat) : Int) / ((1 : Nat) : Int) = n := by simp
  rw [h2] at this
  exact_mod_cast this.symm
theorem encQ_inv {n : Nat} (h : 0 < n) : encQ (1 / (n : Rat)) = .tuple [.int 1, .int n] := by
  unfold encQ
  rw [(inv_num h).1, (inv_num h).2]
theorem encQ_neg (x : Rat) : encQ (-x) = .tuple [.int (-x.num), .int (x.den : Int)] := rfl
theorem pixq0 {x : Rat} {m : M} : pIdx (.val (encQ x)) (.val (.int 0)) m = some (.val (.int x.num), m) := by
  unfold encQ
  rw [pix_t, atI_0]
  rfl
theorem pixq1 {x : Rat} {m : M} : pIdx (.val (encQ x)) (.val (.int 1)) m = some (.val (.int (x.den : Int)), m) := by
  unfold encQ
  rw [pix_t, atI_1]
  rfl
theorem num_pos (x : Rat) : 0 < x.num ↔ 0 < x := by
  rw [Rat.lt_iff]
  have h1 : (0 : Rat).num = 0 := rfl
  have h2 : (0 : Rat).den = 1 := rfl
  rw [h1, h2]
  simp
theorem num_zero (x : Rat) : x.num = 0 ↔ x = 0 := Rat.num_eq_zero
/-- ints as data -/
def encI (l : List Nat) : List D := l.map fun a : Nat => .int a
def encT (l : List Nat) : D := .tuple (encI l)
theorem encI_len (l : List Nat) : (encI l).length = l.length := by unfold encI; rw [List.length_map]
theorem encI_get {l : List Nat} {i a : Nat} (h : l[i]? = some a) : (encI l)[i]? = some (.int a) := by
  unfold encI
  rw [List.getElem?_map, h]
  rfl
theorem sum_cast : ∀ l : List Nat, (l.map fun a : Nat => (a : Int)).sum = ((l.sum : Nat) : Int)
  | [] => rfl
  | a :: l => by
    rw [List.map_cons, List.sum_cons, sum_cast l, List.sum_cons]
    push_cast
    rfl
theorem psum_T {l : List Nat} {m : M} : pSum [.val (encT l)] m = some (.val (.int (l.sum : Nat)), m) := by
  have h := psum_t (m := m) l (fun a : Nat => (a : Int))
  rw [sum_cast] at h
  exact h
theorem plen_T {l : List Nat} {m : M} : pLen [.val (encT l)] m = some (.val (.int (l.length : Nat)), m) := by
  unfold encT
  rw [plen_t, encI_len]
theorem pix_T {l : List Nat} {i a : Nat} {m : M} (h : l[i]? = some a) : pIdx (.val (encT l)) (.val (.int (i : Nat))) m = some (.val (.int a), m) := by
  unfold encT
  rw [pix_t, at_nat (encI_get h)]
  rfl
theorem pix_T0 {l : List Nat} {a : Nat} {m : M} (h : l[0]? = some a) : pIdx (.val (encT l)) (.val (.int 0)) m = some (.val (.int a), m) := pix_T (i := 0) h
/-! slices -/
def sl1 (r : R) (lo hi : Option Int) (m : M) : Option (R × M) := match r with
  | .val (.tuple ds) => some (.val (.tuple (cutD ds lo hi)), m)
  | r => (asL r m).bind fun ds => some (.val (.list (cutD ds lo hi)), m)
theorem ev_sl {f : EF} {l h : OF} {env : Sl} {m : M} : eSl f l h env m = (f env m).bind fun x => (l env x.2).bind fun y => (h env y.2).bind fun z => sl1 x.1 y.1 z.1 z.2 := nr rfl
theorem ev_oNone {env : Sl} {m : M} : oNone env m = some (none, m) := nr rfl
theorem ev_oSome {f : EF} {env : Sl} {m : M} : oSome f env m = (f env m).bind fun x => (asI x.1).bind fun i => some (some i, x.2) := nr rfl
theorem sl1_r {k : Nat} {m : M} {ds : List D} {lo hi : Option Int} (h : m[k]? = some (.lst ds)) : sl1 (.ref k) lo hi m = some (.val (.list (cutD ds lo hi)), m) := by
  show ((asL (.ref k) m).bind fun ds => some (R.val (.list (cutD ds lo hi)), m)) = _
  rw [asL_r h]
  rfl
theorem sl1_t {m : M} {ds : List D} {lo hi : Option Int} : sl1 (.val (.tuple ds)) lo hi m = some (.val (.tuple (cutD ds lo hi)), m) := nr rfl
theorem sl1_l {m : M} {ds : List D} {lo hi : Option Int} : sl1 (.val (.list ds)) lo hi m = some (.val (.list (cutD ds lo hi)), m) := nr rfl
theorem six_nat {n d k : Nat} : HT.sIx n d (some (k : Int)) = min k n := by
  unfold HT.sIx
  simp
  omega
theorem cut_take {ds : List D} {k : Nat} : cutD ds none (some (k : Int)) = ds.take k := by
  unfold cutD
  rw [six_nat]
  show (ds.drop 0).take (min k ds.length - 0) = _
  rw [List.drop_zero, Nat.sub_zero, ← List.take_eq_take_min]
theorem cut_drop {ds : List D} {k : Nat} : cutD ds (some (k : Int)) none = ds.drop k := by
  unfold cutD
  rw [six_nat]
  show (ds.drop (min k ds.length)).take (ds.length - min k ds.length) = _
  by_cases h : k ≤ ds.length
  · rw [Nat.min_eq_left h]
    refine List.take_of_length_le ?_
    rw [List.length_drop]
    exact Nat.le_refl _
  · rw [Nat.min_eq_right (by omega), Nat.sub_self, List.take_zero, List.drop_eq_nil_of_le (by omega)]
theorem cut_mid {ds : List D} {j k : Nat} (h : j ≤ k) : cutD ds (some (j : Int)) (some (k : Int)) = (ds.take k).drop j := by
  unfold cutD
  rw [six_nat, six_nat, List.drop_take]
  by_cases h2 : k ≤ ds.length
  · rw [Nat.min_eq_left h2, Nat.min_eq_left (by omega)]
  · by_cases h3 : j ≤ ds.length
    · rw [Nat.min_eq_right (by omega), Nat.min_eq_left h3, List.take_of_length_le, List.take_of_length_le]
      · rw [List.length_drop]; omega
      · rw [List.length_drop]; omega
    · rw [Nat.min_eq_right (by omega), Nat.min_eq_right (by omega), List.drop_eq_nil_of_le (by omega), List.drop_eq_nil_of_le (by omega)]
      simp
theorem encI_take (l : List Nat) (k : Nat) : (encI l).take k = encI (l.take k) := by
  unfold encI
  rw [List.map_take]
theorem encI_drop (l : List Nat) (k : Nat) : (encI l).drop k = encI (l.drop k) := by
  unfold encI
  rw [List.map_drop]
/-! whole part -/
theorem floor_facts (x : Rat) (h : 0 ≤ x) : ∃ w : Nat, x.num / (x.den : Int) = (w : Nat) ∧ (w : Rat) ≤ x ∧ x < (w : Rat) + 1 ∧ (((x.num % (x.den : Int) : Int)) : Rat) / (((x.den : Nat) : Int) : Rat) = x - (w : Rat) := by
  have hd := den_pos x
  have hn : 0 ≤ x.num := by
    rw [Rat.le_iff] at h
    have h1 : (0 : Rat).num = 0 := rfl
    have h2 : (0 : Rat).den = 1 := rfl
    rw [h1, h2] at h
    simpa using h
  have hw := Int.ediv_nonneg hn (Int.le_of_lt hd)
  obtain ⟨w, hw2⟩ : ∃ w : Nat, x.num / (x.den : Int) = w := ⟨(x.num / (x.den : Int)).toNat, by omega⟩
  have e := Int.emod_add_mul_ediv x.num (x.den : Int)
  have r0 := Int.emod_nonneg x.num (show ((x.den : Nat) : Int) ≠ 0 by omega)
  have r1 := Int.emod_lt_of_pos x.num hd
  rw [hw2] at e
  have f := frac x
  have dn := den_ne x
  have dp : (0 : Rat) < (((x.den : Nat) : Int) : Rat) := by exact_mod_cast hd
  have e' : ((x.num % (x.den : Int) : Int) : Rat) + (((x.den : Nat) : Int) : Rat) * (w : Rat) = ((x.num : Int) : Rat) := by exact_mod_cast congrArg (fun z : Int => (z : Rat)) e
  have key : (((x.num % (x.den : Int) : Int)) : Rat) / (((x.den : Nat) : Int) : Rat) = x - (w : Rat) := by
    rw [← f, ← e']
    grind
  have r0' : (0 : Rat) ≤ (((x.num % (x.den : Int) : Int)) : Rat) := by exact_mod_cast r0
  have r1' : (((x.num % (x.den : Int) : Int)) : Rat) < (((x.den : Nat) : Int) : Rat) := by exact_mod_cast r1
  have k0 : (0 : Rat) ≤ (((x.num % (x.den : Int) : Int)) : Rat) / (((x.den : Nat) : Int) : Rat) := by
    rw [Rat.div_def]
    exact Rat.mul_nonneg r0' (Rat.le_of_lt (Rat.inv_pos.mpr dp))
  have k1 : (((x.num % (x.den : Int) : Int)) : Rat) / (((x.den : Nat) : Int) : Rat) < 1 := by
    have := (Rat.mul_lt_mul_right (Rat.inv_pos.mpr dp)).mpr r1'
    rw [← Rat.div_def, ← Rat.div_def] at this
    grind
  exact ⟨w, hw2, by grind, by grind, key⟩
/-! a list of the store gone through -/
theorem stepR_nx {k i n : Nat} {ds : List D} {d : D} {m m1 m2 : M} {gf : GF} {sf : SF} {env env1 env2 : Sl} (hm : m[k]? = some (.lst ds)) (hd : ds[i]? = some d) (hg : gf (.val d) env m = some (env1, m1)) (hb : sf env1 m1 = some (.nx env2 m2)) :
    loop (srcR k) gf sf (n + 1) i env m = loop (srcR k) gf sf n (i + 1) env2 m2 := by
  have e : srcR k i m = some (some d) := by
    unfold srcR
    rw [hm]
    simp only [hd]
  show ((srcR k i m).bind fun o => match o with
    | none => some (.nx env m)
    | some d => (gf (.val d) env m).bind fun x => (sf x.1 x.2).bind fun fl => aftF fl (loop (srcR k) gf sf n (i + 1))) = _
  rw [e, ob_some]
  simp only [hg, ob_some, hb, ev_aft_nx]
theorem stepR_rt {k i n : Nat} {ds : List D} {d : D} {m m1 m2 : M} {gf : GF} {sf : SF} {env env1 : Sl} {r : R} (hm : m[k]? = some (.lst ds)) (hd : ds[i]? = some d) (hg : gf (.val d) env m = some (env1, m1)) (hb : sf env1 m1 = some (.rt r m2)) :
    loop (srcR k) gf sf (n + 1) i env m = some (.rt r m2) := by
  have e : srcR k i m = some (some d) := by
    unfold srcR
    rw [hm]
    simp only [hd]
  show ((srcR k i m).bind fun o => match o with
    | none => some (.nx env m)
    | some d => (gf (.val d) env m).bind fun x => (sf x.1 x.2).bind fun fl => aftF fl (loop (srcR k) gf sf n (i + 1))) = _
  rw [e, ob_some]
  simp only [hg, ob_some, hb, ev_aft_rt]
theorem endR {k i n : Nat} {ds : List D} {m : M} {gf : GF} {sf : SF} {env : Sl} (hm : m[k]? = some (.lst ds)) (hd : ds[i]? = none) : loop (srcR k) gf sf n i env m = some (.nx env m) := by
  have e : srcR k i m = some none := by
    unfold srcR
    rw [hm]
    simp only [hd]
  cases n <;> simp [loop, e]
theorem run_ref {k : Nat} {ds : List D} {m : M} {gf : GF} {sf : SF} {env : Sl} (hm : m[k]? = some (.lst ds)) : runI (an1 (.ref k) m) gf sf env = loop (srcR k) gf sf ds.length 0 env m := by
  unfold an1 runI
  simp only [hm, ob_some]
theorem eraseIdx_mapL {α β : Type} (f : α → β) : ∀ (l : List α) (j : Nat), (l.map f).eraseIdx j = (l.eraseIdx j).map f
  | [], j => by simp
  | a :: l, 0 => by simp
  | a :: l, j + 1 => by simp [eraseIdx_mapL f l j]
theorem place_enc {i : Nat} : ∀ {l : List Nat}, i ∈ l → ∃ j, placeI (i : Int) (l.map fun a : Nat => (a : Int)) = some j ∧ l.eraseIdx j = l.erase i
  | [], h => by cases h
  | a :: l, h => by
    rw [List.map_cons]
    unfold placeI
    by_cases e : a = i
    · subst e
      exact ⟨0, by rw [if_pos rfl], by simp⟩
    · have e2 : ¬ ((a : Int) = (i : Int)) := by omega
      rw [if_neg e2]
      rcases List.mem_cons.mp h with z | z
      · exact absurd z.symm e
      · obtain ⟨j, h1, h2⟩ := place_enc z
        refine ⟨j + 1, by rw [h1]; rfl, ?_⟩
        rw [List.eraseIdx_cons_succ, h2, List.erase_cons_tail (by simpa using e)]
theorem remove_enc {l : List Nat} {i k : Nat} {m : M} (nd : l.Nodup) (h : i ∈ l) (hm : m[k]? = some (.lst (encI l))) : pRemove (.ref k) [.val (.int (i : Nat))] m = some (.val .none, m.set k (.lst (encI (l.filter fun j => j != i)))) := by
  obtain ⟨j, h1, h2⟩ := place_enc h
  have e1 : asIs (encI l) = some (l.map fun a : Nat => (a : Int)) := asIs_map' l fun a : Nat => (a : Int)
  show ((m[k]?).bind fun o => match o with
    | .lst ds => (asIs ds).bind fun ns => (placeI (i : Int) ns).bind fun j => some (R.val .none, m.set k (.lst ((ns.eraseIdx j).map PyData.int)))) = _
  rw [hm, ob_some]
  simp only [e1, ob_some, h1]
  have e2 : ((l.map fun a : Nat => (a : Int)).eraseIdx j).map PyData.int = encI (l.filter fun j => j != i) := by
    rw [eraseIdx_mapL, h2, List.Nodup.erase_eq_filter nd]
    unfold encI
    rw [List.map_map]
    rfl
  rw [e2]
/-! one turn of a while -/
theorem w_nx {c : TF} {body : SF} {n : Nat} {env e2 : Sl} {m m1 m2 : M} (hc : c env m = some (true, m1)) (hb : body env m1 = some (.nx e2 m2)) : wloop c body (n + 1) env m = wloop c body n e2 m2 := by
  show ((c env m).bind fun x => if x.1 = true then (body env x.2).bind fun fl => aftF fl (wloop c body n) else some (.nx env x.2)) = _
  rw [hc, ob_some]
  simp only [if_true, hb, ob_some, ev_aft_nx]
theorem w_end {c : TF} {body : SF} {n : Nat} {env : Sl} {m m1 : M} (hc : c env m = some (false, m1)) : wloop c body (n + 1) env m = some (.nx env m1) := by
  show ((c env m).bind fun x => if x.1 = true then (body env x.2).bind fun fl => aftF fl (wloop c body n) else some (.nx env x.2)) = _
  rw [hc, ob_some]
  simp only [Bool.false_eq_true, if_false]
end Ev

set_option Elab.async false
set_option linter.all false
set_option maxRecDepth 100000
/-! repr of data that is not large. -/
namespace Ev
open PySem PySem.Spec PyProof.Rows L2
structure Sh (w dep : Nat) (d : D) : Prop where
  sm : smallD d = true
  wt : d.weight ≤ w
  dp : d.depth ≤ dep
structure ShA (w dep : Nat) (ds : List D) : Prop where
  sm : smallDs ds = true
  wt : PyData.weightAll ds ≤ w
  dp : PyData.depthAll ds ≤ dep
theorem Sh.int {i : Int} (h : -(1000000000000000000000000 : Int) < i ∧ i < (1000000000000000000000000 : Int)) : Sh 81 0 (.int i) := by
  refine ⟨decide_eq_true h, ?_, Nat.le_refl _⟩
  have h1 := int_log h
  show (if i == 0 then 0 else i.natAbs.log2 + 1) ≤ 81
  split
  · exact Nat.zero_le _
  · have := log2_lt_of (k := 79) (Nat.lt_of_lt_of_le h1 (by decide))
    omega
theorem Sh.up {w w' dep dep' : Nat} {d : D} (h : Sh w dep d) (hw : w ≤ w') (hd : dep ≤ dep') : Sh w' dep' d := ⟨h.sm, Nat.le_trans h.wt hw, Nat.le_trans h.dp hd⟩
theorem Sh.non : Sh 1 0 .none := ⟨rfl, by decide, by decide⟩
theorem Sh.bl {b : Bool} : Sh 1 0 (.bool b) := ⟨rfl, by cases b <;> decide, by cases b <;> decide⟩
theorem ShA.nil : ShA 0 0 [] := ⟨rfl, Nat.le_refl _, Nat.le_refl _⟩
theorem ShA.cons {w v a b : Nat} {d : D} {ds : List D} (h : Sh w a d) (t : ShA v b ds) : ShA (w + 1 + v) (max a b) (d :: ds) := by
  refine ⟨?_, ?_, ?_⟩
  · show (smallD d && smallDs ds) = true
    rw [h.sm, t.sm]
    rfl
  · show d.weight + 1 + PyData.weightAll ds ≤ _
    have := h.wt
    have := t.wt
    omega
  · show max d.depth (PyData.depthAll ds) ≤ _
    have := h.dp
    have := t.dp
    omega
theorem Sh.tup {w dep : Nat} {ds : List D} (h : ShA w dep ds) : Sh w (dep + 1) (.tuple ds) := ⟨h.sm, h.wt, by
  show PyData.depthAll ds + 1 ≤ _
  have := h.dp
  omega⟩
theorem Sh.lst {w dep : Nat} {ds : List D} (h : ShA w dep ds) : Sh w (dep + 1) (.list ds) := ⟨h.sm, h.wt, by
  show PyData.depthAll ds + 1 ≤ _
  have := h.dp
  omega⟩
theorem ShA.map {α : Type} {w dep : Nat} {f : α → D} : ∀ {l : List α}, (∀ x ∈ l, Sh w dep (f x)) → ShA ((w + 1) * l.length) dep (l.map f)
  | [], _ => ⟨rfl, Nat.le_refl _, Nat.zero_le _⟩
  | a :: l, h => by
    have ih := ShA.map (l := l) fun x hx => h x (List.mem_cons_of_mem _ hx)
    have := ShA.cons (h a (by simp)) ih
    rw [Nat.max_self] at this
    rw [List.length_cons, Nat.mul_succ, Nat.add_comm]
    exact this
theorem Sh.repr {w dep : Nat} {d : D} {m : M} (h : Sh w dep d) (hw : w ≤ 500000) (hd : dep ≤ 60) : pRepr [.val d] m = some (.val (.str d.shown), m) := pRepr_ok h.sm (Nat.le_trans h.dp hd) (Nat.le_trans h.wt hw)
theorem sh_encI {l : List Nat} (h : ∀ a ∈ l, a < 1000000000000000000000000) : ShA (82 * l.length) 0 (encI l) := by
  refine ShA.map (f := fun a : Nat => PyData.int a) fun a ha => Sh.int ⟨by omega, ?_⟩
  have := h a ha
  omega
/-- a fraction that is not large -/
theorem sh_Q {N B : Nat} {x : Rat} (hN : 0 < N) (a : Qa.In N x) (h1 : -(B : Rat) ≤ x) (h2 : x ≤ (B : Rat)) (h : B * N < 1000000000000000000000000) (hN2 : N < 1000000000000000000000000) : Sh 164 1 (encQ x) := by
  have h3 := Qa.num_le h1 h2
  have h4 := a.den_le hN
  have h5 : B * x.den ≤ B * N := Nat.mul_le_mul_left B h4
  have e1 : Sh 81 0 (.int x.num) := Sh.int (by omega)
  have e2 : Sh 81 0 (.int (x.den : Int)) := Sh.int (by omega)
  exact (Sh.tup (ShA.cons e1 (ShA.cons e2 ShA.nil))).up (by decide) (by decide)
theorem ev_gTp {n : Nat} {g : GsF} {ds : List D} {env : Sl} {m : M} : gTp n g (.val (.tuple ds)) env m = if ds.length = n then g (ds.map R.val) env m else none := nr rfl
theorem ev_gsC {g : GF} {h : GsF} {r : R} {rs : List R} {env : Sl} {m : M} : gsCons g h (r :: rs) env m = (g r env m).bind fun x => h rs x.1 x.2 := nr rfl
theorem ev_gsN {env : Sl} {m : M} : gsNil [] env m = some (env, m) := nr rfl
end Ev

set_option Elab.async false
set_option linter.all false
set_option maxRecDepth 100000
/-! sorting by keys, of known values. -/
namespace Ev
open PySem PySem.Spec PyProof.Rows L2
theorem kfold_map {α : Type} {fk : D → M → Option (D × M)} {m : M} (enc K : α → D) : ∀ (l : List α), (∀ a ∈ l, fk (enc a) m = some (K a, m)) → kfold fk (l.map enc) m = some (l.map K, m)
  | [], _ => rfl
  | a :: l, h => by
    rw [List.map_cons]
    unfold kfold
    rw [h a (by simp), ob_some, kfold_map enc K l fun b hb => h b (List.mem_cons_of_mem _ hb), ob_some]
    rfl
theorem sortKD_map {α : Type} (enc K : α → D) (l : List α) : sortKD (l.map K) (l.map enc) = (l.mergeSort fun a b => PySem.W.dataLe false K a b).map enc := by
  unfold sortKD
  have e : (l.map K).zip (l.map enc) = l.map fun a => (K a, enc a) := by
    induction l with
    | nil => rfl
    | cons a l ih => simp [ih]
  have e2 := List.map_mergeSort (r := fun a b => PySem.W.dataLe false K a b) (s := PySem.W.dataLe false Prod.fst) (f := fun a => (K a, enc a)) (l := l) fun a _ b _ => rfl
  rw [e, ← e2, List.map_map]
  rfl
theorem depth_map {α : Type} {K : α → D} {n : Nat} : ∀ (l : List α), (∀ a ∈ l, (K a).depth ≤ n) → PyData.depthAll (l.map K) ≤ n
  | [], _ => Nat.zero_le _
  | a :: l, h => by
    have := h a (by simp)
    have := depth_map l fun b hb => h b (List.mem_cons_of_mem _ hb)
    show max (K a).depth (PyData.depthAll (l.map K)) ≤ n
    omega
theorem sortable_tup {α : Type} {K : α → D} (l : List α) (h : ∀ a ∈ l, ∃ x xs, K a = .tuple (x :: xs)) (hal : ∀ a ∈ l, ∀ b ∈ l, PySem.W.alike (K a) (K b) = true) : sortableB (l.map K) = true := by
  unfold sortableB
  rw [Bool.and_eq_true, Bool.or_eq_true]
  refine ⟨?_, .inl ?_⟩
  · rw [List.all_eq_true]
    intro x hx
    rw [List.all_eq_true]
    intro y hy
    obtain ⟨a, ha, rfl⟩ := List.mem_map.mp hx
    obtain ⟨b, hb, rfl⟩ := List.mem_map.mp hy
    exact hal a ha b hb
  · rw [List.all_eq_true]
    intro x hx
    obtain ⟨a, ha, rfl⟩ := List.mem_map.mp hx
    obtain ⟨y, ys, e⟩ := h a ha
    rw [e]
theorem sortKF_map {α : Type} {fk : D → M → Option (D × M)} {m : M} (enc K : α → D) (l : List α) (h : ∀ a ∈ l, fk (enc a) m = some (K a, m)) (h1 : sortableB (l.map K) = true) (h2 : ∀ a ∈ l, (K a).depth ≤ 60) (h3 : l.length ≤ 16777216) :
    sortKF fk (l.map enc) m = some (.val (.list ((l.mergeSort fun a b => PySem.W.dataLe false K a b).map enc)), m) := by
  have e1 : smallAll (l.map K) = true := decide_eq_true (depth_map l h2)
  have e2 : decide ((l.map enc).length ≤ sizeLine) = true := decide_eq_true (by rw [List.length_map, sz]; exact h3)
  unfold sortKF
  rw [kfold_map enc K l h, ob_some]
  simp only [h1, e1, e2, Bool.and_self, if_true, sortKD_map]
theorem alike_ii (a b c d : Int) : PySem.W.alike (.tuple [.int a, .int b]) (.tuple [.int c, .int d]) = true := by simp [PySem.W.alike, PySem.W.alikeAll]
/-- by pairs of ints -/
theorem sortKF_ii {α : Type} {fk : D → M → Option (D × M)} {m : M} (enc : α → D) (x y : α → Int) (l : List α) (h : ∀ a ∈ l, fk (enc a) m = some (.tuple [.int (x a), .int (y a)], m)) (h3 : l.length ≤ 16777216) :
    sortKF fk (l.map enc) m = some (.val (.list ((l.mergeSort fun p q => decide (x p < x q ∨ (x p = x q ∧ y p ≤ y q))).map enc)), m) := by
  have := sortKF_map enc (fun a => .tuple [.int (x a), .int (y a)]) l h (sortable_tup l (fun a _ => ⟨_, _, rfl⟩) fun a _ b _ => alike_ii _ _ _ _) (fun a _ => by show 1 ≤ 60; decide) h3
  rw [this]
  have e := PySem.W.dataLe_ii (β := α) x y
  have e2 : (fun a b => PySem.W.dataLe false (fun a => PyData.tuple [.int (x a), .int (y a)]) a b) = fun p q => decide (x p < x q ∨ (x p = x q ∧ y p ≤ y q)) := e
  rw [e2]
@[simp] theorem ev_sortKR {bs : List Bool} {fb : EF} {fa : AF} {env : Sl} {m : M} : eSortKR bs fb fa env m = (fa env m).bind fun x => (bds x.1).bind fun b => if rgOkB b.1 b.2 = true then sortKF (keyF fb bs env) (rngD b.1 (b.2 - b.1).toNat) x.2 else none := nr rfl
theorem bds1 {n : Nat} : bds [.val (.int (n : Nat))] = some (0, (n : Int)) := nr rfl
theorem rgOk0 {n : Nat} (h : n ≤ 1000000) : rgOkB 0 (n : Int) = true := decide_eq_true ⟨by decide, by decide, by omega, by omega, by omega⟩
/-! natural numbers -/
theorem pmN {a b : Nat} {m : M} (ha : a < 1000000000000000000) (hb : b < 1000000000000000000) : pMul (.val (.int (a : Int))) (.val (.int (b : Int))) m = some (.val (.int ((a * b : Nat) : Int)), m) := by
  rw [pm_ii (by omega) (by omega)]
  push_cast
  rfl
theorem pdN {a b : Nat} {m : M} (h : 0 < b) (hb : b < 1000000000000000000) : pDiv (.val (.int (a : Int))) (.val (.int (b : Int))) m = some (.val (.int ((a / b : Nat) : Int)), m) := by
  rw [pdv_ii (by omega) (by omega)]
  push_cast
  rfl
theorem pmodN {a b : Nat} {m : M} (h : 0 < b) : pMod (.val (.int (a : Int))) (.val (.int (b : Int))) m = some (.val (.int ((a % b : Nat) : Int)), m) := by
  rw [pmd_ii (by omega)]
  push_cast
  rfl
theorem ppN {a b : Nat} {m : M} : pPlus (.val (.int (a : Int))) (.val (.int (b : Int))) m = some (.val (.int ((a + b : Nat) : Int)), m) := by
  rw [pp_ii]
  push_cast
  rfl
theorem pltN {a b : Nat} {m : M} : pLt (.val (.int (a : Int))) (.val (.int (b : Int))) m = some (.val (.bool (decide (a < b))), m) := by
  rw [plt_ii]
  simp
theorem pgtN {a b : Nat} {m : M} : pGt (.val (.int (a : Int))) (.val (.int (b : Int))) m = some (.val (.bool (decide (b < a))), m) := by
  rw [pgt_ii]
  simp
/-- a list of natural numbers in the store, read and written -/
theorem pix_rN {k i a : Nat} {l : List Nat} {m : M} (hm : m[k]? = some (.lst (encI l))) (h : l[i]? = some a) : pIdx (.ref k) (.val (.int (i : Int))) m = some (.val (.int (a : Int)), m) := by
  rw [pix_r hm, at_nat (encI_get h)]
  rfl
theorem pset_rN {k i a : Nat} {l : List Nat} {m : M} (hm : m[k]? = some (.lst (encI l))) (h : i < l.length) : pSet (.ref k) (.val (.int (i : Int))) (.val (.int (a : Int))) m = some (m.set k (.lst (encI (l.set i a)))) := by
  rw [pset_r hm, encI_len, ixN_nat h, ob_some]
  congr 2
  unfold encI
  rw [List.map_set]
theorem getD_some {l : List Nat} {i : Nat} (h : i < l.length) : l[i]? = some (l.getD i 0) := by
  rw [List.getD, List.getElem?_eq_getElem h]
  rfl
theorem psum_rN {k : Nat} {r : List Nat} {m : M} (h : m[k]? = some (.lst (encI r))) : pSum [.ref k] m = some (.val (.int (r.sum : Nat)), m) := by
  show ((asLT (.ref k) m).bind fun ds => (asIs ds).bind fun ns => some (R.val (.int ns.sum), m)) = _
  have e1 : asLT (.ref k) m = some (encI r) := by simp [asLT, asL, h]
  have e2 : asIs (encI r) = some (r.map fun a : Nat => (a : Int)) := asIs_map' r fun a : Nat => (a : Int)
  rw [e1, ob_some, e2, ob_some, sum_cast]
def rp (ds : List D) (r : R) (m : M) : Option (List D × M) := (asI r).bind fun k => if -(2 ^ 63) ≤ k ∧ k < 2 ^ 63 ∧ ds.length * k.toNat ≤ sizeLine then some ((List.replicate k.toNat ds).flatten, m) else none
theorem ev_rep {f : NF} {g : EF} {env : Sl} {m : M} : nRep f g env m = (f env m).bind fun x => (g env x.2).bind fun y => rp x.1 y.1 y.2 := nr rfl
theorem rp_zeros {n : Nat} {m : M} (h : n ≤ 1000) : rp [.int 0] (.val (.int (n : Int))) m = some (encI (List.replicate n 0), m) := by
  unfold rp
  rw [ev_asI, ob_some, if_pos ⟨by omega, by omega, by rw [sz, Int.toNat_natCast]; simp; omega⟩]
  rw [Int.toNat_natCast]
  congr 2
  unfold encI
  rw [List.map_replicate]
  induction n with
  | zero => rfl
  | succ n ih =>
    rw [List.replicate_succ, List.flatten_cons, ih (by omega), List.replicate_succ]
    rfl
end Ev

/-! k34: pieces of a night, in plain Lean -/
namespace Cut
open Qa
def clampQ (y : Rat) : Rat := if 0 < y then (if y < 1 then y else 1) else 0
def Ws : List Nat → Rat → Rat
  | [], _ => 0
  | a :: t, x => (a : Rat) * clampQ x + Ws t (x - 1)
theorem nat_nn (a : Nat) : (0 : Rat) ≤ (a : Rat) := by exact_mod_cast Nat.zero_le a
theorem clamp_mono {x y : Rat} (h : x ≤ y) : clampQ x ≤ clampQ y := by
  unfold clampQ
  split <;> split <;> (try split) <;> (try split) <;> grind
theorem clamp_0 {x : Rat} (h : x ≤ 0) : clampQ x = 0 := by
  unfold clampQ
  split <;> grind
theorem clamp_1 {x : Rat} (h : 1 ≤ x) : clampQ x = 1 := by
  unfold clampQ
  split <;> (try split) <;> grind
theorem clamp_m {x : Rat} (h : 0 ≤ x) (h1 : x ≤ 1) : clampQ x = x := by
  unfold clampQ
  split <;> (try split) <;> grind
theorem Ws_mono : ∀ (t : List Nat) {x y : Rat}, x ≤ y → Ws t x ≤ Ws t y
  | [], _, _, _ => by show (0:Rat) ≤ 0; grind
  | a :: t, x, y, h => by
    have h1 := clamp_mono h
    have h2 := Ws_mono t (show x - 1 ≤ y - 1 by grind)
    have h3 := Rat.mul_le_mul_of_nonneg_left h1 (nat_nn a)
    show (a:Rat) * clampQ x + Ws t (x - 1) ≤ (a:Rat) * clampQ y + Ws t (y - 1)
    grind
theorem Ws_0 : ∀ (t : List Nat) {x : Rat}, x ≤ 0 → Ws t x = 0
  | [], _, _ => rfl
  | a :: t, x, h => by
    have h2 := Ws_0 t (show x - 1 ≤ 0 by grind)
    show (a:Rat) * clampQ x + Ws t (x - 1) = 0
    rw [clamp_0 h, h2]
    grind
theorem Ws_all : ∀ (t : List Nat) {x : Rat}, (t.length : Rat) ≤ x → Ws t x = (t.sum : Nat)
  | [], _, _ => rfl
  | a :: t, x, h => by
    have h0 : ((t.length : Nat) : Rat) + 1 ≤ x := by
      have : (((a :: t).length : Nat) : Rat) = (t.length : Rat) + 1 := by
        rw [List.length_cons]
        push_cast
        rfl
      grind
    have h1 := nat_nn t.length
    have h2 := Ws_all t (show (t.length : Rat) ≤ x - 1 by grind)
    show (a:Rat) * clampQ x + Ws t (x - 1) = ((a :: t).sum : Nat)
    rw [clamp_1 (by grind), h2, List.sum_cons]
    push_cast
    grind
theorem Ws_nn (t : List Nat) (x : Rat) : 0 ≤ Ws t x := by
  by_cases h : x ≤ 0
  · rw [Ws_0 t h]; grind
  · have := Ws_mono t (show (0:Rat) ≤ x by grind)
    rw [Ws_0 t (show (0:Rat) ≤ 0 by grind)] at this
    exact this
theorem Ws_le (t : List Nat) (x : Rat) : Ws t x ≤ (t.sum : Nat) := by
  by_cases h : (t.length : Rat) ≤ x
  · rw [Ws_all t h]; grind
  · have := Ws_mono t (show x ≤ (t.length : Rat) by grind)
    rw [Ws_all t (show (t.length : Rat) ≤ (t.length : Rat) by grind)] at this
    exact this
/-- the law's own way: whole hours, then a part -/
theorem Ws_floor : ∀ (t : List Nat) (w : Nat) {x : Rat}, (w : Rat) ≤ x → x < (w : Rat) + 1 → w ≤ t.length → (w < t.length ∨ x = w) →
    Ws t x = ((t.take w).sum : Nat) + (if 0 < x - w then ((t.getD w 0 : Nat) : Rat) * (x - w) else 0)
  | [], w, x, h1, h2, h3, h4 => by
    have hw : w = 0 := by simpa using h3
    subst hw
    have : x = 0 := by
      rcases h4 with h | h
      · exact absurd h (by simp)
      · simpa using h
    subst this
    show (0:Rat) = _
    rw [if_neg (by simp; grind)]
    simp
    grind
  | a :: t, 0, x, h1, h2, h3, h4 => by
    show (a:Rat) * clampQ x + Ws t (x - 1) = _
    have h1' : (0:Rat) ≤ x := by simpa using h1
    have h2' : x < 1 := by
      have : ((0:Nat):Rat) + 1 = 1 := by simp; grind
      grind
    rw [Ws_0 t (show x - 1 ≤ 0 by grind), clamp_m h1' (by grind)]
    have e0 : ((0:Nat):Rat) = 0 := rfl
    rw [e0]
    by_cases hx : 0 < x - 0
    · rw [if_pos hx]
      simp
      grind
    · rw [if_neg hx]
      have : x = 0 := by grind
      subst this
      simp
  | a :: t, w + 1, x, h1, h2, h3, h4 => by
    have e1 : ((w + 1 : Nat) : Rat) = (w : Rat) + 1 := by push_cast; rfl
    rw [e1] at h1 h2 h4 ⊢
    have ih := Ws_floor t w (x := x - 1) (by grind) (by grind) (by simpa using h3) (by
      rcases h4 with h | h
      · exact .inl (by simpa using h)
      · exact .inr (by grind))
    show (a:Rat) * clampQ x + Ws t (x - 1) = _
    have hw := nat_nn w
    rw [ih, clamp_1 (by grind), List.take_succ_cons, List.sum_cons]
    have e2 : (a :: t).getD (w + 1) 0 = t.getD w 0 := rfl
    have e3 : x - 1 - (w : Rat) = x - ((w : Rat) + 1) := by grind
    rw [e2, e3]
    push_cast
    grind
/-- the time up to which a piece has a worth -/
def Tf : List Nat → Rat → Nat → Rat
  | [], _, h => h
  | a :: t, l, h => if l = 0 then h else if l ≤ a then h + l * (1 / (a : Rat)) else Tf t (l - a) (h + 1)
theorem Tf_spec : ∀ (t : List Nat) {l : Rat} (h : Nat), 0 < l → l ≤ (t.sum : Nat) → (h : Rat) < Tf t l h ∧ Tf t l h ≤ (h : Rat) + t.length ∧ Ws t (Tf t l h - h) = l
  | [], l, h, h1, h2 => by
    have : l ≤ 0 := by simpa using h2
    grind
  | a :: t, l, h, h1, h2 => by
    unfold Tf
    have hl : ¬ l = 0 := by grind
    rw [if_neg hl]
    by_cases ha : l ≤ a
    · rw [if_pos ha]
      have hap : (0:Rat) < a := by grind
      have h3 : 0 < l * (1 / (a:Rat)) := by
        have : l * (1/(a:Rat)) = l / a := by grind
        rw [this, Rat.div_def]
        exact Rat.mul_pos h1 (Rat.inv_pos.mpr hap)
      have h4 : l * (1 / (a:Rat)) ≤ 1 := by
        have e : l * (1/(a:Rat)) = l / a := by grind
        rw [e]
        have h6 := Rat.mul_le_mul_of_nonneg_right ha (Rat.le_of_lt (Rat.inv_pos.mpr hap))
        rw [← Rat.div_def, ← Rat.div_def] at h6
        grind
      have h5 := nat_nn t.length
      have e6 : (((a :: t).length : Nat) : Rat) = (t.length : Rat) + 1 := by
        rw [List.length_cons]
        push_cast
        rfl
      refine ⟨by grind, by grind, ?_⟩
      show (a:Rat) * clampQ _ + Ws t _ = l
      have e7 : (h:Rat) + l * (1/(a:Rat)) - h = l * (1/(a:Rat)) := by grind
      rw [e7, Ws_0 t (by grind), clamp_m (by grind) h4]
      grind
    · rw [if_neg ha]
      have e8 : (((a :: t).sum : Nat) : Rat) = (a : Rat) + (t.sum : Nat) := by
        rw [List.sum_cons]
        push_cast
        rfl
      have ⟨i1, i2, i3⟩ := Tf_spec t (l := l - a) (h + 1) (by grind) (by grind)
      have e1 : ((h + 1 : Nat) : Rat) = (h : Rat) + 1 := by push_cast; rfl
      have e6 : (((a :: t).length : Nat) : Rat) = (t.length : Rat) + 1 := by
        rw [List.length_cons]
        push_cast
        rfl
      rw [e1] at i1 i2 i3
      refine ⟨by grind, by grind, ?_⟩
      show (a:Rat) * clampQ _ + Ws t _ = l
      rw [clamp_1 (by grind), show Tf t (l - ↑a) (h + 1) - ↑h - 1 = Tf t (l - ↑a) (h + 1) - (↑h + 1) by grind, i3]
      grind
end Cut

set_option Elab.async false
set_option linter.all false
set_option maxRecDepth 100000
set_option maxHeartbeats 0
namespace L34
open PySem PySem.Spec PyProof.Rows L2 Ev
def top (i : Nat) : Stmt := PySem.Challenge.pw_allnights_k34_whole_cutting_and_seats.main.body.getD i (.Pass ⟨0, 0, 0, 0⟩)
def fuel : Nat := 1000000
abbrev s__law_cell : Stmt := top 37
abbrev s__law_stream : Stmt := top 38
abbrev s__law_lowest : Stmt := top 41
abbrev s__law_plus : Stmt := top 42
abbrev s__law_times : Stmt := top 43
abbrev s__law_worth : Stmt := top 45
abbrev s__law_more : Stmt := top 44
abbrev s__law_time : Stmt := top 46
abbrev s_is_integer : Stmt := top 5
abbrev s_is_between : Stmt := top 6
abbrev s_check_taste : Stmt := top 21
abbrev s_common_checks : Stmt := top 7
abbrev s_fraction : Stmt := top 9
abbrev s_times : Stmt := top 15
abbrev s_plus : Stmt := top 14
abbrev s_minus : Stmt := top 23
abbrev s_less : Stmt := top 16
abbrev s_time_for : Stmt := top 26
abbrev s_worth_to : Stmt := top 24
abbrev s_from_left : Stmt := top 28
abbrev s__law_draw : Stmt := top 39
abbrev s_common_cycles : Stmt := top 11
abbrev s_check_times : Stmt := top 22
abbrev s_worth_of : Stmt := top 25
abbrev s_cut_and_choose : Stmt := top 27
abbrev s__law_cutting : Stmt := top 47
abbrev s_check_votes_and_seats : Stmt := top 33
abbrev s_greatest_rests : Stmt := top 34
abbrev s__law_divisors : Stmt := top 48
abbrev s_by_divisors : Stmt := top 35
abbrev s__law_seats : Stmt := top 49
abbrev s_law : Stmt := top 50
/-- the code objects of the defs that make lambdas, and their tables -/
structure Cd where
  (c_greatest_rests P_greatest_rests : Addr)
  (c__law_seats P__law_seats : Addr)
def lq (x : Str) : Str := x ++ ".<locals>." ++ "<lambda>"
def zt (C : Cd) : Tbs := [(C.P_greatest_rests, lq "greatest_rests"), (C.P__law_seats, lq "_law_seats")]
def cst (C : Cd) : List (Addr × Addr × Str) := [(C.c_greatest_rests, C.P_greatest_rests, lq "greatest_rests"), (C.c__law_seats, C.P__law_seats, lq "_law_seats")]
structure Tb (base : Heap) (mg : Str → Option Value) (C : Cd) : Prop where
  b_greatest_rests : LamX.TabB base mg C.c_greatest_rests C.P_greatest_rests
  b__law_seats : LamX.TabB base mg C.c__law_seats C.P__law_seats
structure Txt (K : PySem.W.Frag) (mg : Str → Option Value) (C : Cd) : Prop where
  d__law_cell : HasDef K mg "_law_cell" "_law_cell" s__law_cell ["script", "k"]
  d__law_stream : HasDef K mg "_law_stream" "_law_stream" s__law_stream ["script", "k"]
  d__law_lowest : HasDef K mg "_law_lowest" "_law_lowest" s__law_lowest ["n", "d"]
  d__law_plus : HasDef K mg "_law_plus" "_law_plus" s__law_plus ["one", "two"]
  d__law_times : HasDef K mg "_law_times" "_law_times" s__law_times ["one", "two"]
  d__law_worth : HasDef K mg "_law_worth" "_law_worth" s__law_worth ["taste", "time"]
  d__law_more : HasDef K mg "_law_more" "_law_more" s__law_more ["one", "two"]
  d__law_time : HasDef K mg "_law_time" "_law_time" s__law_time ["taste", "first", "worth"]
  d_is_integer : HasDef K mg "is_integer" "is_integer" s_is_integer ["thing"]
  d_is_between : HasDef K mg "is_between" "is_between" s_is_between ["thing", "low", "high"]
  d_check_taste : HasDef K mg "check_taste" "check_taste" s_check_taste ["taste"]
  d_common_checks : HasDef K mg "common_checks" "common" s_common_checks ["one", "other"]
  d_fraction : HasDef K mg "fraction" "fraction" s_fraction ["n", "d"]
  d_times : HasDef K mg "times" "times" s_times ["one", "other"]
  d_plus : HasDef K mg "plus" "plus" s_plus ["one", "other"]
  d_minus : HasDef K mg "minus" "minus" s_minus ["one", "other"]
  d_less : HasDef K mg "less" "less" s_less ["one", "other"]
  d_time_for : HasDef K mg "time_for" "time_for" s_time_for ["taste", "worth"]
  d_worth_to : HasDef K mg "worth_to" "worth_to" s_worth_to ["taste", "time"]
  d_from_left : HasDef K mg "from_left" "from_left" s_from_left ["tastes"]
  d__law_draw : HasDef K mg "_law_draw" "_law_draw" s__law_draw ["box", "many"]
  d_common_cycles : HasDef K mg "common_cycles" "common" s_common_cycles ["one", "other"]
  d_check_times : HasDef K mg "check_times" "check_times" s_check_times ["taste", "first", "last"]
  d_worth_of : HasDef K mg "worth_of" "worth_of" s_worth_of ["taste", "first", "last"]
  d_cut_and_choose : HasDef K mg "cut_and_choose" "cut_and_choose" s_cut_and_choose ["taste", "other"]
  d__law_cutting : HasDef K mg "_law_cutting" "_law_cutting" s__law_cutting ["box"]
  d_check_votes_and_seats : HasDef K mg "check_votes_and_seats" "check_votes_and_seats" s_check_votes_and_seats ["votes", "seats"]
  d_greatest_rests : HasCode K mg "greatest_rests" "greatest_rests" s_greatest_rests ["votes", "seats"] C.c_greatest_rests
  mem_greatest_rests : (C.P_greatest_rests, lq "greatest_rests") ∈ zt C
  uniq_greatest_rests : ∀ p ∈ zt C, p.1 = C.P_greatest_rests → p.2 = lq "greatest_rests"
  d__law_divisors : HasDef K mg "_law_divisors" "_law_divisors" s__law_divisors ["votes", "seats", "step"]
  d_by_divisors : HasDef K mg "by_divisors" "by_divisors" s_by_divisors ["votes", "seats", "step"]
  d__law_seats : HasCode K mg "_law_seats" "_law_seats" s__law_seats ["box"] C.c__law_seats
  mem__law_seats : (C.P__law_seats, lq "_law_seats") ∈ zt C
  uniq__law_seats : ∀ p ∈ zt C, p.1 = C.P__law_seats → p.2 = lq "_law_seats"
  d_law : HasDef K mg "law" "law" s_law ["script"]
  c_MOST_HOURS : ∃ t, mg "MOST_HOURS" = some (.int 10 t)
  c_MOST_HOUSES_cutting : ∃ t, mg "MOST_HOUSES_cutting" = some (.int 5 t)
  c_MOST_HOUSES_seats : ∃ t, mg "MOST_HOUSES_seats" = some (.int 8 t)
  c_MOST_SEATS : ∃ t, mg "MOST_SEATS" = some (.int 60 t)
  c_MOST_TASTE : ∃ t, mg "MOST_TASTE" = some (.int 100 t)
  c_MOST_VOTES : ∃ t, mg "MOST_VOTES" = some (.int 1000 t)
  z_abs : mg "abs" = none
  z_all : mg "all" = none
  z_any : mg "any" = none
  z_bool : mg "bool" = none
  z_enumerate : mg "enumerate" = none
  z_int : mg "int" = none
  z_isinstance : mg "isinstance" = none
  z_len : mg "len" = none
  z_list : mg "list" = none
  z_range : mg "range" = none
  z_repr : mg "repr" = none
  z_sorted : mg "sorted" = none
  z_sum : mg "sum" = none
  z_tuple : mg "tuple" = none
section
variable {P : Program} {w : World} {K : PySem.W.Frag} {mg : Str → Option Value} {base : Heap} {C : Cd}
/-! _law_cell(script, k): slots script 0, k 1 -/
def b__law_cell : SF := (sRet (eIf (tOf (eBin pLt (eVar 1) (eAp pLen (aCons (eVar 0) aNil)))) (eAp pInt (aCons (eBin pIdx (eVar 0) (eVar 1)) aNil)) (eC (.int 0))))
def m__law_cell : Fn := bodyF 2 b__law_cell
theorem sc__law_cell : FnScope ["script", "k"] ["script", "k"] (defScope s__law_cell) := ⟨rfl, rfl, rfl, by decide +kernel, rfl, by decide +kernel, by decide +kernel⟩
theorem ok__law_cell (T : Txt K mg C) (B : Tb base mg C) : Okd (zt C) P w K mg base 1 "_law_cell" ["script", "k"] m__law_cell := by
  refine okd (k := 0) T.d__law_cell sc__law_cell rfl fun f cdv A outer s H E hgd hr => ?_
  exact (z_one (s_ret (x_if (y_cmp o_lt (x_var (pv 1)) (x_callB c_len rfl T.z_len bt_len (x_cons (x_var (pv 0)) x_nil)) (nomark _)) (x_callTy c_int rfl T.z_int bt_int (x_cons (x_ix (x_var (pv 0)) (x_var (pv 1))) x_nil)) x_int)))
/-! _law_stream(script, k): slots script 0, k 1 -/
def b__law_stream : SF := (sRet (eNew (nLst (aCons (eAp pAbs (aCons (eAp m__law_cell (aCons (eVar 0) (aCons (eVar 1) aNil))) aNil)) (aCons (eBin pPlus (eBin pMod (eAp pAbs (aCons (eAp m__law_cell (aCons (eVar 0) (aCons (eVar 1) aNil))) aNil)) (eC (.int 1000003))) (eC (.int 7))) aNil)))))
def m__law_stream : Fn := bodyK 2 b__law_stream
theorem sc__law_stream : FnScope ["script", "k"] ["script", "k"] (defScope s__law_stream) := ⟨rfl, rfl, rfl, by decide +kernel, rfl, by decide +kernel, by decide +kernel⟩
theorem ok__law_stream (T : Txt K mg C) (B : Tb base mg C) : Okd (zt C) P w K mg base 2 "_law_stream" ["script", "k"] m__law_stream := by
  refine okdK (k := 1) T.d__law_stream sc__law_stream rfl fun f cdv A outer s H E hgd hr => ?_
  exact (z_one (s_ret (x_new (n_lst (x_cons (x_callB c_abs rfl T.z_abs bt_abs (x_cons (x_callO (ok__law_cell T B) (hr.mono (by decide)) hgd rfl (x_cons (x_var (pv 0)) (x_cons (x_var (pv 1)) x_nil)) (la_cons (la_cons la_nil))) x_nil)) (x_cons (x_bin o_plus (x_bin o_mod (x_callB c_abs rfl T.z_abs bt_abs (x_cons (x_callO (ok__law_cell T B) (hr.mono (by decide)) hgd rfl (x_cons (x_var (pv 0)) (x_cons (x_var (pv 1)) x_nil)) (la_cons (la_cons la_nil))) x_nil)) x_int) x_int) x_nil))))))
/-! _law_lowest(n, d): slots n 0, d 1, a 2, b 3 -/
def w__law_lowest1 : SF := (sPar 2 3 (aCons (eVar 3) (aCons (eBin pMod (eVar 2) (eVar 3)) aNil)))
def c__law_lowest2 : TF := (tOf (eBin pGt (eVar 3) (eC (.int 0))))
def b__law_lowest : SF := (sSeq (sPar 2 3 (aCons (eAp pAbs (aCons (eVar 0) aNil)) (aCons (eAp pAbs (aCons (eVar 1) aNil)) aNil))) (sSeq (wloop c__law_lowest2 w__law_lowest1 fuel) (sSeq (sAsg (eIf (tOf (eBin pGt (eVar 1) (eC (.int 0)))) (eVar 2) (eBin pSub (eC (.int 0)) (eVar 2))) (gNm 2)) (sRet (eAp pTup (aCons (eBin pDiv (eVar 0) (eVar 2)) (aCons (eBin pDiv (eVar 1) (eVar 2)) aNil)))))))
def m__law_lowest : Fn := bodyF 4 b__law_lowest
theorem sc__law_lowest : FnScope ["n", "d", "a", "b"] ["n", "d"] (defScope s__law_lowest) := ⟨rfl, rfl, rfl, by decide +kernel, rfl, by decide +kernel, by decide +kernel⟩
theorem ok__law_lowest (T : Txt K mg C) (B : Tb base mg C) : Okd (zt C) P w K mg base 1 "_law_lowest" ["n", "d"] m__law_lowest := by
  refine okd (k := 0) T.d__law_lowest sc__law_lowest rfl fun f cdv A outer s H E hgd hr => ?_
  exact (z_cons (s_par (i := 2) (j := 3) rfl sc__law_lowest.nd rfl rfl (by decide) rfl rfl (x_cons (x_callB c_abs rfl T.z_abs bt_abs (x_cons (x_var (pv 0)) x_nil)) (x_cons (x_callB c_abs rfl T.z_abs bt_abs (x_cons (x_var (pv 1)) x_nil)) x_nil)) rfl)
    (z_cons (s_while (n := fuel) PassesOwn.never (y_cmp o_gt (x_var (pv 3)) x_int (nomark _))
      (z_one (s_par (i := 2) (j := 3) rfl sc__law_lowest.nd rfl rfl (by decide) rfl rfl (x_cons (x_var (pv 3)) (x_cons (x_bin o_mod (x_var (pv 2)) (x_var (pv 3))) x_nil)) rfl)))
    (z_cons (s_set (i := 2) sc__law_lowest.nd rfl (.inl rfl) (x_if (y_cmp o_gt (x_var (pv 1)) x_int (nomark _)) (x_var (pv 2)) (x_bin o_sub x_int (x_var (pv 2)))))
    (z_one (s_ret (x_tup (x_cons (x_bin o_div (x_var (pv 0)) (x_var (pv 2))) (x_cons (x_bin o_div (x_var (pv 1)) (x_var (pv 2))) x_nil))))))))
/-! _law_plus(one, two): slots one 0, two 1 -/
def b__law_plus : SF := (sRet (eAp m__law_lowest (aCons (eBin pPlus (eBin pMul (eBin pIdx (eVar 0) (eC (.int 0))) (eBin pIdx (eVar 1) (eC (.int 1)))) (eBin pMul (eBin pIdx (eVar 1) (eC (.int 0))) (eBin pIdx (eVar 0) (eC (.int 1))))) (aCons (eBin pMul (eBin pIdx (eVar 0) (eC (.int 1))) (eBin pIdx (eVar 1) (eC (.int 1)))) aNil))))
def m__law_plus : Fn := bodyF 2 b__law_plus
theorem sc__law_plus : FnScope ["one", "two"] ["one", "two"] (defScope s__law_plus) := ⟨rfl, rfl, rfl, by decide +kernel, rfl, by decide +kernel, by decide +kernel⟩
theorem ok__law_plus (T : Txt K mg C) (B : Tb base mg C) : Okd (zt C) P w K mg base 2 "_law_plus" ["one", "two"] m__law_plus := by
  refine okd (k := 1) T.d__law_plus sc__law_plus rfl fun f cdv A outer s H E hgd hr => ?_
  exact (z_one (s_ret (x_callO (ok__law_lowest T B) (hr.mono (by decide)) hgd rfl (x_cons (x_bin o_plus (x_bin o_mul (x_ix (x_var (pv 0)) x_int) (x_ix (x_var (pv 1)) x_int)) (x_bin o_mul (x_ix (x_var (pv 1)) x_int) (x_ix (x_var (pv 0)) x_int))) (x_cons (x_bin o_mul (x_ix (x_var (pv 0)) x_int) (x_ix (x_var (pv 1)) x_int)) x_nil)) (la_cons (la_cons la_nil)))))
/-! _law_times(one, two): slots one 0, two 1 -/
def b__law_times : SF := (sRet (eAp m__law_lowest (aCons (eBin pMul (eBin pIdx (eVar 0) (eC (.int 0))) (eBin pIdx (eVar 1) (eC (.int 0)))) (aCons (eBin pMul (eBin pIdx (eVar 0) (eC (.int 1))) (eBin pIdx (eVar 1) (eC (.int 1)))) aNil))))
def m__law_times : Fn := bodyF 2 b__law_times
theorem sc__law_times : FnScope ["one", "two"] ["one", "two"] (defScope s__law_times) := ⟨rfl, rfl, rfl, by decide +kernel, rfl, by decide +kernel, by decide +kernel⟩
theorem ok__law_times (T : Txt K mg C) (B : Tb base mg C) : Okd (zt C) P w K mg base 2 "_law_times" ["one", "two"] m__law_times := by
  refine okd (k := 1) T.d__law_times sc__law_times rfl fun f cdv A outer s H E hgd hr => ?_
  exact (z_one (s_ret (x_callO (ok__law_lowest T B) (hr.mono (by decide)) hgd rfl (x_cons (x_bin o_mul (x_ix (x_var (pv 0)) x_int) (x_ix (x_var (pv 1)) x_int)) (x_cons (x_bin o_mul (x_ix (x_var (pv 0)) x_int) (x_ix (x_var (pv 1)) x_int)) x_nil)) (la_cons (la_cons la_nil)))))
/-! _law_worth(taste, time): slots taste 0, time 1, whole 2, part 3, total 4 -/
def b__law_worth : SF := (sSeq (sPar 2 3 (aCons (eBin pDiv (eBin pIdx (eVar 1) (eC (.int 0))) (eBin pIdx (eVar 1) (eC (.int 1)))) (aCons (eAp m__law_lowest (aCons (eBin pMod (eBin pIdx (eVar 1) (eC (.int 0))) (eBin pIdx (eVar 1) (eC (.int 1)))) (aCons (eBin pIdx (eVar 1) (eC (.int 1))) aNil))) aNil))) (sSeq (sAsg (eAp pTup (aCons (eAp pSum (aCons (eSl (eVar 0) oNone (oSome (eVar 2))) aNil)) (aCons (eC (.int 1)) aNil))) (gNm 4)) (sSeq (sIf (tOf (eBin pGt (eBin pIdx (eVar 3) (eC (.int 0))) (eC (.int 0)))) (sAsg (eAp m__law_plus (aCons (eVar 4) (aCons (eAp m__law_times (aCons (eAp pTup (aCons (eBin pIdx (eVar 0) (eVar 2)) (aCons (eC (.int 1)) aNil))) (aCons (eVar 3) aNil))) aNil))) (gNm 4)) sNext) (sRet (eAp m__law_times (aCons (eVar 4) (aCons (eAp pTup (aCons (eC (.int 1)) (aCons (eAp pSum (aCons (eVar 0) aNil)) aNil))) aNil)))))))
def m__law_worth : Fn := bodyF 5 b__law_worth
theorem sc__law_worth : FnScope ["taste", "time", "whole", "part", "total"] ["taste", "time"] (defScope s__law_worth) := ⟨rfl, rfl, rfl, by decide +kernel, rfl, by decide +kernel, by decide +kernel⟩
theorem ok__law_worth (T : Txt K mg C) (B : Tb base mg C) : Okd (zt C) P w K mg base 3 "_law_worth" ["taste", "time"] m__law_worth := by
  refine okd (k := 2) T.d__law_worth sc__law_worth rfl fun f cdv A outer s H E hgd hr => ?_
  exact (z_cons (s_par (i := 2) (j := 3) rfl sc__law_worth.nd rfl rfl (by decide) rfl rfl (x_cons (x_bin o_div (x_ix (x_var (pv 1)) x_int) (x_ix (x_var (pv 1)) x_int)) (x_cons (x_callO (ok__law_lowest T B) (hr.mono (by decide)) hgd rfl (x_cons (x_bin o_mod (x_ix (x_var (pv 1)) x_int) (x_ix (x_var (pv 1)) x_int)) (x_cons (x_ix (x_var (pv 1)) x_int) x_nil)) (la_cons (la_cons la_nil))) x_nil)) rfl)
    (z_cons (s_set (i := 4) sc__law_worth.nd rfl (.inl rfl) (x_tup (x_cons (x_callB (c_sum rfl) rfl T.z_sum bt_sum (x_cons (x_sl (x_var (pv 0)) po_n (po_s (x_var (pv 2)))) x_nil)) (x_cons x_int x_nil))))
    (z_cons (s_if (y_cmp o_gt (x_ix (x_var (pv 3)) x_int) x_int (nomark _)) (z_one (s_set (i := 4) sc__law_worth.nd rfl (.inl rfl) (x_callO (ok__law_plus T B) (hr.mono (by decide)) hgd rfl (x_cons (x_var (pv 4)) (x_cons (x_callO (ok__law_times T B) (hr.mono (by decide)) hgd rfl (x_cons (x_tup (x_cons (x_ix (x_var (pv 0)) (x_var (pv 2))) (x_cons x_int x_nil))) (x_cons (x_var (pv 3)) x_nil)) (la_cons (la_cons la_nil))) x_nil)) (la_cons (la_cons la_nil))))) z_nil)
    (z_one (s_ret (x_callO (ok__law_times T B) (hr.mono (by decide)) hgd rfl (x_cons (x_var (pv 4)) (x_cons (x_tup (x_cons x_int (x_cons (x_callB (c_sum rfl) rfl T.z_sum bt_sum (x_cons (x_var (pv 0)) x_nil)) x_nil))) x_nil)) (la_cons (la_cons la_nil))))))))
/-! _law_more(one, two): slots one 0, two 1 -/
def b__law_more : SF := (sRet (eBin pGt (eBin pMul (eBin pIdx (eVar 0) (eC (.int 0))) (eBin pIdx (eVar 1) (eC (.int 1)))) (eBin pMul (eBin pIdx (eVar 1) (eC (.int 0))) (eBin pIdx (eVar 0) (eC (.int 1))))))
def m__law_more : Fn := bodyF 2 b__law_more
theorem sc__law_more : FnScope ["one", "two"] ["one", "two"] (defScope s__law_more) := ⟨rfl, rfl, rfl, by decide +kernel, rfl, by decide +kernel, by decide +kernel⟩
theorem ok__law_more (T : Txt K mg C) (B : Tb base mg C) : Okd (zt C) P w K mg base 1 "_law_more" ["one", "two"] m__law_more := by
  refine okd (k := 0) T.d__law_more sc__law_more rfl fun f cdv A outer s H E hgd hr => ?_
  exact (z_one (s_ret (x_cmp o_gt (x_bin o_mul (x_ix (x_var (pv 0)) x_int) (x_ix (x_var (pv 1)) x_int)) (x_bin o_mul (x_ix (x_var (pv 1)) x_int) (x_ix (x_var (pv 0)) x_int)) (nomark _))))
/-! _law_time(taste, first, worth): slots taste 0, first 1, worth 2, due 3, before 4, hour 5, after 6, found 7, rest 8 -/
def l__law_time1 : SF := (sSeq (sAsg (eAp m__law_plus (aCons (eVar 4) (aCons (eAp m__law_lowest (aCons (eBin pIdx (eVar 0) (eVar 5)) (aCons (eAp pSum (aCons (eVar 0) aNil)) aNil))) aNil))) (gNm 6)) (sSeq (sIf (tNotF (tOf (eAp m__law_more (aCons (eVar 3) (aCons (eVar 6) aNil))))) (sSeq (sIf (tOf (eBin pEq (eBin pIdx (eVar 0) (eVar 5)) (eC (.int 0)))) (sAsg (eAp pTup (aCons (eVar 5) (aCons (eC (.int 1)) aNil))) (gNm 7)) (sSeq (sAsg (eAp m__law_plus (aCons (eVar 3) (aCons (eAp pTup (aCons (eBin pSub (eC (.int 0)) (eBin pIdx (eVar 4) (eC (.int 0)))) (aCons (eBin pIdx (eVar 4) (eC (.int 1))) aNil))) aNil))) (gNm 8)) (sAsg (eAp m__law_plus (aCons (eAp pTup (aCons (eVar 5) (aCons (eC (.int 1)) aNil))) (aCons (eAp m__law_times (aCons (eVar 8) (aCons (eAp m__law_lowest (aCons (eAp pSum (aCons (eVar 0) aNil)) (aCons (eBin pIdx (eVar 0) (eVar 5)) aNil))) aNil))) aNil))) (gNm 7)))) (sRet (eIf (tOf (eAp m__law_more (aCons (eVar 1) (aCons (eVar 7) aNil)))) (eVar 1) (eVar 7)))) sNext) (sAsg (eVar 6) (gNm 4))))
def b__law_time : SF := (sSeq (sAsg (eAp m__law_plus (aCons (eAp m__law_worth (aCons (eVar 0) (aCons (eVar 1) aNil))) (aCons (eVar 2) aNil))) (gNm 3)) (sSeq (sAsg (eAp pTup (aCons (eC (.int 0)) (aCons (eC (.int 1)) aNil))) (gNm 4)) (sSeq (sFor (itRng1 (aCons (eAp pLen (aCons (eVar 0) aNil)) aNil)) (gNm 5) l__law_time1) (sRet (eC .none)))))
def m__law_time : Fn := bodyF 9 b__law_time
theorem sc__law_time : FnScope ["taste", "first", "worth", "due", "before", "hour", "after", "found", "rest"] ["taste", "first", "worth"] (defScope s__law_time) := ⟨rfl, rfl, rfl, by decide +kernel, rfl, by decide +kernel, by decide +kernel⟩
theorem ok__law_time (T : Txt K mg C) (B : Tb base mg C) : Okd (zt C) P w K mg base 4 "_law_time" ["taste", "first", "worth"] m__law_time := by
  refine okd (k := 3) T.d__law_time sc__law_time rfl fun f cdv A outer s H E hgd hr => ?_
  exact (z_cons (s_set (i := 3) sc__law_time.nd rfl (.inl rfl) (x_callO (ok__law_plus T B) (hr.mono (by decide)) hgd rfl (x_cons (x_callO (ok__law_worth T B) (hr.mono (by decide)) hgd rfl (x_cons (x_var (pv 0)) (x_cons (x_var (pv 1)) x_nil)) (la_cons (la_cons la_nil))) (x_cons (x_var (pv 2)) x_nil)) (la_cons (la_cons la_nil))))
    (z_cons (s_set (i := 4) sc__law_time.nd rfl (.inl rfl) (x_tup (x_cons x_int (x_cons x_int x_nil))))
    (z_cons (s_for PassesOwn.never rfl (i_range1 rfl T.z_range (x_cons (x_callB c_len rfl T.z_len bt_len (x_cons (x_var (pv 0)) x_nil)) x_nil)) (g_name (i := 5) sc__law_time.nd rfl (.inl rfl))
      (z_cons (s_set (i := 6) sc__law_time.nd rfl (.inl rfl) (x_callO (ok__law_plus T B) (hr.mono (by decide)) hgd rfl (x_cons (x_var (pv 4)) (x_cons (x_callO (ok__law_lowest T B) (hr.mono (by decide)) hgd rfl (x_cons (x_ix (x_var (pv 0)) (x_var (pv 5))) (x_cons (x_callB (c_sum rfl) rfl T.z_sum bt_sum (x_cons (x_var (pv 0)) x_nil)) x_nil)) (la_cons (la_cons la_nil))) x_nil)) (la_cons (la_cons la_nil))))
      (z_cons (s_if (y_not (y_val (x_callO (ok__law_more T B) (hr.mono (by decide)) hgd rfl (x_cons (x_var (pv 3)) (x_cons (x_var (pv 6)) x_nil)) (la_cons (la_cons la_nil))))) (z_cons (s_if (y_cmp (o_eq hr) (x_ix (x_var (pv 0)) (x_var (pv 5))) x_int (nomark _)) (z_one (s_set (i := 7) sc__law_time.nd rfl (.inl rfl) (x_tup (x_cons (x_var (pv 5)) (x_cons x_int x_nil))))) (z_cons (s_set (i := 8) sc__law_time.nd rfl (.inl rfl) (x_callO (ok__law_plus T B) (hr.mono (by decide)) hgd rfl (x_cons (x_var (pv 3)) (x_cons (x_tup (x_cons (x_bin o_sub x_int (x_ix (x_var (pv 4)) x_int)) (x_cons (x_ix (x_var (pv 4)) x_int) x_nil))) x_nil)) (la_cons (la_cons la_nil))))
          (z_one (s_set (i := 7) sc__law_time.nd rfl (.inl rfl) (x_callO (ok__law_plus T B) (hr.mono (by decide)) hgd rfl (x_cons (x_tup (x_cons (x_var (pv 5)) (x_cons x_int x_nil))) (x_cons (x_callO (ok__law_times T B) (hr.mono (by decide)) hgd rfl (x_cons (x_var (pv 8)) (x_cons (x_callO (ok__law_lowest T B) (hr.mono (by decide)) hgd rfl (x_cons (x_callB (c_sum rfl) rfl T.z_sum bt_sum (x_cons (x_var (pv 0)) x_nil)) (x_cons (x_ix (x_var (pv 0)) (x_var (pv 5))) x_nil)) (la_cons (la_cons la_nil))) x_nil)) (la_cons (la_cons la_nil))) x_nil)) (la_cons (la_cons la_nil)))))))
        (z_one (s_ret (x_if (y_val (x_callO (ok__law_more T B) (hr.mono (by decide)) hgd rfl (x_cons (x_var (pv 1)) (x_cons (x_var (pv 7)) x_nil)) (la_cons (la_cons la_nil)))) (x_var (pv 1)) (x_var (pv 7)))))) z_nil)
      (z_one (s_set (i := 4) sc__law_time.nd rfl (.inl rfl) (x_var (pv 6)))))))
    (z_one (s_ret x_non)))))
/-! is_integer(thing): slots thing 0 -/
def b_is_integer : SF := (sRet (eOf (tAndF (tOf (eIsA .int (eVar 0))) (tNotF (tOf (eIsA .bool (eVar 0)))))))
def m_is_integer : Fn := bodyF 1 b_is_integer
theorem sc_is_integer : FnScope ["thing"] ["thing"] (defScope s_is_integer) := ⟨rfl, rfl, rfl, by decide +kernel, rfl, by decide +kernel, by decide +kernel⟩
theorem ok_is_integer (T : Txt K mg C) (B : Tb base mg C) : Okd (zt C) P w K mg base 1 "is_integer" ["thing"] m_is_integer := by
  refine okd (k := 0) T.d_is_integer sc_is_integer rfl fun f cdv A outer s H E hgd hr => ?_
  exact (z_one (s_ret (x_and (x_eOf (x_isa .int rfl (x_var (pv 0)) rfl T.z_isinstance rfl T.z_int bt_int)) (x_and1 (x_not (x_eOf (x_isa .bool rfl (x_var (pv 0)) rfl T.z_isinstance rfl T.z_bool bt_bool)))))))
/-! is_between(thing, low, high): slots thing 0, low 1, high 2 -/
def b_is_between : SF := (sRet (eOf (tAndF (tOf (eAp m_is_integer (aCons (eVar 0) aNil))) (tOf (eChain pLe pLe (eVar 1) (eVar 0) (eVar 2))))))
def m_is_between : Fn := bodyF 3 b_is_between
theorem sc_is_between : FnScope ["thing", "low", "high"] ["thing", "low", "high"] (defScope s_is_between) := ⟨rfl, rfl, rfl, by decide +kernel, rfl, by decide +kernel, by decide +kernel⟩
theorem ok_is_between (T : Txt K mg C) (B : Tb base mg C) : Okd (zt C) P w K mg base 2 "is_between" ["thing", "low", "high"] m_is_between := by
  refine okd (k := 1) T.d_is_between sc_is_between rfl fun f cdv A outer s H E hgd hr => ?_
  exact (z_one (s_ret (x_and (x_eOf (x_callO (ok_is_integer T B) (hr.mono (by decide)) hgd rfl (x_cons (x_var (pv 0)) x_nil) (la_cons la_nil))) (x_and1 (x_eOf (x_chain o_le o_le (x_var (pv 1)) (x_var (pv 0)) (x_var (pv 2))))))))
/-! check_taste(taste): slots taste 0, number 1 -/
def e_check_taste1 : EF := (eAp m_is_between (aCons (eVar 1) (aCons (eC (.int 0)) (aCons (eC (.int 100)) aNil))))
def b_check_taste : SF := (sSeq (sIf (tOrF (tNotF (tOf (eIsA .tuple (eVar 0)))) (tNotF (tOf (eChain pLe pLe (eC (.int 1)) (eAp pLen (aCons (eVar 0) aNil)) (eC (.int 10)))))) sNever sNext) (sIf (tOrF (tNotF (tOf (eAp pAll (aCons (eL (nComp (itAny (eVar 0)) (.nm 1) [1] tTrue e_check_taste1)) aNil)))) (tOf (eBin pEq (eAp pSum (aCons (eVar 0) aNil)) (eC (.int 0))))) sNever sNext))
def m_check_taste : Fn := bodyF 2 b_check_taste
theorem sc_check_taste : FnScope ["taste", "number"] ["taste"] (defScope s_check_taste) := ⟨rfl, rfl, rfl, by decide +kernel, rfl, by decide +kernel, by decide +kernel⟩
theorem ok_check_taste (T : Txt K mg C) (B : Tb base mg C) : Okd (zt C) P w K mg base 3 "check_taste" ["taste"] m_check_taste := by
  refine okd (k := 2) T.d_check_taste sc_check_taste rfl fun f cdv A outer s H E hgd hr => ?_
  exact (z_cons (s_if (PW.pt (w_or (y_not (y_val (x_isa .tuple rfl (x_var (pv 0)) rfl T.z_isinstance rfl T.z_tuple bt_tuple))) (w_or1 (y_not (y_chain o_le o_le x_int (x_callB c_len rfl T.z_len bt_len (x_cons (x_var (pv 0)) x_nil)) (x_globI rfl T.c_MOST_HOURS)))))) (z_one s_never) z_nil)
    (z_one (s_if (PW.pt (w_or (y_not (y_val (x_callB (c_all rfl) rfl T.z_all bt_all (x_cons (x_ofN (n_comp (own := [("number", 1)]) rfl sc_check_taste.nd (i_any (x_var (pv 0))) (blkOk_by (N := ["taste", "number"]) (sc := defScope s_check_taste) (by decide +kernel)) rfl (fun _ _ _ _ _ => (p_name (i := 1) sc_check_taste.nd rfl (.inl rfl))) (fun _ _ _ _ _ => ts_nil) (fun _ _ _ _ _ => (x_callO (ok_is_between T B) (hr.mono (by decide)) hgd rfl (x_cons (x_var (pv 1)) (x_cons x_int (x_cons (x_globI rfl T.c_MOST_TASTE) x_nil))) (la_cons (la_cons (la_cons la_nil))))))) x_nil)))) (w_or1 (y_cmp (o_eq hr) (x_callB (c_sum rfl) rfl T.z_sum bt_sum (x_cons (x_var (pv 0)) x_nil)) x_int (nomark _))))) (z_one s_never) z_nil)))
/-! common_checks(one, other): slots one 0, other 1 -/
def w_common_checks1 : SF := (sPar 0 1 (aCons (eVar 1) (aCons (eBin pMod (eVar 0) (eVar 1)) aNil)))
def c_common_checks2 : TF := (tOf (eBin pGt (eVar 1) (eC (.int 0))))
def b_common_checks : SF := (sSeq (wloop c_common_checks2 w_common_checks1 fuel) (sRet (eVar 0)))
def m_common_checks : Fn := bodyF 2 b_common_checks
theorem sc_common_checks : FnScope ["one", "other"] ["one", "other"] (defScope s_common_checks) := ⟨rfl, rfl, rfl, by decide +kernel, rfl, by decide +kernel, by decide +kernel⟩
theorem ok_common_checks (T : Txt K mg C) (B : Tb base mg C) : Okd (zt C) P w K mg base 1 "common_checks" ["one", "other"] m_common_checks := by
  refine okd (k := 0) T.d_common_checks sc_common_checks rfl fun f cdv A outer s H E hgd hr => ?_
  exact (z_cons (s_while (n := fuel) PassesOwn.never (y_cmp o_gt (x_var (pv 1)) x_int (nomark _))
      (z_one (s_par (i := 0) (j := 1) rfl sc_common_checks.nd rfl rfl (by decide) rfl rfl (x_cons (x_var (pv 1)) (x_cons (x_bin o_mod (x_var (pv 0)) (x_var (pv 1))) x_nil)) rfl)))
    (z_one (s_ret (x_var (pv 0)))))
/-! fraction(n, d): slots n 0, d 1, both 2 -/
def b_fraction : SF := (sSeq (sAsg (eAp m_common_checks (aCons (eVar 0) (aCons (eVar 1) aNil))) (gNm 2)) (sRet (eAp pTup (aCons (eBin pDiv (eVar 0) (eVar 2)) (aCons (eBin pDiv (eVar 1) (eVar 2)) aNil)))))
def m_fraction : Fn := bodyF 3 b_fraction
theorem sc_fraction : FnScope ["n", "d", "both"] ["n", "d"] (defScope s_fraction) := ⟨rfl, rfl, rfl, by decide +kernel, rfl, by decide +kernel, by decide +kernel⟩
theorem ok_fraction (T : Txt K mg C) (B : Tb base mg C) : Okd (zt C) P w K mg base 2 "fraction" ["n", "d"] m_fraction := by
  refine okd (k := 1) T.d_fraction sc_fraction rfl fun f cdv A outer s H E hgd hr => ?_
  exact (z_cons (s_set (i := 2) sc_fraction.nd rfl (.inl rfl) (x_callO (ok_common_checks T B) (hr.mono (by decide)) hgd rfl (x_cons (x_var (pv 0)) (x_cons (x_var (pv 1)) x_nil)) (la_cons (la_cons la_nil))))
    (z_one (s_ret (x_tup (x_cons (x_bin o_div (x_var (pv 0)) (x_var (pv 2))) (x_cons (x_bin o_div (x_var (pv 1)) (x_var (pv 2))) x_nil))))))
/-! times(one, other): slots one 0, other 1 -/
def b_times : SF := (sRet (eAp m_fraction (aCons (eBin pMul (eBin pIdx (eVar 0) (eC (.int 0))) (eBin pIdx (eVar 1) (eC (.int 0)))) (aCons (eBin pMul (eBin pIdx (eVar 0) (eC (.int 1))) (eBin pIdx (eVar 1) (eC (.int 1)))) aNil))))
def m_times : Fn := bodyF 2 b_times
theorem sc_times : FnScope ["one", "other"] ["one", "other"] (defScope s_times) := ⟨rfl, rfl, rfl, by decide +kernel, rfl, by decide +kernel, by decide +kernel⟩
theorem ok_times (T : Txt K mg C) (B : Tb base mg C) : Okd (zt C) P w K mg base 3 "times" ["one", "other"] m_times := by
  refine okd (k := 2) T.d_times sc_times rfl fun f cdv A outer s H E hgd hr => ?_
  exact (z_one (s_ret (x_callO (ok_fraction T B) (hr.mono (by decide)) hgd rfl (x_cons (x_bin o_mul (x_ix (x_var (pv 0)) x_int) (x_ix (x_var (pv 1)) x_int)) (x_cons (x_bin o_mul (x_ix (x_var (pv 0)) x_int) (x_ix (x_var (pv 1)) x_int)) x_nil)) (la_cons (la_cons la_nil)))))
/-! plus(one, other): slots one 0, other 1 -/
def b_plus : SF := (sRet (eAp m_fraction (aCons (eBin pPlus (eBin pMul (eBin pIdx (eVar 0) (eC (.int 0))) (eBin pIdx (eVar 1) (eC (.int 1)))) (eBin pMul (eBin pIdx (eVar 1) (eC (.int 0))) (eBin pIdx (eVar 0) (eC (.int 1))))) (aCons (eBin pMul (eBin pIdx (eVar 0) (eC (.int 1))) (eBin pIdx (eVar 1) (eC (.int 1)))) aNil))))
def m_plus : Fn := bodyF 2 b_plus
theorem sc_plus : FnScope ["one", "other"] ["one", "other"] (defScope s_plus) := ⟨rfl, rfl, rfl, by decide +kernel, rfl, by decide +kernel, by decide +kernel⟩
theorem ok_plus (T : Txt K mg C) (B : Tb base mg C) : Okd (zt C) P w K mg base 3 "plus" ["one", "other"] m_plus := by
  refine okd (k := 2) T.d_plus sc_plus rfl fun f cdv A outer s H E hgd hr => ?_
  exact (z_one (s_ret (x_callO (ok_fraction T B) (hr.mono (by decide)) hgd rfl (x_cons (x_bin o_plus (x_bin o_mul (x_ix (x_var (pv 0)) x_int) (x_ix (x_var (pv 1)) x_int)) (x_bin o_mul (x_ix (x_var (pv 1)) x_int) (x_ix (x_var (pv 0)) x_int))) (x_cons (x_bin o_mul (x_ix (x_var (pv 0)) x_int) (x_ix (x_var (pv 1)) x_int)) x_nil)) (la_cons (la_cons la_nil)))))
/-! minus(one, other): slots one 0, other 1 -/
def b_minus : SF := (sRet (eAp m_plus (aCons (eVar 0) (aCons (eAp pTup (aCons (eUn pNeg (eBin pIdx (eVar 1) (eC (.int 0)))) (aCons (eBin pIdx (eVar 1) (eC (.int 1))) aNil))) aNil))))
def m_minus : Fn := bodyF 2 b_minus
theorem sc_minus : FnScope ["one", "other"] ["one", "other"] (defScope s_minus) := ⟨rfl, rfl, rfl, by decide +kernel, rfl, by decide +kernel, by decide +kernel⟩
theorem ok_minus (T : Txt K mg C) (B : Tb base mg C) : Okd (zt C) P w K mg base 4 "minus" ["one", "other"] m_minus := by
  refine okd (k := 3) T.d_minus sc_minus rfl fun f cdv A outer s H E hgd hr => ?_
  exact (z_one (s_ret (x_callO (ok_plus T B) (hr.mono (by decide)) hgd rfl (x_cons (x_var (pv 0)) (x_cons (x_tup (x_cons (x_un u_neg (x_ix (x_var (pv 1)) x_int)) (x_cons (x_ix (x_var (pv 1)) x_int) x_nil))) x_nil)) (la_cons (la_cons la_nil)))))
/-! less(one, other): slots one 0, other 1 -/
def b_less : SF := (sRet (eBin pLt (eBin pMul (eBin pIdx (eVar 0) (eC (.int 0))) (eBin pIdx (eVar 1) (eC (.int 1)))) (eBin pMul (eBin pIdx (eVar 1) (eC (.int 0))) (eBin pIdx (eVar 0) (eC (.int 1))))))
def m_less : Fn := bodyF 2 b_less
theorem sc_less : FnScope ["one", "other"] ["one", "other"] (defScope s_less) := ⟨rfl, rfl, rfl, by decide +kernel, rfl, by decide +kernel, by decide +kernel⟩
theorem ok_less (T : Txt K mg C) (B : Tb base mg C) : Okd (zt C) P w K mg base 1 "less" ["one", "other"] m_less := by
  refine okd (k := 0) T.d_less sc_less rfl fun f cdv A outer s H E hgd hr => ?_
  exact (z_one (s_ret (x_cmp o_lt (x_bin o_mul (x_ix (x_var (pv 0)) x_int) (x_ix (x_var (pv 1)) x_int)) (x_bin o_mul (x_ix (x_var (pv 1)) x_int) (x_ix (x_var (pv 0)) x_int)) (nomark _))))
/-! time_for(taste, worth): slots taste 0, worth 1, left 2, hour 3, number 4 -/
def l_time_for1 : SF := (sSeq (sIf (tOf (eBin pEq (eBin pIdx (eVar 2) (eC (.int 0))) (eC (.int 0)))) (sRet (eAp pTup (aCons (eVar 3) (aCons (eC (.int 1)) aNil)))) sNext) (sSeq (sIf (tNotF (tOf (eAp m_less (aCons (eAp pTup (aCons (eVar 4) (aCons (eC (.int 1)) aNil))) (aCons (eVar 2) aNil))))) (sRet (eAp m_plus (aCons (eAp pTup (aCons (eVar 3) (aCons (eC (.int 1)) aNil))) (aCons (eAp m_times (aCons (eVar 2) (aCons (eAp pTup (aCons (eC (.int 1)) (aCons (eVar 4) aNil))) aNil))) aNil)))) sNext) (sAsg (eAp m_minus (aCons (eVar 2) (aCons (eAp pTup (aCons (eVar 4) (aCons (eC (.int 1)) aNil))) aNil))) (gNm 2))))
def b_time_for : SF := (sSeq (sAsg (eAp m_times (aCons (eVar 1) (aCons (eAp pTup (aCons (eAp pSum (aCons (eVar 0) aNil)) (aCons (eC (.int 1)) aNil))) aNil))) (gNm 2)) (sSeq (sFor (itEnum (aCons (eVar 0) aNil)) (gP (.tp (.cons (.nm 3) (.cons (.nm 4) .nil)))) l_time_for1) (sRet (eAp pTup (aCons (eAp pLen (aCons (eVar 0) aNil)) (aCons (eC (.int 1)) aNil))))))
def m_time_for : Fn := bodyF 5 b_time_for
theorem sc_time_for : FnScope ["taste", "worth", "left", "hour", "number"] ["taste", "worth"] (defScope s_time_for) := ⟨rfl, rfl, rfl, by decide +kernel, rfl, by decide +kernel, by decide +kernel⟩
theorem ok_time_for (T : Txt K mg C) (B : Tb base mg C) : Okd (zt C) P w K mg base 5 "time_for" ["taste", "worth"] m_time_for := by
  refine okd (k := 4) T.d_time_for sc_time_for rfl fun f cdv A outer s H E hgd hr => ?_
  exact (z_cons (s_set (i := 2) sc_time_for.nd rfl (.inl rfl) (x_callO (ok_times T B) (hr.mono (by decide)) hgd rfl (x_cons (x_var (pv 1)) (x_cons (x_tup (x_cons (x_callB (c_sum rfl) rfl T.z_sum bt_sum (x_cons (x_var (pv 0)) x_nil)) (x_cons x_int x_nil))) x_nil)) (la_cons (la_cons la_nil))))
    (z_cons (s_for PassesOwn.never rfl (i_enum rfl T.z_enumerate (x_cons (x_var (pv 0)) x_nil)) (gp_ok (p_tup rfl (p_cons (p_name (i := 3) sc_time_for.nd rfl (.inl rfl)) (p_cons (p_name (i := 4) sc_time_for.nd rfl (.inl rfl)) p_nil))) ⟨[3, 4], by decide⟩)
      (z_cons (s_if (y_cmp (o_eq hr) (x_ix (x_var (pv 2)) x_int) x_int (nomark _)) (z_one (s_ret (x_tup (x_cons (x_var (pv 3)) (x_cons x_int x_nil))))) z_nil)
      (z_cons (s_if (y_not (y_val (x_callO (ok_less T B) (hr.mono (by decide)) hgd rfl (x_cons (x_tup (x_cons (x_var (pv 4)) (x_cons x_int x_nil))) (x_cons (x_var (pv 2)) x_nil)) (la_cons (la_cons la_nil))))) (z_one (s_ret (x_callO (ok_plus T B) (hr.mono (by decide)) hgd rfl (x_cons (x_tup (x_cons (x_var (pv 3)) (x_cons x_int x_nil))) (x_cons (x_callO (ok_times T B) (hr.mono (by decide)) hgd rfl (x_cons (x_var (pv 2)) (x_cons (x_tup (x_cons x_int (x_cons (x_var (pv 4)) x_nil))) x_nil)) (la_cons (la_cons la_nil))) x_nil)) (la_cons (la_cons la_nil))))) z_nil)
      (z_one (s_set (i := 2) sc_time_for.nd rfl (.inl rfl) (x_callO (ok_minus T B) (hr.mono (by decide)) hgd rfl (x_cons (x_var (pv 2)) (x_cons (x_tup (x_cons (x_var (pv 4)) (x_cons x_int x_nil))) x_nil)) (la_cons (la_cons la_nil))))))))
    (z_one (s_ret (x_tup (x_cons (x_callB c_len rfl T.z_len bt_len (x_cons (x_var (pv 0)) x_nil)) (x_cons x_int x_nil)))))))
/-! worth_to(taste, time): slots taste 0, time 1, total 2, hour 3, number 4, part 5 -/
def l_worth_to1 : SF := (sSeq (sAsg (eAp m_minus (aCons (eVar 1) (aCons (eAp pTup (aCons (eVar 3) (aCons (eC (.int 1)) aNil))) aNil))) (gNm 5)) (sIf (tOf (eBin pGt (eBin pIdx (eVar 5) (eC (.int 0))) (eC (.int 0)))) (sAsg (eAp m_plus (aCons (eVar 2) (aCons (eAp m_times (aCons (eAp pTup (aCons (eVar 4) (aCons (eC (.int 1)) aNil))) (aCons (eIf (tOf (eAp m_less (aCons (eVar 5) (aCons (eAp pTup (aCons (eC (.int 1)) (aCons (eC (.int 1)) aNil))) aNil)))) (eVar 5) (eAp pTup (aCons (eC (.int 1)) (aCons (eC (.int 1)) aNil)))) aNil))) aNil))) (gNm 2)) sNext))
def b_worth_to : SF := (sSeq (sAsg (eAp pTup (aCons (eC (.int 0)) (aCons (eC (.int 1)) aNil))) (gNm 2)) (sSeq (sFor (itEnum (aCons (eVar 0) aNil)) (gP (.tp (.cons (.nm 3) (.cons (.nm 4) .nil)))) l_worth_to1) (sRet (eAp m_times (aCons (eVar 2) (aCons (eAp pTup (aCons (eC (.int 1)) (aCons (eAp pSum (aCons (eVar 0) aNil)) aNil))) aNil))))))
def m_worth_to : Fn := bodyF 6 b_worth_to
theorem sc_worth_to : FnScope ["taste", "time", "total", "hour", "number", "part"] ["taste", "time"] (defScope s_worth_to) := ⟨rfl, rfl, rfl, by decide +kernel, rfl, by decide +kernel, by decide +kernel⟩
theorem ok_worth_to (T : Txt K mg C) (B : Tb base mg C) : Okd (zt C) P w K mg base 5 "worth_to" ["taste", "time"] m_worth_to := by
  refine okd (k := 4) T.d_worth_to sc_worth_to rfl fun f cdv A outer s H E hgd hr => ?_
  exact (z_cons (s_set (i := 2) sc_worth_to.nd rfl (.inl rfl) (x_tup (x_cons x_int (x_cons x_int x_nil))))
    (z_cons (s_for PassesOwn.never rfl (i_enum rfl T.z_enumerate (x_cons (x_var (pv 0)) x_nil)) (gp_ok (p_tup rfl (p_cons (p_name (i := 3) sc_worth_to.nd rfl (.inl rfl)) (p_cons (p_name (i := 4) sc_worth_to.nd rfl (.inl rfl)) p_nil))) ⟨[3, 4], by decide⟩)
      (z_cons (s_set (i := 5) sc_worth_to.nd rfl (.inl rfl) (x_callO (ok_minus T B) (hr.mono (by decide)) hgd rfl (x_cons (x_var (pv 1)) (x_cons (x_tup (x_cons (x_var (pv 3)) (x_cons x_int x_nil))) x_nil)) (la_cons (la_cons la_nil))))
      (z_one (s_if (y_cmp o_gt (x_ix (x_var (pv 5)) x_int) x_int (nomark _)) (z_one (s_set (i := 2) sc_worth_to.nd rfl (.inl rfl) (x_callO (ok_plus T B) (hr.mono (by decide)) hgd rfl (x_cons (x_var (pv 2)) (x_cons (x_callO (ok_times T B) (hr.mono (by decide)) hgd rfl (x_cons (x_tup (x_cons (x_var (pv 4)) (x_cons x_int x_nil))) (x_cons (x_if (y_val (x_callO (ok_less T B) (hr.mono (by decide)) hgd rfl (x_cons (x_var (pv 5)) (x_cons (x_tup (x_cons x_int (x_cons x_int x_nil))) x_nil)) (la_cons (la_cons la_nil)))) (x_var (pv 5)) (x_tup (x_cons x_int (x_cons x_int x_nil)))) x_nil)) (la_cons (la_cons la_nil))) x_nil)) (la_cons (la_cons la_nil))))) z_nil))))
    (z_one (s_ret (x_callO (ok_times T B) (hr.mono (by decide)) hgd rfl (x_cons (x_var (pv 2)) (x_cons (x_tup (x_cons x_int (x_cons (x_callB (c_sum rfl) rfl T.z_sum bt_sum (x_cons (x_var (pv 0)) x_nil)) x_nil))) x_nil)) (la_cons (la_cons la_nil)))))))
/-! from_left(tastes): slots tastes 0, taste 1, left 2, time 3, found 4, best 5, house 6, said 7 -/
def l_from_left1 : SF := (sExpr (eAp m_check_taste (aCons (eVar 1) aNil)))
def e_from_left2 : EF := (eBin pNe (eAp pLen (aCons (eVar 1) aNil)) (eAp pLen (aCons (eBin pIdx (eVar 0) (eC (.int 0))) aNil)))
def l_from_left3 : SF := (sSeq (sAsg (eAp m_time_for (aCons (eBin pIdx (eVar 0) (eVar 6)) (aCons (eAp m_plus (aCons (eAp m_worth_to (aCons (eBin pIdx (eVar 0) (eVar 6)) (aCons (eVar 3) aNil))) (aCons (eAp pTup (aCons (eC (.int 1)) (aCons (eAp pLen (aCons (eVar 0) aNil)) aNil))) aNil))) aNil))) (gNm 7)) (sIf (tOrF (tOf (eBin pIsN (eVar 5) (eC .none))) (tOf (eAp m_less (aCons (eVar 7) (aCons (eBin pIdx (eVar 5) (eC (.int 1))) aNil))))) (sAsg (eAp pTup (aCons (eVar 6) (aCons (eVar 7) aNil))) (gNm 5)) sNext))
def w_from_left4 : SF := (sSeq (sAsg (eC .none) (gNm 5)) (sSeq (sFor (itAny (eVar 2)) (gNm 6) l_from_left3) (sSeq (sExpr (eBM pAppend (eVar 4) (aCons (eVar 5) aNil))) (sSeq (sExpr (eBM pRemove (eVar 2) (aCons (eBin pIdx (eVar 5) (eC (.int 0))) aNil))) (sAsg (eBin pIdx (eVar 5) (eC (.int 1))) (gNm 3))))))
def c_from_left5 : TF := (tOf (eBin pGt (eAp pLen (aCons (eVar 2) aNil)) (eC (.int 1))))
def b_from_left : SF := (sSeq (sIf (tOrF (tNotF (tOf (eIsA .tuple (eVar 0)))) (tNotF (tOf (eChain pLe pLe (eC (.int 2)) (eAp pLen (aCons (eVar 0) aNil)) (eC (.int 5)))))) sNever sNext) (sSeq (sFor (itAny (eVar 0)) (gNm 1) l_from_left1) (sSeq (sIf (tOf (eAp pAny (aCons (eL (nComp (itAny (eVar 0)) (.nm 1) [1] tTrue e_from_left2)) aNil))) sNever sNext) (sSeq (sPar3 2 3 4 (aCons (eNew (nRg1 (eAp pLen (aCons (eVar 0) aNil)))) (aCons (eAp pTup (aCons (eC (.int 0)) (aCons (eC (.int 1)) aNil))) (aCons (eNew (nLst aNil)) aNil)))) (sSeq (wloop c_from_left5 w_from_left4 fuel) (sRet (eBin pPlus (eAp pTupleOf (aCons (eVar 4) aNil)) (eAp pTup (aCons (eAp pTup (aCons (eBin pIdx (eVar 2) (eC (.int 0))) (aCons (eAp pTup (aCons (eAp pLen (aCons (eBin pIdx (eVar 0) (eC (.int 0))) aNil)) (aCons (eC (.int 1)) aNil))) aNil))) aNil)))))))))
def m_from_left : Fn := bodyF 8 b_from_left
theorem sc_from_left : FnScope ["tastes", "taste", "left", "time", "found", "best", "house", "said"] ["tastes"] (defScope s_from_left) := ⟨rfl, rfl, rfl, by decide +kernel, rfl, by decide +kernel, by decide +kernel⟩
theorem ok_from_left (T : Txt K mg C) (B : Tb base mg C) : Okd (zt C) P w K mg base 6 "from_left" ["tastes"] m_from_left := by
  refine okd (k := 5) T.d_from_left sc_from_left rfl fun f cdv A outer s H E hgd hr => ?_
  exact (z_cons (s_if (PW.pt (w_or (y_not (y_val (x_isa .tuple rfl (x_var (pv 0)) rfl T.z_isinstance rfl T.z_tuple bt_tuple))) (w_or1 (y_not (y_chain o_le o_le x_int (x_callB c_len rfl T.z_len bt_len (x_cons (x_var (pv 0)) x_nil)) (x_globI rfl T.c_MOST_HOUSES_cutting)))))) (z_one s_never) z_nil)
    (z_cons (s_for PassesOwn.never rfl (i_any (x_var (pv 0))) (g_name (i := 1) sc_from_left.nd rfl (.inl rfl))
      (z_one (s_expr (x_callO (ok_check_taste T B) (hr.mono (by decide)) hgd rfl (x_cons (x_var (pv 1)) x_nil) (la_cons la_nil)))))
    (z_cons (s_if (y_val (x_callB (c_any rfl) rfl T.z_any bt_any (x_cons (x_ofN (n_comp (own := [("taste", 1)]) rfl sc_from_left.nd (i_any (x_var (pv 0))) (blkOk_by (N := ["tastes", "taste", "left", "time", "found", "best", "house", "said"]) (sc := defScope s_from_left) (by decide +kernel)) rfl (fun _ _ _ _ _ => (p_name (i := 1) sc_from_left.nd rfl (.inl rfl))) (fun _ _ _ _ _ => ts_nil) (fun _ _ _ _ _ => (x_cmp (o_ne hr) (x_callB c_len rfl T.z_len bt_len (x_cons (x_var (pv 1)) x_nil)) (x_callB c_len rfl T.z_len bt_len (x_cons (x_ix (x_var (pv 0)) x_int) x_nil)) (nomark _))))) x_nil))) (z_one s_never) z_nil)
    (z_cons (s_par3 (i := 2) (j := 3) (l := 4) rfl sc_from_left.nd rfl rfl rfl (by decide) (by decide) (by decide) rfl rfl rfl (x_cons (x_new (n_listRg1 rfl rfl T.z_list rfl T.z_range (x_callB c_len rfl T.z_len bt_len (x_cons (x_var (pv 0)) x_nil)))) (x_cons (x_tup (x_cons x_int (x_cons x_int x_nil))) (x_cons (x_new (n_lst x_nil)) x_nil))) rfl)
    (z_cons (s_while (n := fuel) PassesOwn.never (y_cmp o_gt (x_callB c_len rfl T.z_len bt_len (x_cons (x_var (pv 2)) x_nil)) x_int (nomark _))
      (z_cons (s_set (i := 5) sc_from_left.nd rfl (.inl rfl) x_non)
      (z_cons (s_for PassesOwn.never rfl (i_any (x_var (pv 2))) (g_name (i := 6) sc_from_left.nd rfl (.inl rfl))
        (z_cons (s_set (i := 7) sc_from_left.nd rfl (.inl rfl) (x_callO (ok_time_for T B) (hr.mono (by decide)) hgd rfl (x_cons (x_ix (x_var (pv 0)) (x_var (pv 6))) (x_cons (x_callO (ok_plus T B) (hr.mono (by decide)) hgd rfl (x_cons (x_callO (ok_worth_to T B) (hr.mono (by decide)) hgd rfl (x_cons (x_ix (x_var (pv 0)) (x_var (pv 6))) (x_cons (x_var (pv 3)) x_nil)) (la_cons (la_cons la_nil))) (x_cons (x_tup (x_cons x_int (x_cons (x_callB c_len rfl T.z_len bt_len (x_cons (x_var (pv 0)) x_nil)) x_nil))) x_nil)) (la_cons (la_cons la_nil))) x_nil)) (la_cons (la_cons la_nil))))
        (z_one (s_if (PW.pt (w_or (y_cmp o_isN (x_var (pv 5)) x_non (nomark _)) (w_or1 (y_val (x_callO (ok_less T B) (hr.mono (by decide)) hgd rfl (x_cons (x_var (pv 7)) (x_cons (x_ix (x_var (pv 5)) x_int) x_nil)) (la_cons (la_cons la_nil))))))) (z_one (s_set (i := 5) sc_from_left.nd rfl (.inl rfl) (x_tup (x_cons (x_var (pv 6)) (x_cons (x_var (pv 7)) x_nil))))) z_nil))))
      (z_cons (s_expr (x_bm PySem.F.slot_list_append PySem.F.type_list_append m_append (x_var (pv 4)) (x_cons (x_var (pv 5)) x_nil)))
      (z_cons (s_expr (x_bm PySem.F.slot_list_remove PySem.F.type_list_remove m_remove (x_var (pv 2)) (x_cons (x_ix (x_var (pv 5)) x_int) x_nil)))
      (z_one (s_set (i := 3) sc_from_left.nd rfl (.inl rfl) (x_ix (x_var (pv 5)) x_int))))))))
    (z_one (s_ret (x_bin o_plus (x_callTy c_tuple rfl T.z_tuple bt_tuple (x_cons (x_var (pv 4)) x_nil)) (x_tup (x_cons (x_tup (x_cons (x_ix (x_var (pv 2)) x_int) (x_cons (x_tup (x_cons (x_callB c_len rfl T.z_len bt_len (x_cons (x_ix (x_var (pv 0)) x_int) x_nil)) (x_cons x_int x_nil))) x_nil))) x_nil))))))))))
/-! _law_draw(box, many): slots box 0, many 1, told 2 -/
def b__law_draw : SF := (sSeq (sIf (tOf (eBin pGt (eBin pIdx (eVar 0) (eC (.int 0))) (eC (.int 0)))) (sSeq (sAsg (eBin pMod (eBin pIdx (eVar 0) (eC (.int 0))) (eVar 1)) (gNm 2)) (sSeq (sAsg (eBin pDiv (eBin pIdx (eVar 0) (eC (.int 0))) (eVar 1)) (gSubF pSet (eVar 0) (eC (.int 0)))) (sRet (eAp pInt (aCons (eVar 2) aNil))))) sNext) (sSeq (sAsg (eBin pMod (eAp pInt (aCons (eBin pPlus (eBin pMul (eBin pIdx (eVar 0) (eC (.int 1))) (eC (.int 48271))) (eC (.int 12345))) aNil)) (eC (.int 2147483647))) (gSubF pSet (eVar 0) (eC (.int 1)))) (sRet (eBin pMod (eAp pInt (aCons (eBin pDiv (eBin pIdx (eVar 0) (eC (.int 1))) (eC (.int 64))) aNil)) (eVar 1)))))
def m__law_draw : Fn := bodyF 3 b__law_draw
theorem sc__law_draw : FnScope ["box", "many", "told"] ["box", "many"] (defScope s__law_draw) := ⟨rfl, rfl, rfl, by decide +kernel, rfl, by decide +kernel, by decide +kernel⟩
theorem ok__law_draw (T : Txt K mg C) (B : Tb base mg C) : Okd (zt C) P w K mg base 1 "_law_draw" ["box", "many"] m__law_draw := by
  refine okd (k := 0) T.d__law_draw sc__law_draw rfl fun f cdv A outer s H E hgd hr => ?_
  exact (z_cons (s_if (y_cmp o_gt (x_ix (x_var (pv 0)) x_int) x_int (nomark _)) (z_cons (s_set (i := 2) sc__law_draw.nd rfl (.inl rfl) (x_bin o_mod (x_ix (x_var (pv 0)) x_int) (x_var (pv 1))))
      (z_cons (s_asg (x_bin o_div (x_ix (x_var (pv 0)) x_int) (x_var (pv 1))) (g_sub (x_var (pv 0)) x_int set_ok))
      (z_one (s_ret (x_callTy c_int rfl T.z_int bt_int (x_cons (x_var (pv 2)) x_nil)))))) z_nil)
    (z_cons (s_asg (x_bin o_mod (x_callTy c_int rfl T.z_int bt_int (x_cons (x_bin o_plus (x_bin o_mul (x_ix (x_var (pv 0)) x_int) x_int) x_int) x_nil)) x_int) (g_sub (x_var (pv 0)) x_int set_ok))
    (z_one (s_ret (x_bin o_mod (x_callTy c_int rfl T.z_int bt_int (x_cons (x_bin o_div (x_ix (x_var (pv 0)) x_int) x_int) x_nil)) (x_var (pv 1)))))))
/-! common_cycles(one, other): slots one 0, other 1 -/
def w_common_cycles1 : SF := (sPar 0 1 (aCons (eVar 1) (aCons (eBin pMod (eVar 0) (eVar 1)) aNil)))
def c_common_cycles2 : TF := (tOf (eBin pGt (eVar 1) (eC (.int 0))))
def b_common_cycles : SF := (sSeq (wloop c_common_cycles2 w_common_cycles1 fuel) (sRet (eVar 0)))
def m_common_cycles : Fn := bodyF 2 b_common_cycles
theorem sc_common_cycles : FnScope ["one", "other"] ["one", "other"] (defScope s_common_cycles) := ⟨rfl, rfl, rfl, by decide +kernel, rfl, by decide +kernel, by decide +kernel⟩
theorem ok_common_cycles (T : Txt K mg C) (B : Tb base mg C) : Okd (zt C) P w K mg base 1 "common_cycles" ["one", "other"] m_common_cycles := by
  refine okd (k := 0) T.d_common_cycles sc_common_cycles rfl fun f cdv A outer s H E hgd hr => ?_
  exact (z_cons (s_while (n := fuel) PassesOwn.never (y_cmp o_gt (x_var (pv 1)) x_int (nomark _))
      (z_one (s_par (i := 0) (j := 1) rfl sc_common_cycles.nd rfl rfl (by decide) rfl rfl (x_cons (x_var (pv 1)) (x_cons (x_bin o_mod (x_var (pv 0)) (x_var (pv 1))) x_nil)) rfl)))
    (z_one (s_ret (x_var (pv 0)))))
/-! check_times(taste, first, last): slots taste 0, first 1, last 2, time 3, number 4 -/
def e_check_times1 : EF := (eAp m_is_integer (aCons (eVar 4) aNil))
def l_check_times2 : SF := (sSeq (sIf (tOrF (tNotF (tOf (eIsA .tuple (eVar 3)))) (tOrF (tOf (eBin pNe (eAp pLen (aCons (eVar 3) aNil)) (eC (.int 2)))) (tNotF (tOf (eAp pAll (aCons (eL (nComp (itAny (eVar 3)) (.nm 4) [4] tTrue e_check_times1)) aNil)))))) sNever sNext) (sIf (tOrF (tOf (eBin pLt (eBin pIdx (eVar 3) (eC (.int 1))) (eC (.int 1)))) (tOrF (tOf (eBin pLt (eBin pIdx (eVar 3) (eC (.int 0))) (eC (.int 0)))) (tOrF (tOf (eBin pGt (eBin pIdx (eVar 3) (eC (.int 0))) (eBin pMul (eAp pLen (aCons (eVar 0) aNil)) (eBin pIdx (eVar 3) (eC (.int 1)))))) (tOf (eBin pNe (eAp m_common_cycles (aCons (eBin pIdx (eVar 3) (eC (.int 0))) (aCons (eBin pIdx (eVar 3) (eC (.int 1))) aNil))) (eC (.int 1))))))) sNever sNext))
def b_check_times : SF := (sSeq (sFor (itAny (eAp pTup (aCons (eVar 1) (aCons (eVar 2) aNil)))) (gNm 3) l_check_times2) (sIf (tOf (eAp m_less (aCons (eVar 2) (aCons (eVar 1) aNil)))) sNever sNext))
def m_check_times : Fn := bodyF 5 b_check_times
theorem sc_check_times : FnScope ["taste", "first", "last", "time", "number"] ["taste", "first", "last"] (defScope s_check_times) := ⟨rfl, rfl, rfl, by decide +kernel, rfl, by decide +kernel, by decide +kernel⟩
theorem ok_check_times (T : Txt K mg C) (B : Tb base mg C) : Okd (zt C) P w K mg base 2 "check_times" ["taste", "first", "last"] m_check_times := by
  refine okd (k := 1) T.d_check_times sc_check_times rfl fun f cdv A outer s H E hgd hr => ?_
  exact (z_cons (s_for PassesOwn.never rfl (i_any (x_tup (x_cons (x_var (pv 1)) (x_cons (x_var (pv 2)) x_nil)))) (g_name (i := 3) sc_check_times.nd rfl (.inl rfl))
      (z_cons (s_if (PW.pt (w_or (y_not (y_val (x_isa .tuple rfl (x_var (pv 3)) rfl T.z_isinstance rfl T.z_tuple bt_tuple))) (w_or (y_cmp (o_ne hr) (x_callB c_len rfl T.z_len bt_len (x_cons (x_var (pv 3)) x_nil)) x_int (nomark _)) (w_or1 (y_not (y_val (x_callB (c_all rfl) rfl T.z_all bt_all (x_cons (x_ofN (n_comp (own := [("number", 4)]) rfl sc_check_times.nd (i_any (x_var (pv 3))) (blkOk_by (N := ["taste", "first", "last", "time", "number"]) (sc := defScope s_check_times) (by decide +kernel)) rfl (fun _ _ _ _ _ => (p_name (i := 4) sc_check_times.nd rfl (.inl rfl))) (fun _ _ _ _ _ => ts_nil) (fun _ _ _ _ _ => (x_callO (ok_is_integer T B) (hr.mono (by decide)) hgd rfl (x_cons (x_var (pv 4)) x_nil) (la_cons la_nil))))) x_nil)))))))) (z_one s_never) z_nil)
      (z_one (s_if (PW.pt (w_or (y_cmp o_lt (x_ix (x_var (pv 3)) x_int) x_int (nomark _)) (w_or (y_cmp o_lt (x_ix (x_var (pv 3)) x_int) x_int (nomark _)) (w_or (y_cmp o_gt (x_ix (x_var (pv 3)) x_int) (x_bin o_mul (x_callB c_len rfl T.z_len bt_len (x_cons (x_var (pv 0)) x_nil)) (x_ix (x_var (pv 3)) x_int)) (nomark _)) (w_or1 (y_cmp (o_ne hr) (x_callO (ok_common_cycles T B) (hr.mono (by decide)) hgd rfl (x_cons (x_ix (x_var (pv 3)) x_int) (x_cons (x_ix (x_var (pv 3)) x_int) x_nil)) (la_cons (la_cons la_nil))) x_int (nomark _))))))) (z_one s_never) z_nil))))
    (z_one (s_if (y_val (x_callO (ok_less T B) (hr.mono (by decide)) hgd rfl (x_cons (x_var (pv 2)) (x_cons (x_var (pv 1)) x_nil)) (la_cons (la_cons la_nil)))) (z_one s_never) z_nil)))
/-! worth_of(taste, first, last): slots taste 0, first 1, last 2 -/
def b_worth_of : SF := (sSeq (sExpr (eAp m_check_taste (aCons (eVar 0) aNil))) (sSeq (sExpr (eAp m_check_times (aCons (eVar 0) (aCons (eVar 1) (aCons (eVar 2) aNil))))) (sRet (eAp m_minus (aCons (eAp m_worth_to (aCons (eVar 0) (aCons (eVar 2) aNil))) (aCons (eAp m_worth_to (aCons (eVar 0) (aCons (eVar 1) aNil))) aNil))))))
def m_worth_of : Fn := bodyF 3 b_worth_of
theorem sc_worth_of : FnScope ["taste", "first", "last"] ["taste", "first", "last"] (defScope s_worth_of) := ⟨rfl, rfl, rfl, by decide +kernel, rfl, by decide +kernel, by decide +kernel⟩
theorem ok_worth_of (T : Txt K mg C) (B : Tb base mg C) : Okd (zt C) P w K mg base 6 "worth_of" ["taste", "first", "last"] m_worth_of := by
  refine okd (k := 5) T.d_worth_of sc_worth_of rfl fun f cdv A outer s H E hgd hr => ?_
  exact (z_cons (s_expr (x_callO (ok_check_taste T B) (hr.mono (by decide)) hgd rfl (x_cons (x_var (pv 0)) x_nil) (la_cons la_nil)))
    (z_cons (s_expr (x_callO (ok_check_times T B) (hr.mono (by decide)) hgd rfl (x_cons (x_var (pv 0)) (x_cons (x_var (pv 1)) (x_cons (x_var (pv 2)) x_nil))) (la_cons (la_cons (la_cons la_nil)))))
    (z_one (s_ret (x_callO (ok_minus T B) (hr.mono (by decide)) hgd rfl (x_cons (x_callO (ok_worth_to T B) (hr.mono (by decide)) hgd rfl (x_cons (x_var (pv 0)) (x_cons (x_var (pv 2)) x_nil)) (la_cons (la_cons la_nil))) (x_cons (x_callO (ok_worth_to T B) (hr.mono (by decide)) hgd rfl (x_cons (x_var (pv 0)) (x_cons (x_var (pv 1)) x_nil)) (la_cons (la_cons la_nil))) x_nil)) (la_cons (la_cons la_nil)))))))
/-! cut_and_choose(taste, other): slots taste 0, other 1, time 2 -/
def b_cut_and_choose : SF := (sSeq (sExpr (eAp m_check_taste (aCons (eVar 0) aNil))) (sSeq (sExpr (eAp m_check_taste (aCons (eVar 1) aNil))) (sSeq (sIf (tOf (eBin pNe (eAp pLen (aCons (eVar 0) aNil)) (eAp pLen (aCons (eVar 1) aNil)))) sNever sNext) (sSeq (sAsg (eAp m_time_for (aCons (eVar 0) (aCons (eAp pTup (aCons (eC (.int 1)) (aCons (eC (.int 2)) aNil))) aNil))) (gNm 2)) (sRet (eAp pTup (aCons (eVar 2) (aCons (eIf (tOf (eAp m_less (aCons (eAp m_worth_to (aCons (eVar 1) (aCons (eVar 2) aNil))) (aCons (eAp pTup (aCons (eC (.int 1)) (aCons (eC (.int 2)) aNil))) aNil)))) (eC (.int 1)) (eC (.int 0))) aNil))))))))
def m_cut_and_choose : Fn := bodyF 3 b_cut_and_choose
theorem sc_cut_and_choose : FnScope ["taste", "other", "time"] ["taste", "other"] (defScope s_cut_and_choose) := ⟨rfl, rfl, rfl, by decide +kernel, rfl, by decide +kernel, by decide +kernel⟩
theorem ok_cut_and_choose (T : Txt K mg C) (B : Tb base mg C) : Okd (zt C) P w K mg base 6 "cut_and_choose" ["taste", "other"] m_cut_and_choose := by
  refine okd (k := 5) T.d_cut_and_choose sc_cut_and_choose rfl fun f cdv A outer s H E hgd hr => ?_
  exact (z_cons (s_expr (x_callO (ok_check_taste T B) (hr.mono (by decide)) hgd rfl (x_cons (x_var (pv 0)) x_nil) (la_cons la_nil)))
    (z_cons (s_expr (x_callO (ok_check_taste T B) (hr.mono (by decide)) hgd rfl (x_cons (x_var (pv 1)) x_nil) (la_cons la_nil)))
    (z_cons (s_if (y_cmp (o_ne hr) (x_callB c_len rfl T.z_len bt_len (x_cons (x_var (pv 0)) x_nil)) (x_callB c_len rfl T.z_len bt_len (x_cons (x_var (pv 1)) x_nil)) (nomark _)) (z_one s_never) z_nil)
    (z_cons (s_set (i := 2) sc_cut_and_choose.nd rfl (.inl rfl) (x_callO (ok_time_for T B) (hr.mono (by decide)) hgd rfl (x_cons (x_var (pv 0)) (x_cons (x_tup (x_cons x_int (x_cons x_int x_nil))) x_nil)) (la_cons (la_cons la_nil))))
    (z_one (s_ret (x_tup (x_cons (x_var (pv 2)) (x_cons (x_if (y_val (x_callO (ok_less T B) (hr.mono (by decide)) hgd rfl (x_cons (x_callO (ok_worth_to T B) (hr.mono (by decide)) hgd rfl (x_cons (x_var (pv 1)) (x_cons (x_var (pv 2)) x_nil)) (la_cons (la_cons la_nil))) (x_cons (x_tup (x_cons x_int (x_cons x_int x_nil))) x_nil)) (la_cons (la_cons la_nil)))) x_int x_int) x_nil)))))))))
/-! _law_cutting(box): slots box 0, hours 1, n 2, tastes 3, i 4, row 5, one 6, two 7, first 8, last 9, high 10, low 11, half 12, piece 13, left 14, at 15, due 16, best 17, time 18, told 19, end 20, a 21, b 22, hour 23 -/
def e__law_cutting1 : EF := (eAp m__law_draw (aCons (eVar 0) (aCons (eC (.int 6)) aNil)))
def l__law_cutting2 : SF := (sSeq (sAsg (eNew (nComp (itRng1 (aCons (eVar 1) aNil)) (.nm 23) [23] tTrue e__law_cutting1)) (gNm 5)) (sSeq (sIf (tOf (eBin pEq (eAp pSum (aCons (eVar 5) aNil)) (eC (.int 0)))) (sAsg (eC (.int 1)) (gSubF pSet (eVar 5) (eAp m__law_draw (aCons (eVar 0) (aCons (eVar 1) aNil))))) sNext) (sExpr (eBM pAppend (eVar 3) (aCons (eAp pTupleOf (aCons (eVar 5) aNil)) aNil)))))
def l__law_cutting3 : SF := (sSeq (sAsg (eAp m__law_time (aCons (eBin pIdx (eVar 3) (eVar 4)) (aCons (eVar 15) (aCons (eAp pTup (aCons (eC (.int 1)) (aCons (eVar 2) aNil))) aNil)))) (gNm 18)) (sIf (tAndF (tOf (eBin pIsnt (eVar 18) (eC .none))) (tOrF (tOf (eBin pIsN (eVar 17) (eC .none))) (tOf (eAp m__law_more (aCons (eBin pIdx (eVar 17) (eC (.int 0))) (aCons (eVar 18) aNil)))))) (sAsg (eAp pTup (aCons (eVar 18) (aCons (eVar 4) aNil))) (gNm 17)) sNext))
def e__law_cutting4 : EF := (eVar 4)
def t__law_cutting5 : TF := (tOf (eBin pNe (eVar 4) (eBin pIdx (eVar 17) (eC (.int 1)))))
def w__law_cutting6 : SF := (sSeq (sAsg (eC .none) (gNm 17)) (sSeq (sFor (itAny (eVar 14)) (gNm 4) l__law_cutting3) (sSeq (sExpr (eBM pAppend (eVar 16) (aCons (eAp pTup (aCons (eBin pIdx (eVar 17) (eC (.int 1))) (aCons (eBin pIdx (eVar 17) (eC (.int 0))) aNil))) aNil))) (sPar 14 15 (aCons (eL (nComp (itAny (eVar 14)) (.nm 4) [4] t__law_cutting5 e__law_cutting4)) (aCons (eBin pIdx (eVar 17) (eC (.int 0))) aNil))))))
def c__law_cutting7 : TF := (tOf (eBin pGt (eAp pLen (aCons (eVar 14) aNil)) (eC (.int 1))))
def l__law_cutting8 : SF := (sSeq (sPar 21 22 (aCons (eAp m__law_worth (aCons (eBin pIdx (eVar 3) (eVar 4)) (aCons (eVar 15) aNil))) (aCons (eAp m__law_worth (aCons (eBin pIdx (eVar 3) (eVar 4)) (aCons (eVar 20) aNil))) aNil))) (sSeq (sIf (tOf (eAp m__law_more (aCons (eAp pTup (aCons (eC (.int 1)) (aCons (eVar 2) aNil))) (aCons (eAp m__law_plus (aCons (eVar 22) (aCons (eAp pTup (aCons (eBin pSub (eC (.int 0)) (eBin pIdx (eVar 21) (eC (.int 0)))) (aCons (eBin pIdx (eVar 21) (eC (.int 1))) aNil))) aNil))) aNil)))) (sRet (eC (.bool false))) sNext) (sAsg (eVar 20) (gNm 15))))
def b__law_cutting : SF := (sSeq (sPar 1 2 (aCons (eBin pPlus (eC (.int 1)) (eAp m__law_draw (aCons (eVar 0) (aCons (eC (.int 5)) aNil)))) (aCons (eBin pPlus (eC (.int 2)) (eAp m__law_draw (aCons (eVar 0) (aCons (eC (.int 3)) aNil)))) aNil))) (sSeq (sAsg (eNew (nLst aNil)) (gNm 3)) (sSeq (sFor (itRng1 (aCons (eVar 2) aNil)) (gNm 4) l__law_cutting2) (sSeq (sAsg (eAp pTupleOf (aCons (eVar 3) aNil)) (gNm 3)) (sSeq (sPar 6 7 (aCons (eAp m__law_lowest (aCons (eAp m__law_draw (aCons (eVar 0) (aCons (eBin pPlus (eBin pMul (eC (.int 3)) (eVar 1)) (eC (.int 1))) aNil))) (aCons (eC (.int 3)) aNil))) (aCons (eAp m__law_lowest (aCons (eAp m__law_draw (aCons (eVar 0) (aCons (eBin pPlus (eBin pMul (eC (.int 3)) (eVar 1)) (eC (.int 1))) aNil))) (aCons (eC (.int 3)) aNil))) aNil))) (sSeq (sAsg (eIf (tOf (eAp m__law_more (aCons (eVar 6) (aCons (eVar 7) aNil)))) (eAp pTup (aCons (eVar 7) (aCons (eVar 6) aNil))) (eAp pTup (aCons (eVar 6) (aCons (eVar 7) aNil)))) (gTp 2 (gsCons (gNm 8) (gsCons (gNm 9) gsNil)))) (sSeq (sPar 10 11 (aCons (eAp m__law_worth (aCons (eBin pIdx (eVar 3) (eC (.int 0))) (aCons (eVar 9) aNil))) (aCons (eAp m__law_worth (aCons (eBin pIdx (eVar 3) (eC (.int 0))) (aCons (eVar 8) aNil))) aNil))) (sSeq (sIf (tOf (eBin pNe (eAp pRepr (aCons (eAp m_worth_of (aCons (eBin pIdx (eVar 3) (eC (.int 0))) (aCons (eVar 8) (aCons (eVar 9) aNil)))) aNil)) (eAp pRepr (aCons (eAp m__law_plus (aCons (eVar 10) (aCons (eAp pTup (aCons (eBin pSub (eC (.int 0)) (eBin pIdx (eVar 11) (eC (.int 0)))) (aCons (eBin pIdx (eVar 11) (eC (.int 1))) aNil))) aNil))) aNil)))) (sRet (eC (.bool false))) sNext) (sSeq (sAsg (eAp m__law_time (aCons (eBin pIdx (eVar 3) (eC (.int 0))) (aCons (eAp pTup (aCons (eC (.int 0)) (aCons (eC (.int 1)) aNil))) (aCons (eAp pTup (aCons (eC (.int 1)) (aCons (eC (.int 2)) aNil))) aNil)))) (gNm 12)) (sSeq (sAsg (eIf (tOf (eAp m__law_more (aCons (eAp pTup (aCons (eC (.int 1)) (aCons (eC (.int 2)) aNil))) (aCons (eAp m__law_worth (aCons (eBin pIdx (eVar 3) (eC (.int 1))) (aCons (eVar 12) aNil))) aNil)))) (eC (.int 1)) (eC (.int 0))) (gNm 13)) (sSeq (sIf (tOf (eBin pNe (eAp pRepr (aCons (eAp m_cut_and_choose (aCons (eBin pIdx (eVar 3) (eC (.int 0))) (aCons (eBin pIdx (eVar 3) (eC (.int 1))) aNil))) aNil)) (eAp pRepr (aCons (eAp pTup (aCons (eVar 12) (aCons (eVar 13) aNil))) aNil)))) (sRet (eC (.bool false))) sNext) (sSeq (sPar3 14 15 16 (aCons (eL (nRg1 (eVar 2))) (aCons (eAp pTup (aCons (eC (.int 0)) (aCons (eC (.int 1)) aNil))) (aCons (eNew (nLst aNil)) aNil)))) (sSeq (wloop c__law_cutting7 w__law_cutting6 fuel) (sSeq (sExpr (eBM pAppend (eVar 16) (aCons (eAp pTup (aCons (eBin pIdx (eVar 14) (eC (.int 0))) (aCons (eAp pTup (aCons (eVar 1) (aCons (eC (.int 1)) aNil))) aNil))) aNil))) (sSeq (sAsg (eAp m_from_left (aCons (eVar 3) aNil)) (gNm 19)) (sSeq (sIf (tOf (eBin pNe (eAp pRepr (aCons (eVar 19) aNil)) (eAp pRepr (aCons (eAp pTupleOf (aCons (eVar 16) aNil)) aNil)))) (sRet (eC (.bool false))) sNext) (sSeq (sAsg (eAp pTup (aCons (eC (.int 0)) (aCons (eC (.int 1)) aNil))) (gNm 15)) (sSeq (sFor (itAny (eVar 19)) (gP (.tp (.cons (.nm 4) (.cons (.nm 20) .nil)))) l__law_cutting8) (sRet (eC (.bool true)))))))))))))))))))))
def m__law_cutting : Fn := bodyF 24 b__law_cutting
theorem sc__law_cutting : FnScope ["box", "hours", "n", "tastes", "i", "row", "one", "two", "first", "last", "high", "low", "half", "piece", "left", "at", "due", "best", "time", "told", "end", "a", "b", "hour"] ["box"] (defScope s__law_cutting) := ⟨rfl, rfl, rfl, by decide +kernel, rfl, by decide +kernel, by decide +kernel⟩
theorem ok__law_cutting (T : Txt K mg C) (B : Tb base mg C) : Okd (zt C) P w K mg base 7 "_law_cutting" ["box"] m__law_cutting := by
  refine okd (k := 6) T.d__law_cutting sc__law_cutting rfl fun f cdv A outer s H E hgd hr => ?_
  exact (z_cons (s_par (i := 1) (j := 2) rfl sc__law_cutting.nd rfl rfl (by decide) rfl rfl (x_cons (x_bin o_plus x_int (x_callO (ok__law_draw T B) (hr.mono (by decide)) hgd rfl (x_cons (x_var (pv 0)) (x_cons x_int x_nil)) (la_cons (la_cons la_nil)))) (x_cons (x_bin o_plus x_int (x_callO (ok__law_draw T B) (hr.mono (by decide)) hgd rfl (x_cons (x_var (pv 0)) (x_cons x_int x_nil)) (la_cons (la_cons la_nil)))) x_nil)) rfl)
    (z_cons (s_set (i := 3) sc__law_cutting.nd rfl (.inl rfl) (x_new (n_lst x_nil)))
    (z_cons (s_for PassesOwn.never rfl (i_range1 rfl T.z_range (x_cons (x_var (pv 2)) x_nil)) (g_name (i := 4) sc__law_cutting.nd rfl (.inl rfl))
      (z_cons (s_setCN (i := 5) (own := [("hour", 23)]) rfl sc__law_cutting.nd rfl rfl (sw_true rfl rfl rfl (by decide +kernel)) (i_range1 rfl T.z_range (x_cons (x_var (pv 1)) x_nil)) (blkOk_by (N := ["box", "hours", "n", "tastes", "i", "row", "one", "two", "first", "last", "high", "low", "half", "piece", "left", "at", "due", "best", "time", "told", "end", "a", "b", "hour"]) (sc := defScope s__law_cutting) (by decide +kernel)) rfl (fun _ _ _ _ _ => (p_name (i := 23) sc__law_cutting.nd rfl (.inl rfl))) (fun _ _ _ _ _ => ts_nil) (fun _ _ _ _ _ => (x_callO (ok__law_draw T B) (hr.mono (by decide)) hgd rfl (x_cons (x_var (pv 0)) (x_cons x_int x_nil)) (la_cons (la_cons la_nil)))))
      (z_cons (s_if (y_cmp (o_eq hr) (x_callB (c_sum rfl) rfl T.z_sum bt_sum (x_cons (x_var (pv 5)) x_nil)) x_int (nomark _)) (z_one (s_asg x_int (g_sub (x_var (pv 5)) (x_callO (ok__law_draw T B) (hr.mono (by decide)) hgd rfl (x_cons (x_var (pv 0)) (x_cons (x_var (pv 1)) x_nil)) (la_cons (la_cons la_nil))) set_ok))) z_nil)
      (z_one (s_expr (x_bm PySem.F.slot_list_append PySem.F.type_list_append m_append (x_var (pv 3)) (x_cons (x_callTy c_tuple rfl T.z_tuple bt_tuple (x_cons (x_var (pv 5)) x_nil)) x_nil)))))))
    (z_cons (s_set (i := 3) sc__law_cutting.nd rfl (.inl rfl) (x_callTy c_tuple rfl T.z_tuple bt_tuple (x_cons (x_var (pv 3)) x_nil)))
    (z_cons (s_par (i := 6) (j := 7) rfl sc__law_cutting.nd rfl rfl (by decide) rfl rfl (x_cons (x_callO (ok__law_lowest T B) (hr.mono (by decide)) hgd rfl (x_cons (x_callO (ok__law_draw T B) (hr.mono (by decide)) hgd rfl (x_cons (x_var (pv 0)) (x_cons (x_bin o_plus (x_bin o_mul x_int (x_var (pv 1))) x_int) x_nil)) (la_cons (la_cons la_nil))) (x_cons x_int x_nil)) (la_cons (la_cons la_nil))) (x_cons (x_callO (ok__law_lowest T B) (hr.mono (by decide)) hgd rfl (x_cons (x_callO (ok__law_draw T B) (hr.mono (by decide)) hgd rfl (x_cons (x_var (pv 0)) (x_cons (x_bin o_plus (x_bin o_mul x_int (x_var (pv 1))) x_int) x_nil)) (la_cons (la_cons la_nil))) (x_cons x_int x_nil)) (la_cons (la_cons la_nil))) x_nil)) rfl)
    (z_cons (s_asg (x_if (y_val (x_callO (ok__law_more T B) (hr.mono (by decide)) hgd rfl (x_cons (x_var (pv 6)) (x_cons (x_var (pv 7)) x_nil)) (la_cons (la_cons la_nil)))) (x_tup (x_cons (x_var (pv 7)) (x_cons (x_var (pv 6)) x_nil))) (x_tup (x_cons (x_var (pv 6)) (x_cons (x_var (pv 7)) x_nil)))) (g_tup rfl (g_cons (g_name (i := 8) sc__law_cutting.nd rfl (.inl rfl)) (g_cons (g_name (i := 9) sc__law_cutting.nd rfl (.inl rfl)) g_nil))))
    (z_cons (s_par (i := 10) (j := 11) rfl sc__law_cutting.nd rfl rfl (by decide) rfl rfl (x_cons (x_callO (ok__law_worth T B) (hr.mono (by decide)) hgd rfl (x_cons (x_ix (x_var (pv 3)) x_int) (x_cons (x_var (pv 9)) x_nil)) (la_cons (la_cons la_nil))) (x_cons (x_callO (ok__law_worth T B) (hr.mono (by decide)) hgd rfl (x_cons (x_ix (x_var (pv 3)) x_int) (x_cons (x_var (pv 8)) x_nil)) (la_cons (la_cons la_nil))) x_nil)) rfl)
    (z_cons (s_if (y_cmp (o_ne hr) (x_callB (c_repr hgd hr) rfl T.z_repr bt_repr (x_cons (x_callO (ok_worth_of T B) (hr.mono (by decide)) hgd rfl (x_cons (x_ix (x_var (pv 3)) x_int) (x_cons (x_var (pv 8)) (x_cons (x_var (pv 9)) x_nil))) (la_cons (la_cons (la_cons la_nil)))) x_nil)) (x_callB (c_repr hgd hr) rfl T.z_repr bt_repr (x_cons (x_callO (ok__law_plus T B) (hr.mono (by decide)) hgd rfl (x_cons (x_var (pv 10)) (x_cons (x_tup (x_cons (x_bin o_sub x_int (x_ix (x_var (pv 11)) x_int)) (x_cons (x_ix (x_var (pv 11)) x_int) x_nil))) x_nil)) (la_cons (la_cons la_nil))) x_nil)) (nomark _)) (z_one (s_ret x_bl)) z_nil)
    (z_cons (s_set (i := 12) sc__law_cutting.nd rfl (.inl rfl) (x_callO (ok__law_time T B) (hr.mono (by decide)) hgd rfl (x_cons (x_ix (x_var (pv 3)) x_int) (x_cons (x_tup (x_cons x_int (x_cons x_int x_nil))) (x_cons (x_tup (x_cons x_int (x_cons x_int x_nil))) x_nil))) (la_cons (la_cons (la_cons la_nil)))))
    (z_cons (s_set (i := 13) sc__law_cutting.nd rfl (.inl rfl) (x_if (y_val (x_callO (ok__law_more T B) (hr.mono (by decide)) hgd rfl (x_cons (x_tup (x_cons x_int (x_cons x_int x_nil))) (x_cons (x_callO (ok__law_worth T B) (hr.mono (by decide)) hgd rfl (x_cons (x_ix (x_var (pv 3)) x_int) (x_cons (x_var (pv 12)) x_nil)) (la_cons (la_cons la_nil))) x_nil)) (la_cons (la_cons la_nil)))) x_int x_int))
    (z_cons (s_if (y_cmp (o_ne hr) (x_callB (c_repr hgd hr) rfl T.z_repr bt_repr (x_cons (x_callO (ok_cut_and_choose T B) (hr.mono (by decide)) hgd rfl (x_cons (x_ix (x_var (pv 3)) x_int) (x_cons (x_ix (x_var (pv 3)) x_int) x_nil)) (la_cons (la_cons la_nil))) x_nil)) (x_callB (c_repr hgd hr) rfl T.z_repr bt_repr (x_cons (x_tup (x_cons (x_var (pv 12)) (x_cons (x_var (pv 13)) x_nil))) x_nil)) (nomark _)) (z_one (s_ret x_bl)) z_nil)
    (z_cons (s_par3 (i := 14) (j := 15) (l := 16) rfl sc__law_cutting.nd rfl rfl rfl (by decide) (by decide) (by decide) rfl rfl rfl (x_cons (x_ofN (n_listRg1 rfl rfl T.z_list rfl T.z_range (x_var (pv 2)))) (x_cons (x_tup (x_cons x_int (x_cons x_int x_nil))) (x_cons (x_new (n_lst x_nil)) x_nil))) rfl)
    (z_cons (s_while (n := fuel) PassesOwn.never (y_cmp o_gt (x_callB c_len rfl T.z_len bt_len (x_cons (x_var (pv 14)) x_nil)) x_int (nomark _))
      (z_cons (s_set (i := 17) sc__law_cutting.nd rfl (.inr rfl) x_non)
      (z_cons (s_for PassesOwn.never rfl (i_any (x_var (pv 14))) (g_name (i := 4) sc__law_cutting.nd rfl (.inl rfl))
        (z_cons (s_set (i := 18) sc__law_cutting.nd rfl (.inl rfl) (x_callO (ok__law_time T B) (hr.mono (by decide)) hgd rfl (x_cons (x_ix (x_var (pv 3)) (x_var (pv 4))) (x_cons (x_var (pv 15)) (x_cons (x_tup (x_cons x_int (x_cons (x_var (pv 2)) x_nil))) x_nil))) (la_cons (la_cons (la_cons la_nil)))))
        (z_one (s_if (PW.pt (w_and (y_cmp o_isnt (x_var (pv 18)) x_non (nomark _)) (w_and1 (PW.pt (w_or (y_cmp o_isN (x_var (pv 17)) x_non (nomark _)) (w_or1 (y_val (x_callO (ok__law_more T B) (hr.mono (by decide)) hgd rfl (x_cons (x_ix (x_var (pv 17)) x_int) (x_cons (x_var (pv 18)) x_nil)) (la_cons (la_cons la_nil)))))))))) (z_one (s_set (i := 17) sc__law_cutting.nd rfl (.inr rfl) (x_tup (x_cons (x_var (pv 18)) (x_cons (x_var (pv 4)) x_nil))))) z_nil))))
      (z_cons (s_expr (x_bm PySem.F.slot_list_append PySem.F.type_list_append m_append (x_var (pv 16)) (x_cons (x_tup (x_cons (x_ix (x_var (pv 17)) x_int) (x_cons (x_ix (x_var (pv 17)) x_int) x_nil))) x_nil)))
      (z_one (s_par (i := 14) (j := 15) rfl sc__law_cutting.nd rfl rfl (by decide) rfl rfl (x_cons (x_ofN (n_comp (own := [("i", 4)]) rfl sc__law_cutting.nd (i_any (x_var (pv 14))) (blkOk_by (N := ["box", "hours", "n", "tastes", "i", "row", "one", "two", "first", "last", "high", "low", "half", "piece", "left", "at", "due", "best", "time", "told", "end", "a", "b", "hour"]) (sc := defScope s__law_cutting) (by decide +kernel)) rfl (fun _ _ _ _ _ => (p_name (i := 4) sc__law_cutting.nd rfl (.inl rfl))) (fun _ _ _ _ _ => (ts_one (y_cmp (o_ne hr) (x_var (pv 4)) (x_ix (x_var (pv 17)) x_int) (nomark _)))) (fun _ _ _ _ _ => (x_var (pv 4))))) (x_cons (x_ix (x_var (pv 17)) x_int) x_nil)) rfl))))))
    (z_cons (s_expr (x_bm PySem.F.slot_list_append PySem.F.type_list_append m_append (x_var (pv 16)) (x_cons (x_tup (x_cons (x_ix (x_var (pv 14)) x_int) (x_cons (x_tup (x_cons (x_var (pv 1)) (x_cons x_int x_nil))) x_nil))) x_nil)))
    (z_cons (s_set (i := 19) sc__law_cutting.nd rfl (.inl rfl) (x_callO (ok_from_left T B) (hr.mono (by decide)) hgd rfl (x_cons (x_var (pv 3)) x_nil) (la_cons la_nil)))
    (z_cons (s_if (y_cmp (o_ne hr) (x_callB (c_repr hgd hr) rfl T.z_repr bt_repr (x_cons (x_var (pv 19)) x_nil)) (x_callB (c_repr hgd hr) rfl T.z_repr bt_repr (x_cons (x_callTy c_tuple rfl T.z_tuple bt_tuple (x_cons (x_var (pv 16)) x_nil)) x_nil)) (nomark _)) (z_one (s_ret x_bl)) z_nil)
    (z_cons (s_set (i := 15) sc__law_cutting.nd rfl (.inl rfl) (x_tup (x_cons x_int (x_cons x_int x_nil))))
    (z_cons (s_for PassesOwn.never rfl (i_any (x_var (pv 19))) (gp_ok (p_tup rfl (p_cons (p_name (i := 4) sc__law_cutting.nd rfl (.inl rfl)) (p_cons (p_name (i := 20) sc__law_cutting.nd rfl (.inl rfl)) p_nil))) ⟨[4, 20], by decide⟩)
      (z_cons (s_par (i := 21) (j := 22) rfl sc__law_cutting.nd rfl rfl (by decide) rfl rfl (x_cons (x_callO (ok__law_worth T B) (hr.mono (by decide)) hgd rfl (x_cons (x_ix (x_var (pv 3)) (x_var (pv 4))) (x_cons (x_var (pv 15)) x_nil)) (la_cons (la_cons la_nil))) (x_cons (x_callO (ok__law_worth T B) (hr.mono (by decide)) hgd rfl (x_cons (x_ix (x_var (pv 3)) (x_var (pv 4))) (x_cons (x_var (pv 20)) x_nil)) (la_cons (la_cons la_nil))) x_nil)) rfl)
      (z_cons (s_if (y_val (x_callO (ok__law_more T B) (hr.mono (by decide)) hgd rfl (x_cons (x_tup (x_cons x_int (x_cons (x_var (pv 2)) x_nil))) (x_cons (x_callO (ok__law_plus T B) (hr.mono (by decide)) hgd rfl (x_cons (x_var (pv 22)) (x_cons (x_tup (x_cons (x_bin o_sub x_int (x_ix (x_var (pv 21)) x_int)) (x_cons (x_ix (x_var (pv 21)) x_int) x_nil))) x_nil)) (la_cons (la_cons la_nil))) x_nil)) (la_cons (la_cons la_nil)))) (z_one (s_ret x_bl)) z_nil)
      (z_one (s_set (i := 15) sc__law_cutting.nd rfl (.inl rfl) (x_var (pv 20)))))))
    (z_one (s_ret x_bl))))))))))))))))))))
/-! check_votes_and_seats(votes, seats): slots votes 0, seats 1, number 2 -/
def e_check_votes_and_seats1 : EF := (eAp m_is_between (aCons (eVar 2) (aCons (eC (.int 1)) (aCons (eC (.int 1000)) aNil))))
def b_check_votes_and_seats : SF := (sSeq (sIf (tOrF (tNotF (tOf (eIsA .tuple (eVar 0)))) (tNotF (tOf (eChain pLe pLe (eC (.int 1)) (eAp pLen (aCons (eVar 0) aNil)) (eC (.int 8)))))) sNever sNext) (sSeq (sIf (tNotF (tOf (eAp pAll (aCons (eL (nComp (itAny (eVar 0)) (.nm 2) [2] tTrue e_check_votes_and_seats1)) aNil)))) sNever sNext) (sIf (tNotF (tOf (eAp m_is_between (aCons (eVar 1) (aCons (eC (.int 0)) (aCons (eC (.int 60)) aNil)))))) sNever sNext)))
def m_check_votes_and_seats : Fn := bodyF 3 b_check_votes_and_seats
theorem sc_check_votes_and_seats : FnScope ["votes", "seats", "number"] ["votes", "seats"] (defScope s_check_votes_and_seats) := ⟨rfl, rfl, rfl, by decide +kernel, rfl, by decide +kernel, by decide +kernel⟩
theorem ok_check_votes_and_seats (T : Txt K mg C) (B : Tb base mg C) : Okd (zt C) P w K mg base 3 "check_votes_and_seats" ["votes", "seats"] m_check_votes_and_seats := by
  refine okd (k := 2) T.d_check_votes_and_seats sc_check_votes_and_seats rfl fun f cdv A outer s H E hgd hr => ?_
  exact (z_cons (s_if (PW.pt (w_or (y_not (y_val (x_isa .tuple rfl (x_var (pv 0)) rfl T.z_isinstance rfl T.z_tuple bt_tuple))) (w_or1 (y_not (y_chain o_le o_le x_int (x_callB c_len rfl T.z_len bt_len (x_cons (x_var (pv 0)) x_nil)) (x_globI rfl T.c_MOST_HOUSES_seats)))))) (z_one s_never) z_nil)
    (z_cons (s_if (y_not (y_val (x_callB (c_all rfl) rfl T.z_all bt_all (x_cons (x_ofN (n_comp (own := [("number", 2)]) rfl sc_check_votes_and_seats.nd (i_any (x_var (pv 0))) (blkOk_by (N := ["votes", "seats", "number"]) (sc := defScope s_check_votes_and_seats) (by decide +kernel)) rfl (fun _ _ _ _ _ => (p_name (i := 2) sc_check_votes_and_seats.nd rfl (.inl rfl))) (fun _ _ _ _ _ => ts_nil) (fun _ _ _ _ _ => (x_callO (ok_is_between T B) (hr.mono (by decide)) hgd rfl (x_cons (x_var (pv 2)) (x_cons x_int (x_cons (x_globI rfl T.c_MOST_VOTES) x_nil))) (la_cons (la_cons (la_cons la_nil))))))) x_nil)))) (z_one s_never) z_nil)
    (z_one (s_if (y_not (y_val (x_callO (ok_is_between T B) (hr.mono (by decide)) hgd rfl (x_cons (x_var (pv 1)) (x_cons x_int (x_cons (x_globI rfl T.c_MOST_SEATS) x_nil))) (la_cons (la_cons (la_cons la_nil)))))) (z_one s_never) z_nil))))
/-! greatest_rests(votes, seats): slots votes 0, seats 1, whole 2, found 3, order 4, house 5, number 6 -/
def e_greatest_rests1 : EF := (eBin pDiv (eBin pMul (eVar 6) (eVar 1)) (eVar 2))
def k_greatest_rests2 : EF := (eAp pTup (aCons (eUn pNeg (eBin pMod (eBin pMul (eBin pIdx (eVar 1) (eVar 0)) (eVar 2)) (eVar 3))) (aCons (eVar 0) aNil)))
def l_greatest_rests3 : SF := (sAugSF pAddI pSet (eVar 3) (eVar 5) (eC (.int 1)))
def b_greatest_rests : SF := (sSeq (sExpr (eAp m_check_votes_and_seats (aCons (eVar 0) (aCons (eVar 1) aNil)))) (sSeq (sAsg (eAp pSum (aCons (eVar 0) aNil)) (gNm 2)) (sSeq (sAsg (eNew (nComp (itAny (eVar 0)) (.nm 6) [6] tTrue e_greatest_rests1)) (gNm 3)) (sSeq (sAsg (eSortKR [false, false, false, false, false, true, false] k_greatest_rests2 (aCons (eAp pLen (aCons (eVar 0) aNil)) aNil)) (gNm 4)) (sSeq (sFor (itAny (eSl (eVar 4) oNone (oSome (eBin pSub (eVar 1) (eAp pSum (aCons (eVar 3) aNil)))))) (gNm 5) l_greatest_rests3) (sRet (eAp pTupleOf (aCons (eVar 3) aNil))))))))
def m_greatest_rests : Fn := bodyF 7 b_greatest_rests
theorem sc_greatest_rests : FnScope ["votes", "seats", "whole", "found", "order", "house", "number"] ["votes", "seats"] (defScope s_greatest_rests) := ⟨rfl, rfl, rfl, by decide +kernel, rfl, by decide +kernel, by decide +kernel⟩
theorem ok_greatest_rests (T : Txt K mg C) (B : Tb base mg C) : Okd (zt C) P w K mg base 8 "greatest_rests" ["votes", "seats"] m_greatest_rests := by
  refine okdC (k := 7) T.d_greatest_rests sc_greatest_rests rfl fun f A outer s H E hgd hr => ?_
  exact (z_cons (s_expr (x_callO (ok_check_votes_and_seats T B) (hr.mono (by decide)) hgd rfl (x_cons (x_var (pv 0)) (x_cons (x_var (pv 1)) x_nil)) (la_cons (la_cons la_nil))))
    (z_cons (s_set (i := 2) sc_greatest_rests.nd rfl (.inr rfl) (x_callB (c_sum rfl) rfl T.z_sum bt_sum (x_cons (x_var (pv 0)) x_nil)))
    (z_cons (s_setCN (i := 3) (own := [("number", 6)]) rfl sc_greatest_rests.nd rfl rfl (sw_true rfl rfl rfl (by decide +kernel)) (i_any (x_var (pv 0))) (blkOk_by (N := ["votes", "seats", "whole", "found", "order", "house", "number"]) (sc := defScope s_greatest_rests) (by decide +kernel)) rfl (fun _ _ _ _ _ => (p_name (i := 6) sc_greatest_rests.nd rfl (.inl rfl))) (fun _ _ _ _ _ => ts_nil) (fun _ _ _ _ _ => (x_bin o_div (x_bin o_mul (x_var (pv 6)) (x_var (pv 1))) (x_var (pv 2)))))
    (z_cons (s_set (i := 4) sc_greatest_rests.nd rfl (.inl rfl) (x_sortKR (k := 4) (bs := [false, false, false, false, false, true, false]) (fb := k_greatest_rests2) (p := "house") (c := C.c_greatest_rests) (P := C.P_greatest_rests) ⟨B.b_greatest_rests, rfl, T.mem_greatest_rests, T.uniq_greatest_rests, lamP_by (by kernel_rfl), rfl, fun _ _ _ _ _ _ => rfl, (msk_ok (N := ["votes", "seats", "whole", "found", "order", "house", "number"]) (p := "house") (by decide +kernel)), fun A s H f c' hr => (x_tup (x_cons (x_un u_neg (x_bin o_mod (x_bin o_mul (x_ix (x_var (pv 1)) (x_var (pv 0))) (x_var (pv 2))) (x_var (pv 3)))) (x_cons (x_var (pv 0)) x_nil)))⟩ rfl (hr.mono (by decide)) rfl T.z_sorted rfl T.z_range (x_cons (x_callB c_len rfl T.z_len bt_len (x_cons (x_var (pv 0)) x_nil)) x_nil)))
    (z_cons (s_for PassesOwn.never rfl (i_any (x_sl (x_var (pv 4)) po_n (po_s (x_bin o_sub (x_var (pv 1)) (x_callB (c_sum rfl) rfl T.z_sum bt_sum (x_cons (x_var (pv 3)) x_nil)))))) (g_name (i := 5) sc_greatest_rests.nd rfl (.inl rfl))
      (z_one (s_augS (x_var (pv 3)) (x_var (pv 5)) x_int oi_add set_ok)))
    (z_one (s_ret (x_callTy c_tuple rfl T.z_tuple bt_tuple (x_cons (x_var (pv 3)) x_nil)))))))))
/-! _law_divisors(votes, seats, step): slots votes 0, seats 1, step 2, row 3, again 4, best 5, i 6 -/
def l__law_divisors1 : SF := (sIf (tOf (eBin pGt (eBin pMul (eBin pIdx (eVar 0) (eVar 6)) (eBin pPlus (eC (.int 1)) (eBin pMul (eVar 2) (eBin pIdx (eVar 3) (eVar 5))))) (eBin pMul (eBin pIdx (eVar 0) (eVar 5)) (eBin pPlus (eC (.int 1)) (eBin pMul (eVar 2) (eBin pIdx (eVar 3) (eVar 6))))))) (sAsg (eVar 6) (gNm 5)) sNext)
def l__law_divisors2 : SF := (sSeq (sAsg (eC (.int 0)) (gNm 5)) (sSeq (sFor (itRng1 (aCons (eAp pLen (aCons (eVar 0) aNil)) aNil)) (gNm 6) l__law_divisors1) (sAsg (eBin pPlus (eBin pIdx (eVar 3) (eVar 5)) (eC (.int 1))) (gSubF pSet (eVar 3) (eVar 5)))))
def b__law_divisors : SF := (sSeq (sAsg (eNew (nRep (nLst (aCons (eC (.int 0)) aNil)) (eAp pLen (aCons (eVar 0) aNil)))) (gNm 3)) (sSeq (sFor (itRng1 (aCons (eVar 1) aNil)) (gNm 4) l__law_divisors2) (sRet (eVar 3))))
def m__law_divisors : Fn := bodyF 7 b__law_divisors
theorem sc__law_divisors : FnScope ["votes", "seats", "step", "row", "again", "best", "i"] ["votes", "seats", "step"] (defScope s__law_divisors) := ⟨rfl, rfl, rfl, by decide +kernel, rfl, by decide +kernel, by decide +kernel⟩
theorem ok__law_divisors (T : Txt K mg C) (B : Tb base mg C) : Okd (zt C) P w K mg base 1 "_law_divisors" ["votes", "seats", "step"] m__law_divisors := by
  refine okd (k := 0) T.d__law_divisors sc__law_divisors rfl fun f cdv A outer s H E hgd hr => ?_
  exact (z_cons (s_set (i := 3) sc__law_divisors.nd rfl (.inl rfl) (x_new (n_rep (n_lst (x_cons x_int x_nil)) (x_callB c_len rfl T.z_len bt_len (x_cons (x_var (pv 0)) x_nil)))))
    (z_cons (s_for PassesOwn.never rfl (i_range1 rfl T.z_range (x_cons (x_var (pv 1)) x_nil)) (g_name (i := 4) sc__law_divisors.nd rfl (.inl rfl))
      (z_cons (s_set (i := 5) sc__law_divisors.nd rfl (.inl rfl) x_int)
      (z_cons (s_for PassesOwn.never rfl (i_range1 rfl T.z_range (x_cons (x_callB c_len rfl T.z_len bt_len (x_cons (x_var (pv 0)) x_nil)) x_nil)) (g_name (i := 6) sc__law_divisors.nd rfl (.inl rfl))
        (z_one (s_if (y_cmp o_gt (x_bin o_mul (x_ix (x_var (pv 0)) (x_var (pv 6))) (x_bin o_plus x_int (x_bin o_mul (x_var (pv 2)) (x_ix (x_var (pv 3)) (x_var (pv 5)))))) (x_bin o_mul (x_ix (x_var (pv 0)) (x_var (pv 5))) (x_bin o_plus x_int (x_bin o_mul (x_var (pv 2)) (x_ix (x_var (pv 3)) (x_var (pv 6)))))) (nomark _)) (z_one (s_set (i := 5) sc__law_divisors.nd rfl (.inl rfl) (x_var (pv 6)))) z_nil)))
      (z_one (s_asg (x_bin o_plus (x_ix (x_var (pv 3)) (x_var (pv 5))) x_int) (g_sub (x_var (pv 3)) (x_var (pv 5)) set_ok))))))
    (z_one (s_ret (x_var (pv 3))))))
/-! by_divisors(votes, seats, step): slots votes 0, seats 1, step 2, found 3, _ 4, best 5, house 6 -/
def l_by_divisors1 : SF := (sIf (tOf (eBin pGt (eBin pMul (eBin pIdx (eVar 0) (eVar 6)) (eBin pPlus (eBin pMul (eVar 2) (eBin pIdx (eVar 3) (eVar 5))) (eC (.int 1)))) (eBin pMul (eBin pIdx (eVar 0) (eVar 5)) (eBin pPlus (eBin pMul (eVar 2) (eBin pIdx (eVar 3) (eVar 6))) (eC (.int 1)))))) (sAsg (eVar 6) (gNm 5)) sNext)
def l_by_divisors2 : SF := (sSeq (sAsg (eC (.int 0)) (gNm 5)) (sSeq (sFor (itRng2 (aCons (eC (.int 1)) (aCons (eAp pLen (aCons (eVar 0) aNil)) aNil))) (gNm 6) l_by_divisors1) (sAugSF pAddI pSet (eVar 3) (eVar 5) (eC (.int 1)))))
def b_by_divisors : SF := (sSeq (sExpr (eAp m_check_votes_and_seats (aCons (eVar 0) (aCons (eVar 1) aNil)))) (sSeq (sIf (tNotF (tOf (eAp m_is_between (aCons (eVar 2) (aCons (eC (.int 1)) (aCons (eC (.int 2)) aNil)))))) sNever sNext) (sSeq (sAsg (eNew (nRep (nLst (aCons (eC (.int 0)) aNil)) (eAp pLen (aCons (eVar 0) aNil)))) (gNm 3)) (sSeq (sFor (itRng1 (aCons (eVar 1) aNil)) (gNm 4) l_by_divisors2) (sRet (eAp pTupleOf (aCons (eVar 3) aNil)))))))
def m_by_divisors : Fn := bodyF 7 b_by_divisors
theorem sc_by_divisors : FnScope ["votes", "seats", "step", "found", "_", "best", "house"] ["votes", "seats", "step"] (defScope s_by_divisors) := ⟨rfl, rfl, rfl, by decide +kernel, rfl, by decide +kernel, by decide +kernel⟩
theorem ok_by_divisors (T : Txt K mg C) (B : Tb base mg C) : Okd (zt C) P w K mg base 4 "by_divisors" ["votes", "seats", "step"] m_by_divisors := by
  refine okd (k := 3) T.d_by_divisors sc_by_divisors rfl fun f cdv A outer s H E hgd hr => ?_
  exact (z_cons (s_expr (x_callO (ok_check_votes_and_seats T B) (hr.mono (by decide)) hgd rfl (x_cons (x_var (pv 0)) (x_cons (x_var (pv 1)) x_nil)) (la_cons (la_cons la_nil))))
    (z_cons (s_if (y_not (y_val (x_callO (ok_is_between T B) (hr.mono (by decide)) hgd rfl (x_cons (x_var (pv 2)) (x_cons x_int (x_cons x_int x_nil))) (la_cons (la_cons (la_cons la_nil)))))) (z_one s_never) z_nil)
    (z_cons (s_set (i := 3) sc_by_divisors.nd rfl (.inl rfl) (x_new (n_rep (n_lst (x_cons x_int x_nil)) (x_callB c_len rfl T.z_len bt_len (x_cons (x_var (pv 0)) x_nil)))))
    (z_cons (s_for PassesOwn.never rfl (i_range1 rfl T.z_range (x_cons (x_var (pv 1)) x_nil)) (g_name (i := 4) sc_by_divisors.nd rfl (.inl rfl))
      (z_cons (s_set (i := 5) sc_by_divisors.nd rfl (.inl rfl) x_int)
      (z_cons (s_for PassesOwn.never rfl (i_range2 rfl T.z_range (x_cons x_int (x_cons (x_callB c_len rfl T.z_len bt_len (x_cons (x_var (pv 0)) x_nil)) x_nil))) (g_name (i := 6) sc_by_divisors.nd rfl (.inl rfl))
        (z_one (s_if (y_cmp o_gt (x_bin o_mul (x_ix (x_var (pv 0)) (x_var (pv 6))) (x_bin o_plus (x_bin o_mul (x_var (pv 2)) (x_ix (x_var (pv 3)) (x_var (pv 5)))) x_int)) (x_bin o_mul (x_ix (x_var (pv 0)) (x_var (pv 5))) (x_bin o_plus (x_bin o_mul (x_var (pv 2)) (x_ix (x_var (pv 3)) (x_var (pv 6)))) x_int)) (nomark _)) (z_one (s_set (i := 5) sc_by_divisors.nd rfl (.inl rfl) (x_var (pv 6)))) z_nil)))
      (z_one (s_augS (x_var (pv 3)) (x_var (pv 5)) x_int oi_add set_ok)))))
    (z_one (s_ret (x_callTy c_tuple rfl T.z_tuple bt_tuple (x_cons (x_var (pv 3)) x_nil))))))))
/-! _law_seats(box): slots box 0, votes 1, seats 2, whole 3, row 4, rests 5, i 6, step 7, due 8, more 9, vote 10, j 11 -/
def e__law_seats1 : EF := (eBin pPlus (eC (.int 1)) (eAp m__law_draw (aCons (eVar 0) (aCons (eC (.int 40)) aNil))))
def e__law_seats2 : EF := (eBin pDiv (eBin pMul (eVar 10) (eVar 2)) (eVar 3))
def e__law_seats3 : EF := (eBin pMod (eBin pMul (eVar 10) (eVar 2)) (eVar 3))
def k__law_seats4 : EF := (eAp pTup (aCons (eBin pSub (eC (.int 0)) (eBin pIdx (eVar 6) (eVar 0))) (aCons (eVar 0) aNil)))
def l__law_seats5 : SF := (sAsg (eBin pPlus (eBin pIdx (eVar 4) (eVar 6)) (eC (.int 1))) (gSubF pSet (eVar 4) (eVar 6)))
def l__law_seats6 : SF := (sIf (tNotF (tOf (eChain pLe pLe (eBin pDiv (eBin pMul (eBin pIdx (eVar 1) (eVar 6)) (eVar 2)) (eVar 3)) (eBin pIdx (eVar 4) (eVar 6)) (eBin pDiv (eBin pSub (eBin pPlus (eBin pMul (eBin pIdx (eVar 1) (eVar 6)) (eVar 2)) (eVar 3)) (eC (.int 1))) (eVar 3))))) (sRet (eC (.bool false))) sNext)
def e__law_seats7 : EF := (eBin pLt (eBin pIdx (eVar 9) (eVar 6)) (eBin pIdx (eVar 8) (eVar 6)))
def e__law_seats8 : EF := (eOf (tAndF (tOf (eBin pGt (eBin pIdx (eVar 1) (eVar 6)) (eBin pIdx (eVar 1) (eVar 11)))) (tOf (eBin pLt (eBin pIdx (eVar 8) (eVar 6)) (eBin pIdx (eVar 8) (eVar 11))))))
def l__law_seats9 : SF := (sIf (tOrF (tAndF (tOf (eBin pEq (eVar 7) (eC (.int 1)))) (tOf (eBin pLt (eBin pIdx (eVar 8) (eVar 6)) (eBin pDiv (eBin pMul (eBin pIdx (eVar 1) (eVar 6)) (eVar 2)) (eVar 3))))) (tOf (eAp pAny (aCons (eL (nComp (itRng1 (aCons (eAp pLen (aCons (eVar 1) aNil)) aNil)) (.nm 11) [11] tTrue e__law_seats8)) aNil)))) (sRet (eC (.bool false))) sNext)
def l__law_seats10 : SF := (sSeq (sParG [8, 9] (aCons (eAp m__law_divisors (aCons (eVar 1) (aCons (eVar 2) (aCons (eVar 7) aNil)))) (aCons (eAp m__law_divisors (aCons (eVar 1) (aCons (eBin pPlus (eVar 2) (eC (.int 1))) (aCons (eVar 7) aNil)))) aNil))) (sSeq (sIf (tOrF (tOf (eBin pNe (eAp pRepr (aCons (eAp m_by_divisors (aCons (eVar 1) (aCons (eVar 2) (aCons (eVar 7) aNil)))) aNil)) (eAp pRepr (aCons (eAp pTupleOf (aCons (eVar 8) aNil)) aNil)))) (tOf (eAp pAny (aCons (eL (nComp (itRng1 (aCons (eAp pLen (aCons (eVar 1) aNil)) aNil)) (.nm 6) [6] tTrue e__law_seats7)) aNil)))) (sRet (eC (.bool false))) sNext) (sFor (itRng1 (aCons (eAp pLen (aCons (eVar 1) aNil)) aNil)) (gNm 6) l__law_seats9)))
def b__law_seats : SF := (sSeq (sAsg (eAp pTupleOf (aCons (eL (nComp (itRng1 (aCons (eBin pPlus (eC (.int 1)) (eAp m__law_draw (aCons (eVar 0) (aCons (eC (.int 5)) aNil)))) aNil)) (.nm 6) [6] tTrue e__law_seats1)) aNil)) (gNm 1)) (sSeq (sParG [2, 3] (aCons (eAp m__law_draw (aCons (eVar 0) (aCons (eC (.int 15)) aNil))) (aCons (eAp pSum (aCons (eVar 1) aNil)) aNil))) (sSeq (sAsg (eNew (nComp (itAny (eVar 1)) (.nm 10) [10] tTrue e__law_seats2)) (gNm 4)) (sSeq (sAsg (eL (nComp (itAny (eVar 1)) (.nm 10) [10] tTrue e__law_seats3)) (gNm 5)) (sSeq (sFor (itAny (eSl (eSortKR [false, false, false, false, false, false, true, false, false, false, false, false] k__law_seats4 (aCons (eAp pLen (aCons (eVar 1) aNil)) aNil)) oNone (oSome (eBin pSub (eVar 2) (eAp pSum (aCons (eVar 4) aNil)))))) (gNm 6) l__law_seats5) (sSeq (sIf (tOf (eBin pNe (eAp pRepr (aCons (eAp m_greatest_rests (aCons (eVar 1) (aCons (eVar 2) aNil))) aNil)) (eAp pRepr (aCons (eAp pTupleOf (aCons (eVar 4) aNil)) aNil)))) (sRet (eC (.bool false))) sNext) (sSeq (sFor (itRng1 (aCons (eAp pLen (aCons (eVar 1) aNil)) aNil)) (gNm 6) l__law_seats6) (sSeq (sFor (itAny (eAp pTup (aCons (eC (.int 1)) (aCons (eC (.int 2)) aNil)))) (gNm 7) l__law_seats10) (sRet (eC (.bool true)))))))))))
def m__law_seats : Fn := bodyF 12 b__law_seats
theorem sc__law_seats : FnScope ["box", "votes", "seats", "whole", "row", "rests", "i", "step", "due", "more", "vote", "j"] ["box"] (defScope s__law_seats) := ⟨rfl, rfl, rfl, by decide +kernel, rfl, by decide +kernel, by decide +kernel⟩
theorem ok__law_seats (T : Txt K mg C) (B : Tb base mg C) : Okd (zt C) P w K mg base 13 "_law_seats" ["box"] m__law_seats := by
  refine okdC (k := 12) T.d__law_seats sc__law_seats rfl fun f A outer s H E hgd hr => ?_
  exact (z_cons (s_set (i := 1) sc__law_seats.nd rfl (.inr rfl) (x_callTy c_tuple rfl T.z_tuple bt_tuple (x_cons (x_ofN (n_comp (own := [("i", 6)]) rfl sc__law_seats.nd (i_range1 rfl T.z_range (x_cons (x_bin o_plus x_int (x_callO (ok__law_draw T B) (hr.mono (by decide)) hgd rfl (x_cons (x_var (pv 0)) (x_cons x_int x_nil)) (la_cons (la_cons la_nil)))) x_nil)) (blkOk_by (N := ["box", "votes", "seats", "whole", "row", "rests", "i", "step", "due", "more", "vote", "j"]) (sc := defScope s__law_seats) (by decide +kernel)) rfl (fun _ _ _ _ _ => (p_name (i := 6) sc__law_seats.nd rfl (.inl rfl))) (fun _ _ _ _ _ => ts_nil) (fun _ _ _ _ _ => (x_bin o_plus x_int (x_callO (ok__law_draw T B) (hr.mono (by decide)) hgd rfl (x_cons (x_var (pv 0)) (x_cons x_int x_nil)) (la_cons (la_cons la_nil))))))) x_nil)))
    (z_cons (s_parG rfl (x_cons (x_callO (ok__law_draw T B) (hr.mono (by decide)) hgd rfl (x_cons (x_var (pv 0)) (x_cons x_int x_nil)) (la_cons (la_cons la_nil))) (x_cons (x_callB (c_sum rfl) rfl T.z_sum bt_sum (x_cons (x_var (pv 1)) x_nil)) x_nil)) (gn_cons (i := 2) sc__law_seats.nd rfl (.inr rfl) (gn_cons (i := 3) sc__law_seats.nd rfl (.inr rfl) gn_nil)))
    (z_cons (s_setCN (i := 4) (own := [("vote", 10)]) rfl sc__law_seats.nd rfl rfl (sw_true rfl rfl rfl (by decide +kernel)) (i_any (x_var (pv 1))) (blkOk_by (N := ["box", "votes", "seats", "whole", "row", "rests", "i", "step", "due", "more", "vote", "j"]) (sc := defScope s__law_seats) (by decide +kernel)) rfl (fun _ _ _ _ _ => (p_name (i := 10) sc__law_seats.nd rfl (.inl rfl))) (fun _ _ _ _ _ => ts_nil) (fun _ _ _ _ _ => (x_bin o_div (x_bin o_mul (x_var (pv 10)) (x_var (pv 2))) (x_var (pv 3)))))
    (z_cons (s_set (i := 5) sc__law_seats.nd rfl (.inr rfl) (x_ofN (n_comp (own := [("vote", 10)]) rfl sc__law_seats.nd (i_any (x_var (pv 1))) (blkOk_by (N := ["box", "votes", "seats", "whole", "row", "rests", "i", "step", "due", "more", "vote", "j"]) (sc := defScope s__law_seats) (by decide +kernel)) rfl (fun _ _ _ _ _ => (p_name (i := 10) sc__law_seats.nd rfl (.inl rfl))) (fun _ _ _ _ _ => ts_nil) (fun _ _ _ _ _ => (x_bin o_mod (x_bin o_mul (x_var (pv 10)) (x_var (pv 2))) (x_var (pv 3)))))))
    (z_cons (s_for PassesOwn.never rfl (i_any (x_sl (x_sortKR (k := 9) (bs := [false, false, false, false, false, false, true, false, false, false, false, false]) (fb := k__law_seats4) (p := "i") (c := C.c__law_seats) (P := C.P__law_seats) ⟨B.b__law_seats, rfl, T.mem__law_seats, T.uniq__law_seats, lamP_by (by kernel_rfl), rfl, fun _ _ _ _ _ _ => rfl, (msk_ok (N := ["box", "votes", "seats", "whole", "row", "rests", "i", "step", "due", "more", "vote", "j"]) (p := "i") (by decide +kernel)), fun A s H f c' hr => (x_tup (x_cons (x_bin o_sub x_int (x_ix (x_var (pv 6)) (x_var (pv 0)))) (x_cons (x_var (pv 0)) x_nil)))⟩ rfl (hr.mono (by decide)) rfl T.z_sorted rfl T.z_range (x_cons (x_callB c_len rfl T.z_len bt_len (x_cons (x_var (pv 1)) x_nil)) x_nil)) po_n (po_s (x_bin o_sub (x_var (pv 2)) (x_callB (c_sum rfl) rfl T.z_sum bt_sum (x_cons (x_var (pv 4)) x_nil)))))) (g_name (i := 6) sc__law_seats.nd rfl (.inr rfl))
      (z_one (s_asg (x_bin o_plus (x_ix (x_var (pv 4)) (x_var (pv 6))) x_int) (g_sub (x_var (pv 4)) (x_var (pv 6)) set_ok))))
    (z_cons (s_if (y_cmp (o_ne hr) (x_callB (c_repr hgd hr) rfl T.z_repr bt_repr (x_cons (x_callO (ok_greatest_rests T B) (hr.mono (by decide)) hgd rfl (x_cons (x_var (pv 1)) (x_cons (x_var (pv 2)) x_nil)) (la_cons (la_cons la_nil))) x_nil)) (x_callB (c_repr hgd hr) rfl T.z_repr bt_repr (x_cons (x_callTy c_tuple rfl T.z_tuple bt_tuple (x_cons (x_var (pv 4)) x_nil)) x_nil)) (nomark _)) (z_one (s_ret x_bl)) z_nil)
    (z_cons (s_for PassesOwn.never rfl (i_range1 rfl T.z_range (x_cons (x_callB c_len rfl T.z_len bt_len (x_cons (x_var (pv 1)) x_nil)) x_nil)) (g_name (i := 6) sc__law_seats.nd rfl (.inr rfl))
      (z_one (s_if (y_not (y_chain o_le o_le (x_bin o_div (x_bin o_mul (x_ix (x_var (pv 1)) (x_var (pv 6))) (x_var (pv 2))) (x_var (pv 3))) (x_ix (x_var (pv 4)) (x_var (pv 6))) (x_bin o_div (x_bin o_sub (x_bin o_plus (x_bin o_mul (x_ix (x_var (pv 1)) (x_var (pv 6))) (x_var (pv 2))) (x_var (pv 3))) x_int) (x_var (pv 3))))) (z_one (s_ret x_bl)) z_nil)))
    (z_cons (s_for PassesOwn.never rfl (i_any (x_tup (x_cons x_int (x_cons x_int x_nil)))) (g_name (i := 7) sc__law_seats.nd rfl (.inl rfl))
      (z_cons (s_parG rfl (x_cons (x_callO (ok__law_divisors T B) (hr.mono (by decide)) hgd rfl (x_cons (x_var (pv 1)) (x_cons (x_var (pv 2)) (x_cons (x_var (pv 7)) x_nil))) (la_cons (la_cons (la_cons la_nil)))) (x_cons (x_callO (ok__law_divisors T B) (hr.mono (by decide)) hgd rfl (x_cons (x_var (pv 1)) (x_cons (x_bin o_plus (x_var (pv 2)) x_int) (x_cons (x_var (pv 7)) x_nil))) (la_cons (la_cons (la_cons la_nil)))) x_nil)) (gn_cons (i := 8) sc__law_seats.nd rfl (.inr rfl) (gn_cons (i := 9) sc__law_seats.nd rfl (.inr rfl) gn_nil)))
      (z_cons (s_if (PW.pt (w_or (y_cmp (o_ne hr) (x_callB (c_repr hgd hr) rfl T.z_repr bt_repr (x_cons (x_callO (ok_by_divisors T B) (hr.mono (by decide)) hgd rfl (x_cons (x_var (pv 1)) (x_cons (x_var (pv 2)) (x_cons (x_var (pv 7)) x_nil))) (la_cons (la_cons (la_cons la_nil)))) x_nil)) (x_callB (c_repr hgd hr) rfl T.z_repr bt_repr (x_cons (x_callTy c_tuple rfl T.z_tuple bt_tuple (x_cons (x_var (pv 8)) x_nil)) x_nil)) (nomark _)) (w_or1 (y_val (x_callB (c_any rfl) rfl T.z_any bt_any (x_cons (x_ofN (n_comp (own := [("i", 6)]) rfl sc__law_seats.nd (i_range1 rfl T.z_range (x_cons (x_callB c_len rfl T.z_len bt_len (x_cons (x_var (pv 1)) x_nil)) x_nil)) (blkOk_by (N := ["box", "votes", "seats", "whole", "row", "rests", "i", "step", "due", "more", "vote", "j"]) (sc := defScope s__law_seats) (by decide +kernel)) rfl (fun _ _ _ _ _ => (p_name (i := 6) sc__law_seats.nd rfl (.inl rfl))) (fun _ _ _ _ _ => ts_nil) (fun _ _ _ _ _ => (x_cmp o_lt (x_ix (x_var (pv 9)) (x_var (pv 6))) (x_ix (x_var (pv 8)) (x_var (pv 6))) (nomark _))))) x_nil)))))) (z_one (s_ret x_bl)) z_nil)
      (z_one (s_for PassesOwn.never rfl (i_range1 rfl T.z_range (x_cons (x_callB c_len rfl T.z_len bt_len (x_cons (x_var (pv 1)) x_nil)) x_nil)) (g_name (i := 6) sc__law_seats.nd rfl (.inr rfl))
        (z_one (s_if (PW.pt (w_or (PW.pt (w_and (y_cmp (o_eq hr) (x_var (pv 7)) x_int (nomark _)) (w_and1 (y_cmp o_lt (x_ix (x_var (pv 8)) (x_var (pv 6))) (x_bin o_div (x_bin o_mul (x_ix (x_var (pv 1)) (x_var (pv 6))) (x_var (pv 2))) (x_var (pv 3))) (nomark _))))) (w_or1 (y_val (x_callB (c_any rfl) rfl T.z_any bt_any (x_cons (x_ofN (n_comp (own := [("j", 11)]) rfl sc__law_seats.nd (i_range1 rfl T.z_range (x_cons (x_callB c_len rfl T.z_len bt_len (x_cons (x_var (pv 1)) x_nil)) x_nil)) (blkOk_by (N := ["box", "votes", "seats", "whole", "row", "rests", "i", "step", "due", "more", "vote", "j"]) (sc := defScope s__law_seats) (by decide +kernel)) rfl (fun _ _ _ _ _ => (p_name (i := 11) sc__law_seats.nd rfl (.inl rfl))) (fun _ _ _ _ _ => ts_nil) (fun _ _ _ _ _ => (x_and (x_eOf (x_cmp o_gt (x_ix (x_var (pv 1)) (x_var (pv 6))) (x_ix (x_var (pv 1)) (x_var (pv 11))) (nomark _))) (x_and1 (x_eOf (x_cmp o_lt (x_ix (x_var (pv 8)) (x_var (pv 6))) (x_ix (x_var (pv 8)) (x_var (pv 11))) (nomark _)))))))) x_nil)))))) (z_one (s_ret x_bl)) z_nil)))))))
    (z_one (s_ret x_bl))))))))))
/-! law(script): slots script 0, box 1 -/
def b_law : SF := (sSeq (sAsg (eAp m__law_stream (aCons (eVar 0) (aCons (eC (.int 0)) aNil))) (gNm 1)) (sRet (eOf (tAndF (tOf (eAp m__law_cutting (aCons (eVar 1) aNil))) (tOf (eAp m__law_seats (aCons (eVar 1) aNil)))))))
def m_law : Fn := bodyF 2 b_law
theorem sc_law : FnScope ["script", "box"] ["script"] (defScope s_law) := ⟨rfl, rfl, rfl, by decide +kernel, rfl, by decide +kernel, by decide +kernel⟩
theorem ok_law (T : Txt K mg C) (B : Tb base mg C) : Okd (zt C) P w K mg base 14 "law" ["script"] m_law := by
  refine okd (k := 13) T.d_law sc_law rfl fun f cdv A outer s H E hgd hr => ?_
  exact (z_cons (s_set (i := 1) sc_law.nd rfl (.inl rfl) (x_callO (ok__law_stream T B) (hr.mono (by decide)) hgd rfl (x_cons (x_var (pv 0)) (x_cons x_int x_nil)) (la_cons (la_cons la_nil))))
    (z_one (s_ret (x_and (x_eOf (x_callO (ok__law_cutting T B) (hr.mono (by decide)) hgd rfl (x_cons (x_var (pv 1)) x_nil) (la_cons la_nil))) (x_and1 (x_eOf (x_callO (ok__law_seats T B) (hr.mono (by decide)) hgd rfl (x_cons (x_var (pv 1)) x_nil) (la_cons la_nil))))))))
end
theorem end_ {P : Program} {w : World} {K : PySem.W.Frag} {mg : Str → Option Value} {fa : Addr} {h : Heap} {C : Cd} (X : K.In h) (T : Txt K mg C) (TA : TabsAt K h (cst C)) (hmg : mg "law" = some (.ref fa)) :
    ∃ (K : PySem.W.Frag) (fd : FuncData) (cs : List (Addr × Addr × Str)), K.In h ∧ TabsAt K h cs ∧ (∀ (s : Shared) (u : Value), BindsTo s fd ⟨[u], []⟩ [("script", u)]) ∧ ∀ base : Heap, K.In base → base.Ns mainGlobals mg → (∀ p ∈ cs, LamX.TabB base mg p.1 p.2.1) → FnG P w K mg base 14 fa fd ["script"] (spF (tabT cs) K 1 m_law) :=
  endO X T.d_law TA (fun base TB => ok_law (base := base) T ⟨TB (C.c_greatest_rests, C.P_greatest_rests, lq "greatest_rests") (by simp [cst]), TB (C.c__law_seats, C.P__law_seats, lq "_law_seats") (by simp [cst])⟩) hmg
theorem fin {P : Program} {w : World} {K0 : PySem.W.Frag} {mg : Str → Option Value} {fa : Addr} {h : Heap} {c_greatest_rests P_greatest_rests : Addr} {oc_greatest_rests : Value} {od_greatest_rests : Option Addr} {vs_greatest_rests : Array Value} {os_greatest_rests : Array (Option Value)} {c__law_seats P__law_seats : Addr} {oc__law_seats : Value} {od__law_seats : Option Addr} {vs__law_seats : Array Value} {os__law_seats : Array (Option Value)} (X : K0.In h) (hmg : mg "law" = some (.ref fa))
    (d_greatest_rests : HasCode (cutK K0 [P_greatest_rests, P__law_seats]) mg "greatest_rests" "greatest_rests" s_greatest_rests ["votes", "seats"] c_greatest_rests) (lc_greatest_rests : K0.lookup c_greatest_rests = some ⟨oc_greatest_rests, od_greatest_rests, .fields vs_greatest_rests, os_greatest_rests⟩) (hp_greatest_rests : (vs_greatest_rests[11]? : Option Value) = some (.ref P_greatest_rests)) (hd_greatest_rests : PySem.W.codeHdIn K0 c_greatest_rests P_greatest_rests = true) (tT_greatest_rests : h.get? P_greatest_rests = some { cls := .none, data := .fields #[] })
    (d__law_seats : HasCode (cutK K0 [P_greatest_rests, P__law_seats]) mg "_law_seats" "_law_seats" s__law_seats ["box"] c__law_seats) (lc__law_seats : K0.lookup c__law_seats = some ⟨oc__law_seats, od__law_seats, .fields vs__law_seats, os__law_seats⟩) (hp__law_seats : (vs__law_seats[11]? : Option Value) = some (.ref P__law_seats)) (hd__law_seats : PySem.W.codeHdIn K0 c__law_seats P__law_seats = true) (tT__law_seats : h.get? P__law_seats = some { cls := .none, data := .fields #[] })
    (nd : ([P_greatest_rests, P__law_seats] : List Addr).Nodup)
    (d__law_cell : HasDef (cutK K0 [P_greatest_rests, P__law_seats]) mg "_law_cell" "_law_cell" s__law_cell ["script", "k"])
    (d__law_stream : HasDef (cutK K0 [P_greatest_rests, P__law_seats]) mg "_law_stream" "_law_stream" s__law_stream ["script", "k"])
    (d__law_lowest : HasDef (cutK K0 [P_greatest_rests, P__law_seats]) mg "_law_lowest" "_law_lowest" s__law_lowest ["n", "d"])
    (d__law_plus : HasDef (cutK K0 [P_greatest_rests, P__law_seats]) mg "_law_plus" "_law_plus" s__law_plus ["one", "two"])
    (d__law_times : HasDef (cutK K0 [P_greatest_rests, P__law_seats]) mg "_law_times" "_law_times" s__law_times ["one", "two"])
    (d__law_worth : HasDef (cutK K0 [P_greatest_rests, P__law_seats]) mg "_law_worth" "_law_worth" s__law_worth ["taste", "time"])
    (d__law_more : HasDef (cutK K0 [P_greatest_rests, P__law_seats]) mg "_law_more" "_law_more" s__law_more ["one", "two"])
    (d__law_time : HasDef (cutK K0 [P_greatest_rests, P__law_seats]) mg "_law_time" "_law_time" s__law_time ["taste", "first", "worth"])
    (d_is_integer : HasDef (cutK K0 [P_greatest_rests, P__law_seats]) mg "is_integer" "is_integer" s_is_integer ["thing"])
    (d_is_between : HasDef (cutK K0 [P_greatest_rests, P__law_seats]) mg "is_between" "is_between" s_is_between ["thing", "low", "high"])
    (d_check_taste : HasDef (cutK K0 [P_greatest_rests, P__law_seats]) mg "check_taste" "check_taste" s_check_taste ["taste"])
    (d_common_checks : HasDef (cutK K0 [P_greatest_rests, P__law_seats]) mg "common_checks" "common" s_common_checks ["one", "other"])
    (d_fraction : HasDef (cutK K0 [P_greatest_rests, P__law_seats]) mg "fraction" "fraction" s_fraction ["n", "d"])
    (d_times : HasDef (cutK K0 [P_greatest_rests, P__law_seats]) mg "times" "times" s_times ["one", "other"])
    (d_plus : HasDef (cutK K0 [P_greatest_rests, P__law_seats]) mg "plus" "plus" s_plus ["one", "other"])
    (d_minus : HasDef (cutK K0 [P_greatest_rests, P__law_seats]) mg "minus" "minus" s_minus ["one", "other"])
    (d_less : HasDef (cutK K0 [P_greatest_rests, P__law_seats]) mg "less" "less" s_less ["one", "other"])
    (d_time_for : HasDef (cutK K0 [P_greatest_rests, P__law_seats]) mg "time_for" "time_for" s_time_for ["taste", "worth"])
    (d_worth_to : HasDef (cutK K0 [P_greatest_rests, P__law_seats]) mg "worth_to" "worth_to" s_worth_to ["taste", "time"])
    (d_from_left : HasDef (cutK K0 [P_greatest_rests, P__law_seats]) mg "from_left" "from_left" s_from_left ["tastes"])
    (d__law_draw : HasDef (cutK K0 [P_greatest_rests, P__law_seats]) mg "_law_draw" "_law_draw" s__law_draw ["box", "many"])
    (d_common_cycles : HasDef (cutK K0 [P_greatest_rests, P__law_seats]) mg "common_cycles" "common" s_common_cycles ["one", "other"])
    (d_check_times : HasDef (cutK K0 [P_greatest_rests, P__law_seats]) mg "check_times" "check_times" s_check_times ["taste", "first", "last"])
    (d_worth_of : HasDef (cutK K0 [P_greatest_rests, P__law_seats]) mg "worth_of" "worth_of" s_worth_of ["taste", "first", "last"])
    (d_cut_and_choose : HasDef (cutK K0 [P_greatest_rests, P__law_seats]) mg "cut_and_choose" "cut_and_choose" s_cut_and_choose ["taste", "other"])
    (d__law_cutting : HasDef (cutK K0 [P_greatest_rests, P__law_seats]) mg "_law_cutting" "_law_cutting" s__law_cutting ["box"])
    (d_check_votes_and_seats : HasDef (cutK K0 [P_greatest_rests, P__law_seats]) mg "check_votes_and_seats" "check_votes_and_seats" s_check_votes_and_seats ["votes", "seats"])
    (d__law_divisors : HasDef (cutK K0 [P_greatest_rests, P__law_seats]) mg "_law_divisors" "_law_divisors" s__law_divisors ["votes", "seats", "step"])
    (d_by_divisors : HasDef (cutK K0 [P_greatest_rests, P__law_seats]) mg "by_divisors" "by_divisors" s_by_divisors ["votes", "seats", "step"])
    (d_law : HasDef (cutK K0 [P_greatest_rests, P__law_seats]) mg "law" "law" s_law ["script"])
    (k_MOST_HOURS : ∃ t, mg "MOST_HOURS" = some (.int 10 t))
    (k_MOST_HOUSES_cutting : ∃ t, mg "MOST_HOUSES_cutting" = some (.int 5 t))
    (k_MOST_HOUSES_seats : ∃ t, mg "MOST_HOUSES_seats" = some (.int 8 t))
    (k_MOST_SEATS : ∃ t, mg "MOST_SEATS" = some (.int 60 t))
    (k_MOST_TASTE : ∃ t, mg "MOST_TASTE" = some (.int 100 t))
    (k_MOST_VOTES : ∃ t, mg "MOST_VOTES" = some (.int 1000 t))
    (z_abs : mg "abs" = none)
    (z_all : mg "all" = none)
    (z_any : mg "any" = none)
    (z_bool : mg "bool" = none)
    (z_enumerate : mg "enumerate" = none)
    (z_int : mg "int" = none)
    (z_isinstance : mg "isinstance" = none)
    (z_len : mg "len" = none)
    (z_list : mg "list" = none)
    (z_range : mg "range" = none)
    (z_repr : mg "repr" = none)
    (z_sorted : mg "sorted" = none)
    (z_sum : mg "sum" = none)
    (z_tuple : mg "tuple" = none) :
    ∃ (K : PySem.W.Frag) (fd : FuncData) (cs : List (Addr × Addr × Str)), K.In h ∧ TabsAt K h cs ∧ (∀ (s : Shared) (u : Value), BindsTo s fd ⟨[u], []⟩ [("script", u)]) ∧ ∀ base : Heap, K.In base → base.Ns mainGlobals mg → (∀ p ∈ cs, LamX.TabB base mg p.1 p.2.1) → FnG P w K mg base 14 fa fd ["script"] (spF (tabT cs) K 1 m_law) := by
  have nd2 : ((cst ⟨c_greatest_rests, P_greatest_rests, c__law_seats, P__law_seats⟩).map fun p => p.2.1).Nodup := nd
  refine end_ (C := ⟨c_greatest_rests, P_greatest_rests, c__law_seats, P__law_seats⟩) (cutK_In X) ⟨d__law_cell, d__law_stream, d__law_lowest, d__law_plus, d__law_times, d__law_worth, d__law_more, d__law_time, d_is_integer, d_is_between, d_check_taste, d_common_checks, d_fraction, d_times, d_plus, d_minus, d_less, d_time_for, d_worth_to, d_from_left, d__law_draw, d_common_cycles, d_check_times, d_worth_of, d_cut_and_choose, d__law_cutting, d_check_votes_and_seats, d_greatest_rests, (by simp [zt]), (tab_uniq (zt ⟨c_greatest_rests, P_greatest_rests, c__law_seats, P__law_seats⟩) nd (by simp [zt])), d__law_divisors, d_by_divisors, d__law_seats, (by simp [zt]), (tab_uniq (zt ⟨c_greatest_rests, P_greatest_rests, c__law_seats, P__law_seats⟩) nd (by simp [zt])), d_law, k_MOST_HOURS, k_MOST_HOUSES_cutting, k_MOST_HOUSES_seats, k_MOST_SEATS, k_MOST_TASTE, k_MOST_VOTES, z_abs, z_all, z_any, z_bool, z_enumerate, z_int, z_isinstance, z_len, z_list, z_range, z_repr, z_sorted, z_sum, z_tuple⟩ ⟨?_, ?_, ?_, nd2⟩ hmg
  · intro p hp; simp only [cst, List.mem_cons, List.not_mem_nil, or_false] at hp; rcases hp with rfl | rfl
    · exact tT_greatest_rests
    · exact tT__law_seats
  · intro p hp; refine cutK_none ?_; simp only [cst, List.mem_cons, List.not_mem_nil, or_false] at hp; rcases hp with rfl | rfl <;> simp
  · intro p hp; simp only [cst, List.mem_cons, List.not_mem_nil, or_false] at hp; rcases hp with rfl | rfl
    · exact PySem.W.codeHd_of_K X hd_greatest_rests
    · exact PySem.W.codeHd_of_K X hd__law_seats
end L34

set_option Elab.async false
set_option linter.all false
set_option maxRecDepth 100000
namespace L34
open PySem PySem.Spec PyProof.Rows L2 Ev Qa
section
variable {m : M} {n d : Int} {x y : Rat}
theorem fuel_ok {k : Nat} (h : 2 * k + 1 ≤ 999999) : 2 * k + 1 ≤ 999999 := h
theorem pmd_nat {a b : Nat} (h : 0 < b) : pMod (.val (.int (a : Int))) (.val (.int (b : Int))) m = some (.val (.int ((a % b : Nat) : Int)), m) := by
  rw [pmd_ii (by omega)]
  push_cast
  rfl
theorem common_ok {b : Nat} (hp : 0 < b) (hb : b < 2 ^ 4000) : m_common_checks [.val (.int n), .val (.int b)] m = some (.val (.int (Int.gcd n b : Nat)), m) := by
  have h := gcd_loop (c := c_common_checks2) (body := w_common_checks1) (m := m) (fun a b => [some (.val (.int a)), some (.val (.int b))])
    (fun a b => by simp [c_common_checks2])
    (fun a b h => by simp only [w_common_checks1, ev_par, ev_cons, ev_nil, ev_varS, ev_var0, ev_bin, ob_some, pmd_nat h, List.set_cons_succ, List.set_cons_zero]) 4000 999999 b (n % (b : Int)).toNat
    (by have := Int.emod_lt_of_pos n (show (0 : Int) < b by omega); have := Int.emod_nonneg n (show (b : Int) ≠ 0 by omega); omega) (by decide)
  have hn := Int.emod_nonneg n (show (b : Int) ≠ 0 by omega)
  have e1 : (((n % (b : Int)).toNat : Nat) : Int) = n % (b : Int) := by omega
  have hw : wloop c_common_checks2 w_common_checks1 fuel [some (.val (.int n)), some (.val (.int b))] m = some (.nx [some (.val (.int (Nat.gcd b (n % (b : Int)).toNat : Nat))), some (.val (.int 0))] m) := by
    have f : fuel = 999999 + 1 := rfl
    rw [f]
    unfold wloop
    have hp' : (0 : Int) < (b : Int) := by omega
    simp only [c_common_checks2, ev_tOf, ev_bin, ev_varS, ev_var0, ev_c, ob_some, pgt_ii, ev_asB, hp', decide_true, if_true, w_common_checks1, ev_par, ev_cons, ev_nil, pmd_ii hp', List.set_cons_succ, List.set_cons_zero, ev_aft_nx]
    simp only [e1] at h
    exact h
  have e2 : Nat.gcd b (n % (b : Int)).toNat = Int.gcd n b := by
    have e3 : Int.gcd n b = Int.gcd (b : Int) (n % (b : Int)) := by
      rw [Int.gcd_comm n]
      rw [Int.emod_def, Int.gcd_sub_mul_left_right]
    rw [e3]
    unfold Int.gcd
    congr 1
    omega
  rw [e2] at hw
  simp only [m_common_checks, bodyF, b_common_checks, List.map_cons, List.map_nil, List.length_cons, List.length_nil, Nat.reduceAdd, Nat.reduceSub, List.replicate, List.append_nil, ev_seq, hw, ob_some, ev_then_nx]
  simp [leave]
theorem common_cycles_same : m_common_cycles = m_common_checks := rfl
theorem fraction_ok (hd : 0 < d) (hd2 : Sz 4000 d) : m_fraction [.val (.int n), .val (.int d)] m = some (.val (encQ ((n : Rat) / (d : Rat))), m) := by
  obtain ⟨b, rfl⟩ : ∃ b : Nat, d = b := ⟨d.toNat, by omega⟩
  have hb : 0 < b := by omega
  have h1 := common_ok (m := m) (n := n) hb (by unfold Sz at hd2; omega)
  obtain ⟨e1, e2⟩ := low_num n b hd
  have hg : (0 : Int) < ((Int.gcd n b : Nat) : Int) := by
    have : 0 < Int.gcd n b := Int.gcd_pos_of_ne_zero_right n (by omega)
    omega
  have hg2 : Sz 4000 ((Int.gcd n b : Nat) : Int) := by
    unfold Sz at *
    have : Int.gcd n b ≤ b := Nat.le_of_dvd hb (by
      have := Int.gcd_dvd_right n b
      exact_mod_cast this)
    omega
  simp only [m_fraction, bodyF, b_fraction, List.map_cons, List.map_nil, List.length_cons, List.length_nil, Nat.reduceAdd, Nat.reduceSub, List.replicate, List.cons_append, List.nil_append, ev_seq, ev_asg, ev_ap, ev_cons, ev_nil, ev_varS, ev_var0, ob_some, h1, ev_gNm, List.set_cons_succ, List.set_cons_zero, ev_then_nx, ev_ret, ev_bin,
    pdv_sz hg hg2 (by decide), ev_pTup, ev_valsC, ev_vals0]
  rw [e1, e2]
  simp [leave, encQ]
theorem sz_mul2 {i j : Int} (a : Sz 1000 i) (b : Sz 1000 j) : Sz 4000 (i * j) := (a.mul b).up (by decide)
theorem sz_cross {x y : Rat} (a : SmQ x) (b : SmQ y) : Sz 4000 (x.num * y.den + y.num * x.den) := ((a.num.mul b.den).add (b.num.mul a.den)).up (by decide)
theorem mulQ {k l : Int} (a : Sz 1000 k) (b : Sz 1000 l) : pMul (.val (.int k)) (.val (.int l)) m = some (.val (.int (k * l)), m) := pm_sz a b (by decide)
theorem den_mul_pos (x y : Rat) : (0 : Int) < (x.den : Int) * (y.den : Int) := Int.mul_pos (den_pos x) (den_pos y)
theorem times_ok (a : SmQ x) (b : SmQ y) : m_times [.val (encQ x), .val (encQ y)] m = some (.val (encQ (x * y)), m) := by
  have h := fraction_ok (m := m) (n := x.num * y.num) (den_mul_pos x y) (sz_mul2 a.den b.den)
  rw [mul_eq] at h
  simp only [m_times, bodyF, b_times, List.map_cons, List.map_nil, List.length_cons, List.length_nil, Nat.reduceAdd, Nat.reduceSub, List.replicate, List.append_nil, ev_ret, ev_ap, ev_cons, ev_nil, ev_bin, ev_varS, ev_var0, ev_c, ob_some, encQ, pix_t, atI_0, atI_1, mulQ a.num b.num, mulQ a.den b.den]
  rw [h]
  simp [leave, encQ]
theorem plus_ok (a : SmQ x) (b : SmQ y) : m_plus [.val (encQ x), .val (encQ y)] m = some (.val (encQ (x + y)), m) := by
  have h := fraction_ok (m := m) (n := x.num * y.den + y.num * x.den) (den_mul_pos x y) (sz_mul2 a.den b.den)
  rw [add_eq] at h
  simp only [m_plus, bodyF, b_plus, List.map_cons, List.map_nil, List.length_cons, List.length_nil, Nat.reduceAdd, Nat.reduceSub, List.replicate, List.append_nil, ev_ret, ev_ap, ev_cons, ev_nil, ev_bin, ev_varS, ev_var0, ev_c, ob_some, encQ, pix_t, atI_0, atI_1, mulQ a.num b.den, mulQ b.num a.den, mulQ a.den b.den, pp_ii]
  rw [h]
  simp [leave, encQ]
theorem SmQ.neg (a : SmQ x) : SmQ (-x) := ⟨a.num.neg, a.den⟩
theorem minus_ok (a : SmQ x) (b : SmQ y) : m_minus [.val (encQ x), .val (encQ y)] m = some (.val (encQ (x - y)), m) := by
  have h := plus_ok (m := m) a (SmQ.neg b)
  rw [← Rat.sub_eq_add_neg, encQ_neg] at h
  simp only [m_minus, bodyF, b_minus, List.map_cons, List.map_nil, List.length_cons, List.length_nil, Nat.reduceAdd, Nat.reduceSub, List.replicate, List.append_nil, ev_ret, ev_ap, ev_cons, ev_nil, ev_bin, ev_un, ev_varS, ev_var0, ev_c, ob_some, show encQ y = .tuple [.int y.num, .int (y.den : Int)] from rfl, pix_t, atI_0, atI_1, pneg_i, ev_pTup, ev_valsC, ev_vals0, sz, Nat.reduceLeDiff, if_true]
  rw [h]
  simp [leave]
theorem less_ok (a : SmQ x) (b : SmQ y) : m_less [.val (encQ x), .val (encQ y)] m = some (.val (.bool (decide (x < y))), m) := by
  simp only [m_less, bodyF, b_less, List.map_cons, List.map_nil, List.length_cons, List.length_nil, Nat.reduceAdd, Nat.reduceSub, List.replicate, List.append_nil, ev_ret, ev_ap, ev_cons, ev_nil, ev_bin, ev_varS, ev_var0, ev_c, ob_some, encQ, pix_t, atI_0, atI_1, mulQ a.num b.den, mulQ b.num a.den, plt_ii]
  simp [leave, Rat.lt_iff]
theorem more_ok (a : SmQ x) (b : SmQ y) : m__law_more [.val (encQ x), .val (encQ y)] m = some (.val (.bool (decide (y < x))), m) := by
  simp only [m__law_more, bodyF, b__law_more, List.map_cons, List.map_nil, List.length_cons, List.length_nil, Nat.reduceAdd, Nat.reduceSub, List.replicate, List.append_nil, ev_ret, ev_ap, ev_cons, ev_nil, ev_bin, ev_varS, ev_var0, ev_c, ob_some, encQ, pix_t, atI_0, atI_1, mulQ a.num b.den, mulQ b.num a.den, pgt_ii]
  simp [leave, Rat.lt_iff]
theorem lowest_ok (hd : 0 < d) (hd2 : Sz 4000 d) : m__law_lowest [.val (.int n), .val (.int d)] m = some (.val (encQ ((n : Rat) / (d : Rat))), m) := by
  obtain ⟨b, rfl⟩ : ∃ b : Nat, d = b := ⟨d.toNat, by omega⟩
  have hb : 0 < b := by omega
  have hb2 : b < 2 ^ 4000 := by unfold Sz at hd2; omega
  have h := gcd_loop (c := c__law_lowest2) (body := w__law_lowest1) (m := m) (fun u v => [some (.val (.int n)), some (.val (.int b)), some (.val (.int u)), some (.val (.int v))])
    (fun a b => by simp [c__law_lowest2])
    (fun u v h => by simp only [w__law_lowest1, ev_par, ev_cons, ev_nil, ev_varS, ev_var0, ev_bin, ob_some, pmd_nat h, List.set_cons_succ, List.set_cons_zero]) 4000 fuel n.natAbs b hb2 (by decide)
  obtain ⟨e1, e2⟩ := low_num n b hd
  have hg0 : Nat.gcd n.natAbs b = Int.gcd n b := rfl
  have hg : (0 : Int) < ((Int.gcd n b : Nat) : Int) := by
    have : 0 < Int.gcd n b := Int.gcd_pos_of_ne_zero_right n (by omega)
    omega
  have hg2 : Sz 4000 ((Int.gcd n b : Nat) : Int) := by
    unfold Sz
    have : Int.gcd n b ≤ b := Nat.le_of_dvd hb (by
      have := Int.gcd_dvd_right n b
      exact_mod_cast this)
    omega
  have a1 : (if n < 0 then -n else n) = ((n.natAbs : Nat) : Int) := by omega
  have a2 : (if ((b : Nat) : Int) < 0 then -((b : Nat) : Int) else ((b : Nat) : Int)) = ((b : Nat) : Int) := by omega
  simp only [m__law_lowest, bodyF, b__law_lowest, List.map_cons, List.map_nil, List.length_cons, List.length_nil, Nat.reduceAdd, Nat.reduceSub, List.replicate, List.cons_append, List.nil_append, ev_seq, ev_par, ev_ap, ev_cons, ev_nil, ev_varS, ev_var0, ob_some, pabs_i, a1, a2, List.set_cons_succ, List.set_cons_zero, ev_then_nx, h, hg0]
  simp only [ev_asg, ev_eIf, ev_tOf, ev_bin, ev_varS, ev_var0, ev_c, ob_some, pgt_ii, ev_asB, hd, decide_true, if_true, ev_gNm, List.set_cons_succ, List.set_cons_zero, ev_then_nx, ev_ret, ev_ap, ev_cons, ev_nil, pdv_sz hg hg2 (by decide), ev_pTup, ev_valsC, ev_vals0]
  rw [e1, e2]
  simp [leave, encQ]
theorem lplus_ok (a : SmQ x) (b : SmQ y) : m__law_plus [.val (encQ x), .val (encQ y)] m = some (.val (encQ (x + y)), m) := by
  have h := lowest_ok (m := m) (n := x.num * y.den + y.num * x.den) (den_mul_pos x y) (sz_mul2 a.den b.den)
  rw [add_eq] at h
  simp only [m__law_plus, bodyF, b__law_plus, List.map_cons, List.map_nil, List.length_cons, List.length_nil, Nat.reduceAdd, Nat.reduceSub, List.replicate, List.append_nil, ev_ret, ev_ap, ev_cons, ev_nil, ev_bin, ev_varS, ev_var0, ev_c, ob_some, encQ, pix_t, atI_0, atI_1, mulQ a.num b.den, mulQ b.num a.den, mulQ a.den b.den, pp_ii]
  rw [h]
  simp [leave, encQ]
theorem ltimes_ok (a : SmQ x) (b : SmQ y) : m__law_times [.val (encQ x), .val (encQ y)] m = some (.val (encQ (x * y)), m) := by
  have h := lowest_ok (m := m) (n := x.num * y.num) (den_mul_pos x y) (sz_mul2 a.den b.den)
  rw [mul_eq] at h
  simp only [m__law_times, bodyF, b__law_times, List.map_cons, List.map_nil, List.length_cons, List.length_nil, Nat.reduceAdd, Nat.reduceSub, List.replicate, List.append_nil, ev_ret, ev_ap, ev_cons, ev_nil, ev_bin, ev_varS, ev_var0, ev_c, ob_some, encQ, pix_t, atI_0, atI_1, mulQ a.num b.num, mulQ a.den b.den]
  rw [h]
  simp [leave, encQ]
end
end L34

set_option Elab.async false
set_option linter.all false
set_option maxRecDepth 100000
namespace L34
open PySem PySem.Spec PyProof.Rows L2 Ev Qa Cut
/-- a taste -/
structure Tok (t : List Nat) : Prop where
  len : t.length ≤ 10
  le : ∀ a ∈ t, a ≤ 5
  pos : 0 < t.sum
  sum : t.sum ≤ 50
/-- a fraction, a multiple of 1 / D, at most 1000 -/
structure Qk (D : Nat) (x : Rat) : Prop where
  ein : In D x
  lo : -(1000 : Rat) ≤ x
  hi : x ≤ 1000
def Dk (D : Nat) : Prop := 0 < D ∧ D < 2 ^ 300
theorem Qk.sm {D : Nat} {x : Rat} (hD : Dk D) (h : Qk D x) : SmQ x := by
  refine SmQ.of (B := 1000) hD.1 h.ein h.lo h.hi ?_ (Nat.lt_of_lt_of_le hD.2 (by decide +kernel))
  exact Nat.lt_of_lt_of_le (Nat.mul_lt_mul_of_pos_left hD.2 (by decide)) (by decide +kernel)
theorem Qk.nat {D n : Nat} (h : n ≤ 1000) : Qk D (n : Rat) := ⟨In.nat n, by
  have h1 := nat_nn n
  grind, by exact_mod_cast h⟩
theorem Qk.one {D : Nat} : Qk D 1 := by
  have := Qk.nat (D := D) (n := 1) (by decide)
  exact this
theorem in_smul {D : Nat} {x : Rat} (a : Nat) (h : In D x) : In D ((a : Rat) * x) := by
  obtain ⟨k, h⟩ := h
  refine ⟨a * k, ?_⟩
  push_cast
  grind
theorem clamp_in {D : Nat} {x : Rat} (h : In D x) : In D (clampQ x) := by
  unfold clampQ
  split
  · split
    · exact h
    · exact In.nat 1
  · exact In.nat 0
theorem clamp_nn (x : Rat) : 0 ≤ clampQ x ∧ clampQ x ≤ 1 := by
  unfold clampQ
  split
  · split <;> grind
  · grind
theorem Ws_in {D : Nat} : ∀ (t : List Nat) {x : Rat}, In D x → In D (Ws t x)
  | [], _, _ => In.nat 0
  | a :: t, x, h => (in_smul a (clamp_in h)).add (Ws_in t (h.sub (In.nat 1)))
section
variable {m : M}
theorem wt_loop {t : List Nat} {x : Rat} {D : Nat} (hD : Dk D) (hx : In D x) (x0 : 0 ≤ x) (x1 : x ≤ 10) : ∀ (l : List Nat) (h : Nat) (tot : Rat) (e3 e4 e5 : Option R), In D tot → 0 ≤ tot → tot + (l.sum : Nat) ≤ 50 → h + l.length ≤ 10 → (∀ a ∈ l, a ≤ 5) →
    ∃ e3' e4' e5', loopL (gP (.tp (.cons (.nm 3) (.cons (.nm 4) .nil)))) l_worth_to1 (((encI l).zipIdx h).map fun p => .tuple [.int (p.2 : Nat), p.1]) [some (.val (encT t)), some (.val (encQ x)), some (.val (encQ tot)), e3, e4, e5] m =
      some (.nx [some (.val (encT t)), some (.val (encQ x)), some (.val (encQ (tot + Ws l (x - h)))), e3', e4', e5'] m)
  | [], h, tot, e3, e4, e5, _, _, _, _, _ => ⟨e3, e4, e5, by
    have : tot + Ws [] (x - h) = tot := by show tot + 0 = tot; grind
    rw [this]
    rfl⟩
  | a :: l, h, tot, e3, e4, e5, i1, i2, i3, i4, i5 => by
    rw [List.length_cons] at i4
    have e8 : (((a :: l).sum : Nat) : Rat) = (a : Rat) + (l.sum : Nat) := by
      rw [List.sum_cons]
      push_cast
      rfl
    rw [e8] at i3
    have ha := nat_nn a
    have hl := nat_nn l.sum
    have hh : (h : Rat) ≤ 10 := by
      have : h ≤ 10 := by omega
      exact_mod_cast this
    have hh0 := nat_nn h
    have hc := clamp_nn (x - h)
    have hac0 : 0 ≤ (a : Rat) * clampQ (x - h) := Rat.mul_nonneg ha hc.1
    have hac1 : (a : Rat) * clampQ (x - h) ≤ a := by
      have := Rat.mul_le_mul_of_nonneg_left hc.2 ha
      grind
    have iac : In D ((a : Rat) * clampQ (x - h)) := in_smul a (clamp_in (hx.sub (In.nat h)))
    have qx : Qk D x := ⟨hx, by grind, by grind⟩
    have qp : Qk D (x - h) := ⟨hx.sub (In.nat h), by grind, by grind⟩
    have qt : Qk D tot := ⟨i1, by grind, by grind⟩
    have qc : Qk D (clampQ (x - h)) := ⟨clamp_in qp.ein, by grind, by grind⟩
    have qa : Qk D (a : Rat) := Qk.nat (by have := i5 a (by simp); omega)
    have qac : Qk D ((a : Rat) * clampQ (x - h)) := ⟨iac, by grind, by grind⟩
    have f1 := minus_ok (m := m) (qx.sm hD) ((Qk.nat (D := D) (n := h) (by omega)).sm hD)
    rw [encQ_nat] at f1
    have f2 := less_ok (m := m) (qp.sm hD) ((Qk.one (D := D)).sm hD)
    rw [encQ_1] at f2
    have f3 := times_ok (m := m) (qa.sm hD) (qc.sm hD)
    rw [encQ_nat] at f3
    have f4 := plus_ok (m := m) (qt.sm hD) (qac.sm hD)
    have hb : ∃ e5', l_worth_to1 [some (.val (encT t)), some (.val (encQ x)), some (.val (encQ tot)), some (.val (.int (h : Nat))), some (.val (.int (a : Nat))), e5] m =
        some (.nx [some (.val (encT t)), some (.val (encQ x)), some (.val (encQ (tot + (a : Rat) * clampQ (x - h)))), some (.val (.int (h : Nat))), some (.val (.int (a : Nat))), e5'] m) := by
      refine ⟨some (.val (encQ (x - h))), ?_⟩
      by_cases hp : 0 < x - h
      · by_cases h1 : x - h < 1
        · have ec : clampQ (x - h) = x - h := by unfold clampQ; rw [if_pos hp, if_pos h1]
          rw [ec] at f3 f4 ⊢
          simp only [l_worth_to1, ev_seq, ev_asg, ev_par, ev_if, ev_ret, ev_retN, ev_expr, ev_bin, ev_un, ev_ap, ev_cons, ev_nil, ev_varS, ev_var0, ev_c, ob_some, ev_gNm, ev_tOf, ev_asB, ev_asI, ev_tNot, ev_tAnd, ev_tOr, ev_eOf, ev_eIf, ev_chain, List.set_cons_succ, List.set_cons_zero, ev_then_nx, ev_then_rt, ev_next, ev_pTup, ev_valsC, ev_vals0, ev_eL, ev_bm, ev_aug, pix_t, pix_l, pixq0, pixq1, atI_0, atI_1, atI_2, pp_ii, ps_ii, pa_ii, plt_ii, ple_ii, pgt_ii, pge_ii, peq_ii, pne_ii, pneg_i, List.length_cons, List.length_nil, Nat.reduceAdd, Nat.reduceSub, Nat.reduceLeDiff, sz, if_true, Bool.false_eq_true, if_false, Bool.not_true, Bool.not_false, leave_v, f1, (num_pos (x - h)).mpr hp, decide_true, f2, h1, f3, f4]
        · have ec : clampQ (x - h) = 1 := by unfold clampQ; rw [if_pos hp, if_neg h1]
          rw [ec] at f3 f4 ⊢
          rw [encQ_1] at f3
          simp only [l_worth_to1, ev_seq, ev_asg, ev_par, ev_if, ev_ret, ev_retN, ev_expr, ev_bin, ev_un, ev_ap, ev_cons, ev_nil, ev_varS, ev_var0, ev_c, ob_some, ev_gNm, ev_tOf, ev_asB, ev_asI, ev_tNot, ev_tAnd, ev_tOr, ev_eOf, ev_eIf, ev_chain, List.set_cons_succ, List.set_cons_zero, ev_then_nx, ev_then_rt, ev_next, ev_pTup, ev_valsC, ev_vals0, ev_eL, ev_bm, ev_aug, pix_t, pix_l, pixq0, pixq1, atI_0, atI_1, atI_2, pp_ii, ps_ii, pa_ii, plt_ii, ple_ii, pgt_ii, pge_ii, peq_ii, pne_ii, pneg_i, List.length_cons, List.length_nil, Nat.reduceAdd, Nat.reduceSub, Nat.reduceLeDiff, sz, if_true, Bool.false_eq_true, if_false, Bool.not_true, Bool.not_false, leave_v, f1, (num_pos (x - h)).mpr hp, decide_true, f2, h1, decide_false, f3, f4]
      · have ec : clampQ (x - h) = 0 := by unfold clampQ; rw [if_neg hp]
        have en : ¬ 0 < (x - h).num := fun z => hp ((num_pos _).mp z)
        have ez : tot + (a : Rat) * clampQ (x - h) = tot := by rw [ec]; grind
        rw [ez]
        simp only [l_worth_to1, ev_seq, ev_asg, ev_par, ev_if, ev_ret, ev_retN, ev_expr, ev_bin, ev_un, ev_ap, ev_cons, ev_nil, ev_varS, ev_var0, ev_c, ob_some, ev_gNm, ev_tOf, ev_asB, ev_asI, ev_tNot, ev_tAnd, ev_tOr, ev_eOf, ev_eIf, ev_chain, List.set_cons_succ, List.set_cons_zero, ev_then_nx, ev_then_rt, ev_next, ev_pTup, ev_valsC, ev_vals0, ev_eL, ev_bm, ev_aug, pix_t, pix_l, pixq0, pixq1, atI_0, atI_1, atI_2, pp_ii, ps_ii, pa_ii, plt_ii, ple_ii, pgt_ii, pge_ii, peq_ii, pne_ii, pneg_i, List.length_cons, List.length_nil, Nat.reduceAdd, Nat.reduceSub, Nat.reduceLeDiff, sz, if_true, Bool.false_eq_true, if_false, Bool.not_true, Bool.not_false, leave_v, f1, en, decide_false]
    obtain ⟨e5', hb⟩ := hb
    have e1 : ((h + 1 : Nat) : Rat) = (h : Rat) + 1 := by push_cast; rfl
    obtain ⟨e3', e4', e5'', ih⟩ := wt_loop hD hx x0 x1 l (h + 1) (tot + (a : Rat) * clampQ (x - h)) (some (.val (.int (h : Nat)))) (some (.val (.int (a : Nat)))) e5' (i1.add iac) (by grind) (by grind) (by omega) (fun b hb => i5 b (List.mem_cons_of_mem _ hb))
    refine ⟨e3', e4', e5'', ?_⟩
    have ez : encI (a :: l) = .int (a : Nat) :: encI l := rfl
    rw [ez, List.zipIdx_cons, List.map_cons, step_nx (env1 := [some (.val (encT t)), some (.val (encQ x)), some (.val (encQ tot)), some (.val (.int (h : Nat))), some (.val (.int (a : Nat))), e5]) rfl hb, ih]
    have e9 : tot + (a : Rat) * clampQ (x - h) + Ws l (x - ((h + 1 : Nat) : Rat)) = tot + Ws (a :: l) (x - h) := by
      show _ = tot + ((a : Rat) * clampQ (x - h) + Ws l (x - h - 1))
      rw [e1, show x - ((h : Rat) + 1) = x - h - 1 by grind]
      grind
    rw [e9]
theorem enumT {l : List Nat} : en1 [.val (encT l)] m = iL (((encI l).zipIdx 0).map fun p => .tuple [.int (p.2 : Nat), p.1]) m := rfl
/-- the worth of the piece up to a time -/
def Wq (t : List Nat) (x : Rat) : Rat := Ws t x * (1 / ((t.sum : Nat) : Rat))
theorem Tok.sp {t : List Nat} (T : Tok t) : (0 : Rat) < ((t.sum : Nat) : Rat) := by exact_mod_cast T.pos
theorem Tok.s50 {t : List Nat} (T : Tok t) : ((t.sum : Nat) : Rat) ≤ 50 := by exact_mod_cast T.sum
theorem inv_nn {n : Nat} (h : 0 < n) : (0 : Rat) < 1 / (n : Rat) ∧ 1 / (n : Rat) ≤ 1 := by
  have hp : (0 : Rat) < (n : Rat) := by exact_mod_cast h
  have h1 : (1 : Rat) ≤ (n : Rat) := by exact_mod_cast h
  rw [Rat.div_def, Rat.one_mul]
  have hi := Rat.inv_pos.mpr hp
  refine ⟨hi, ?_⟩
  have := Rat.mul_le_mul_of_nonneg_right h1 (Rat.le_of_lt hi)
  have e : (n : Rat) * (n : Rat)⁻¹ = 1 := Rat.mul_inv_cancel _ (by grind)
  grind
theorem dk_mul {D a : Nat} (hD : 0 < D ∧ D < 2 ^ 200) (ha : 0 < a) (h : a < 2 ^ 100) : Dk (D * a) := by
  refine ⟨Nat.mul_pos hD.1 ha, ?_⟩
  have : 2 ^ 300 = 2 ^ 200 * 2 ^ 100 := by rw [← Nat.pow_add]
  rw [this]
  exact Nat.mul_lt_mul'' hD.2 h
theorem dk_of {D : Nat} (hD : 0 < D ∧ D < 2 ^ 200) : Dk D := ⟨hD.1, Nat.lt_trans hD.2 (Nat.pow_lt_pow_right (by decide) (by decide))⟩
theorem small_pow {a : Nat} (h : a ≤ 1000000) : a < 2 ^ 100 := Nat.lt_of_le_of_lt h (by decide +kernel)
theorem Wq_01 {t : List Nat} (T : Tok t) (x : Rat) : 0 ≤ Wq t x ∧ Wq t x ≤ 1 := by
  have h1 := Ws_nn t x
  have h2 := Ws_le t x
  have hi := inv_nn T.pos
  unfold Wq
  refine ⟨Rat.mul_nonneg h1 (Rat.le_of_lt hi.1), ?_⟩
  have := Rat.mul_le_mul_of_nonneg_right h2 (Rat.le_of_lt hi.1)
  have e : ((t.sum : Nat) : Rat) * (1 / ((t.sum : Nat) : Rat)) = 1 := by
    have := T.sp
    grind
  grind
theorem Wq_in {t : List Nat} (T : Tok t) {D : Nat} {x : Rat} (hx : In D x) : In (D * t.sum) (Wq t x) := (Ws_in t hx).mul (In.inv T.pos)
theorem worth_to_ok {t : List Nat} (T : Tok t) {D : Nat} {x : Rat} (hD : 0 < D ∧ D < 2 ^ 200) (hx : In D x) (x0 : 0 ≤ x) (x1 : x ≤ 10) : m_worth_to [.val (encT t), .val (encQ x)] m = some (.val (encQ (Wq t x)), m) := by
  obtain ⟨e3, e4, e5, h⟩ := wt_loop (m := m) (t := t) (dk_of hD) hx x0 x1 t 0 0 none none none (In.nat 0) (by grind) (by have := T.s50; grind) (by have := T.len; omega) T.le
  have e0 : (0 : Rat) + Ws t (x - ((0 : Nat) : Rat)) = Ws t x := by
    have : x - ((0 : Nat) : Rat) = x := by show x - 0 = x; grind
    rw [this]
    grind
  rw [e0] at h
  have h1 := Ws_nn t x
  have h2 := Ws_le t x
  have h3 := T.s50
  have qw : Qk D (Ws t x) := ⟨Ws_in t hx, by grind, by grind⟩
  have hi := inv_nn T.pos
  have qi : Qk t.sum (1 / ((t.sum : Nat) : Rat)) := ⟨In.inv T.pos, by grind, by grind⟩
  have hs : Dk t.sum := ⟨T.pos, Nat.lt_of_le_of_lt T.sum (by decide +kernel)⟩
  have f := ltimes_ok (m := m) (qw.sm (dk_of hD)) (qi.sm hs)
  have f := times_ok (m := m) (qw.sm (dk_of hD)) (qi.sm hs)
  rw [encQ_inv T.pos] at f
  rw [encQ_0] at h
  simp only [m_worth_to, bodyF, List.map_cons, List.map_nil, List.replicate, List.cons_append, List.nil_append, List.append_nil, b_worth_to, ev_seq, ev_for, it_en, ev_asg, ev_par, ev_if, ev_ret, ev_retN, ev_expr, ev_bin, ev_un, ev_ap, ev_cons, ev_nil, ev_varS, ev_var0, ev_c, ob_some, ev_gNm, ev_tOf, ev_asB, ev_asI, ev_tNot, ev_tAnd, ev_tOr, ev_eOf, ev_eIf, ev_chain, List.set_cons_succ, List.set_cons_zero, ev_then_nx, ev_then_rt, ev_next, ev_pTup, ev_valsC, ev_vals0, ev_eL, ev_bm, ev_aug, pix_t, pix_l, pixq0, pixq1, atI_0, atI_1, atI_2, pp_ii, ps_ii, pa_ii, plt_ii, ple_ii, pgt_ii, pge_ii, peq_ii, pne_ii, pneg_i, List.length_cons, List.length_nil, Nat.reduceAdd, Nat.reduceSub, Nat.reduceLeDiff, sz, if_true, Bool.false_eq_true, if_false, Bool.not_true, Bool.not_false, leave_v, enumT, run_iL, h, psum_T, f]
  simp [Wq]
/-! the time up to which a piece has a worth -/
theorem tf_loop {t : List Nat} {w : Rat} {D : Nat} (hD : 0 < D ∧ D < 2 ^ 200) : ∀ (l : List Nat) (h : Nat) (x : Rat) (e3 e4 : Option R), In D x → 0 < x → x ≤ (l.sum : Nat) → l.sum ≤ 50 → h + l.length ≤ 10 → (∀ a ∈ l, a ≤ 5) →
    loopL (gP (.tp (.cons (.nm 3) (.cons (.nm 4) .nil)))) l_time_for1 (((encI l).zipIdx h).map fun p => .tuple [.int (p.2 : Nat), p.1]) [some (.val (encT t)), some (.val (encQ w)), some (.val (encQ x)), e3, e4] m = some (.rt (.val (encQ (Tf l x h))) m)
  | [], h, x, e3, e4, _, h1, h2, _, _, _ => by
    have : x ≤ 0 := by simpa using h2
    grind
  | a :: l, h, x, e3, e4, i1, h1, h2, h3, h4, h5 => by
    rw [List.length_cons] at h4
    rw [List.sum_cons] at h3
    have h3' : ((l.sum : Nat) : Rat) ≤ 50 := by
      have : l.sum ≤ 50 := by omega
      exact_mod_cast this
    have ha5 : a ≤ 5 := h5 a (by simp)
    have ha' : (a : Rat) ≤ 5 := by exact_mod_cast ha5
    have ha := nat_nn a
    have e8 : (((a :: l).sum : Nat) : Rat) = (a : Rat) + (l.sum : Nat) := by
      rw [List.sum_cons]
      push_cast
      rfl
    rw [e8] at h2
    have qx : Qk D x := ⟨i1, by grind, by grind⟩
    have qa : Qk D (a : Rat) := Qk.nat (by omega)
    have f1 := less_ok (m := m) (qa.sm (dk_of hD)) (qx.sm (dk_of hD))
    rw [encQ_nat] at f1
    have nz : ¬ x.num = 0 := fun z => by
      have := (num_zero x).mp z
      grind
    have ez : encI (a :: l) = .int (a : Nat) :: encI l := rfl
    rw [ez, List.zipIdx_cons, List.map_cons]
    have nx0 : ¬ x = 0 := by grind
    by_cases hx : x ≤ a
    · have hap : 0 < a := by
        have : (0 : Rat) < (a : Rat) := by grind
        exact_mod_cast this
      have hi := inv_nn hap
      have qi : Qk a (1 / (a : Rat)) := ⟨In.inv hap, by grind, by grind⟩
      have hDa : Dk a := ⟨hap, Nat.lt_of_le_of_lt ha5 (by decide +kernel)⟩
      have f2 := times_ok (m := m) (qx.sm (dk_of hD)) (qi.sm hDa)
      rw [encQ_inv hap] at f2
      have h6 : 0 ≤ x * (1 / (a : Rat)) := Rat.mul_nonneg (Rat.le_of_lt h1) (Rat.le_of_lt hi.1)
      have h7 : x * (1 / (a : Rat)) ≤ x := by
        have := Rat.mul_le_mul_of_nonneg_left hi.2 (Rat.le_of_lt h1)
        grind
      have qp : Qk (D * a) (x * (1 / (a : Rat))) := ⟨i1.mul (In.inv hap), by grind, by grind⟩
      have qh : Qk (D * a) (h : Rat) := Qk.nat (by omega)
      have hDD := dk_mul hD hap (small_pow (by omega))
      have f3 := plus_ok (m := m) (qh.sm hDD) (qp.sm hDD)
      rw [encQ_nat] at f3
      have nl : ¬ (a : Rat) < x := by grind
      have et : Tf (a :: l) x h = h + x * (1 / (a : Rat)) := by
        unfold Tf
        rw [if_neg nx0, if_pos hx]
      rw [et]
      refine step_rt (env1 := [some (.val (encT t)), some (.val (encQ w)), some (.val (encQ x)), some (.val (.int (h : Nat))), some (.val (.int (a : Nat)))]) (m1 := m) rfl ?_
      simp only [l_time_for1, ev_seq, ev_asg, ev_par, ev_if, ev_ret, ev_retN, ev_expr, ev_bin, ev_un, ev_ap, ev_cons, ev_nil, ev_varS, ev_var0, ev_c, ob_some, ev_gNm, ev_tOf, ev_asB, ev_asI, ev_tNot, ev_tAnd, ev_tOr, ev_eOf, ev_eIf, ev_chain, List.set_cons_succ, List.set_cons_zero, ev_then_nx, ev_then_rt, ev_next, ev_pTup, ev_valsC, ev_vals0, ev_eL, ev_bm, ev_aug, pix_t, pix_l, pixq0, pixq1, atI_0, atI_1, atI_2, pp_ii, ps_ii, pa_ii, plt_ii, ple_ii, pgt_ii, pge_ii, peq_ii, pne_ii, pneg_i, List.length_cons, List.length_nil, Nat.reduceAdd, Nat.reduceSub, Nat.reduceLeDiff, sz, if_true, Bool.false_eq_true, if_false, Bool.not_true, Bool.not_false, leave_v, nz, decide_false, f1, nl, f2, f3, decide_true]
    · have nl : (a : Rat) < x := by grind
      have f2 := minus_ok (m := m) (qx.sm (dk_of hD)) (qa.sm (dk_of hD))
      rw [encQ_nat] at f2
      have et : Tf (a :: l) x h = Tf l (x - a) (h + 1) := by
        rw [Tf, if_neg nx0, if_neg hx]
      rw [et]
      rw [step_nx (env1 := [some (.val (encT t)), some (.val (encQ w)), some (.val (encQ x)), some (.val (.int (h : Nat))), some (.val (.int (a : Nat)))]) (env2 := [some (.val (encT t)), some (.val (encQ w)), some (.val (encQ (x - a))), some (.val (.int (h : Nat))), some (.val (.int (a : Nat)))]) (m1 := m) (m2 := m) rfl
        (by simp only [l_time_for1, ev_seq, ev_asg, ev_par, ev_if, ev_ret, ev_retN, ev_expr, ev_bin, ev_un, ev_ap, ev_cons, ev_nil, ev_varS, ev_var0, ev_c, ob_some, ev_gNm, ev_tOf, ev_asB, ev_asI, ev_tNot, ev_tAnd, ev_tOr, ev_eOf, ev_eIf, ev_chain, List.set_cons_succ, List.set_cons_zero, ev_then_nx, ev_then_rt, ev_next, ev_pTup, ev_valsC, ev_vals0, ev_eL, ev_bm, ev_aug, pix_t, pix_l, pixq0, pixq1, atI_0, atI_1, atI_2, pp_ii, ps_ii, pa_ii, plt_ii, ple_ii, pgt_ii, pge_ii, peq_ii, pne_ii, pneg_i, List.length_cons, List.length_nil, Nat.reduceAdd, Nat.reduceSub, Nat.reduceLeDiff, sz, if_true, Bool.false_eq_true, if_false, Bool.not_true, Bool.not_false, leave_v, nz, decide_false, f1, nl, f2, decide_true])]
      exact tf_loop hD l (h + 1) (x - a) _ _ (i1.sub (In.nat a)) (by grind) (by grind) (by omega) (by omega) (fun b hb => h5 b (List.mem_cons_of_mem _ hb))
theorem time_for_ok {t : List Nat} (T : Tok t) {D : Nat} {w : Rat} (hD : 0 < D ∧ D < 2 ^ 200) (hw : In D w) (hl : In D (w * ((t.sum : Nat) : Rat))) (w0 : 0 < w) (w1 : w ≤ 1) : m_time_for [.val (encT t), .val (encQ w)] m = some (.val (encQ (Tf t (w * ((t.sum : Nat) : Rat)) 0)), m) := by
  have qw : Qk D w := ⟨hw, by grind, by grind⟩
  have qs : Qk D ((t.sum : Nat) : Rat) := Qk.nat (by have := T.sum; omega)
  have f1 := times_ok (m := m) (qw.sm (dk_of hD)) (qs.sm (dk_of hD))
  rw [encQ_nat] at f1
  have hs := T.sp
  have hp : 0 < w * ((t.sum : Nat) : Rat) := Rat.mul_pos w0 hs
  have hle : w * ((t.sum : Nat) : Rat) ≤ ((t.sum : Nat) : Rat) := by
    have := Rat.mul_le_mul_of_nonneg_right w1 (Rat.le_of_lt hs)
    grind
  have h := tf_loop (m := m) (t := t) (w := w) hD t 0 (w * ((t.sum : Nat) : Rat)) none none hl hp hle T.sum (by have := T.len; omega) T.le
  simp only [m_time_for, bodyF, List.map_cons, List.map_nil, List.replicate, List.cons_append, List.nil_append, List.append_nil, b_time_for, ev_seq, ev_for, it_en, ev_asg, ev_par, ev_if, ev_ret, ev_retN, ev_expr, ev_bin, ev_un, ev_ap, ev_cons, ev_nil, ev_varS, ev_var0, ev_c, ob_some, ev_gNm, ev_tOf, ev_asB, ev_asI, ev_tNot, ev_tAnd, ev_tOr, ev_eOf, ev_eIf, ev_chain, List.set_cons_succ, List.set_cons_zero, ev_then_nx, ev_then_rt, ev_next, ev_pTup, ev_valsC, ev_vals0, ev_eL, ev_bm, ev_aug, pix_t, pix_l, pixq0, pixq1, atI_0, atI_1, atI_2, pp_ii, ps_ii, pa_ii, plt_ii, ple_ii, pgt_ii, pge_ii, peq_ii, pne_ii, pneg_i, List.length_cons, List.length_nil, Nat.reduceAdd, Nat.reduceSub, Nat.reduceLeDiff, sz, if_true, Bool.false_eq_true, if_false, Bool.not_true, Bool.not_false, leave_v, enumT, run_iL, psum_T, f1, h]
  simp
end
end L34

set_option Elab.async false
set_option linter.all false
set_option maxRecDepth 100000
namespace L34
open PySem PySem.Spec PyProof.Rows L2 Ev Qa Cut
section
variable {m : M}
theorem in_frac {D : Nat} {x : Rat} (hx : In D x) (w : Nat) : In D (x - (w : Rat)) := hx.sub (In.nat w)
theorem sum_cut (t : List Nat) (h : Nat) : (t.take h).sum + (t.drop h).sum = t.sum := by
  have e := congrArg List.sum (List.take_append_drop h t)
  rw [List.sum_append] at e
  exact e
theorem in_div {k s : Nat} (h : 0 < s) : In s ((k : Rat) / (s : Rat)) := ⟨(k : Int), by
  have hp : (s : Rat) ≠ 0 := by
    intro e
    have : s = 0 := by exact_mod_cast e
    omega
  push_cast
  grind⟩
theorem div_01 {k s : Nat} (h : 0 < s) : 0 ≤ (k : Rat) / (s : Rat) ∧ (k ≤ s → (k : Rat) / (s : Rat) ≤ 1) := by
  have hp : (0 : Rat) < (s : Rat) := by exact_mod_cast h
  have i0 := Rat.inv_pos.mpr hp
  refine ⟨?_, fun hk => ?_⟩
  · rw [Rat.div_def]
    exact Rat.mul_nonneg (nat_nn k) (Rat.le_of_lt i0)
  · have hk' : (k : Rat) ≤ (s : Rat) := by exact_mod_cast hk
    have := Rat.mul_le_mul_of_nonneg_right hk' (Rat.le_of_lt i0)
    rw [← Rat.div_def, ← Rat.div_def] at this
    have e : (s : Rat) / (s : Rat) = 1 := by grind
    grind
theorem cmp_div {p a due : Rat} {s : Rat} (hs : 0 < s) : ((p + a) / s < due) ↔ ¬ (due * s - p ≤ a) := by
  have i0 := Rat.inv_pos.mpr hs
  constructor
  · intro z z2
    have := (Rat.mul_lt_mul_right hs).mpr z
    have e3 : (p + a) / s * s = p + a := by grind
    grind
  · intro z
    have z2 : p + a < due * s := by grind
    have := (Rat.mul_lt_mul_right i0).mpr z2
    have e3 : due * s * s⁻¹ = due := by grind
    have e4 : (p + a) * s⁻¹ = (p + a) / s := by rw [Rat.div_def]
    grind
theorem rest_eq {p due a : Rat} {s : Rat} (hs : 0 < s) (ha : 0 < a) : (due + -(p / s)) * (s / a) = (due * s - p) * (1 / a) := by
  have h1 : s ≠ 0 := by grind
  have h2 : a ≠ 0 := by grind
  grind
theorem in_sdiv {k s : Nat} (h : 0 < s) : In s ((k : Rat) / (s : Rat)) := in_div h
theorem law_worth_ok {t : List Nat} (T : Tok t) {D : Nat} {x : Rat} (hD : 0 < D ∧ D < 2 ^ 200) (hx : In D x) (x0 : 0 ≤ x) (x1 : x ≤ (t.length : Rat)) : m__law_worth [.val (encT t), .val (encQ x)] m = some (.val (encQ (Wq t x)), m) := by
  obtain ⟨w, hw1, hw2, hw3, hw4⟩ := floor_facts x x0
  have hlen : ((t.length : Nat) : Rat) ≤ 10 := by
    have := T.len
    exact_mod_cast this
  have qx : Qk D x := ⟨hx, by grind, by grind⟩
  have hsm := qx.sm (dk_of hD)
  have hwl : w ≤ t.length := by
    have : (w : Rat) ≤ (t.length : Rat) := by grind
    exact_mod_cast this
  have hwe : w < t.length ∨ x = w := by
    rcases Nat.lt_or_ge w t.length with h | h
    · exact .inl h
    · have : w = t.length := by omega
      subst this
      exact .inr (by grind)
  have hf := Ws_floor t w hw2 hw3 hwl hwe
  have d1 : pDiv (.val (.int x.num)) (.val (.int (x.den : Int))) m = some (.val (.int (w : Nat)), m) := by
    rw [pdv_sz (den_pos x) hsm.den (by decide), hw1]
  have d2 : pMod (.val (.int x.num)) (.val (.int (x.den : Int))) m = some (.val (.int (x.num % (x.den : Int))), m) := pmd_ii (den_pos x)
  have d3 := lowest_ok (m := m) (n := x.num % (x.den : Int)) (den_pos x) (hsm.den.up (by decide))
  rw [hw4] at d3
  have sT : (t.take w).sum ≤ 50 := by
    have : (t.take w).sum ≤ t.sum := by
      have := sum_cut t w
      omega
    have := T.sum
    omega
  have d4 : sl1 (.val (encT t)) none (some ((w : Nat) : Int)) m = some (.val (encT (t.take w)), m) := by
    show sl1 (.val (.tuple (encI t))) none (some ((w : Nat) : Int)) m = _
    rw [sl1_t, cut_take, encI_take]
    rfl
  have hi := inv_nn T.pos
  have qi : Qk t.sum (1 / ((t.sum : Nat) : Rat)) := ⟨In.inv T.pos, by grind, by grind⟩
  have hs : Dk t.sum := ⟨T.pos, Nat.lt_of_le_of_lt T.sum (by decide +kernel)⟩
  have qw : Qk D (Ws t x) := ⟨Ws_in t hx, by have := Ws_nn t x; grind, by have := Ws_le t x; have := T.s50; grind⟩
  have d5 := ltimes_ok (m := m) (qw.sm (dk_of hD)) (qi.sm hs)
  rw [encQ_inv T.pos] at d5
  have qtk : Qk D (((t.take w).sum : Nat) : Rat) := Qk.nat (by omega)
  have qp : Qk D (x - (w : Rat)) := ⟨in_frac hx w, by grind, by grind⟩
  by_cases hp : 0 < x - (w : Rat)
  · rw [if_pos hp] at hf
    have hwlt : w < t.length := by
      rcases hwe with h | h
      · exact h
      · grind
    obtain ⟨a, ha⟩ : ∃ a, t[w]? = some a := ⟨t[w], List.getElem?_eq_getElem hwlt⟩
    have hg : t.getD w 0 = a := by rw [List.getD, ha]; rfl
    rw [hg] at hf
    have ha5 : a ≤ 5 := T.le a (List.mem_of_getElem? ha)
    have ha5' : (a : Rat) ≤ 5 := by exact_mod_cast ha5
    have ha0 := nat_nn a
    have qa : Qk D (a : Rat) := Qk.nat (by omega)
    have e1 := ltimes_ok (m := m) (qa.sm (dk_of hD)) (qp.sm (dk_of hD))
    rw [encQ_nat] at e1
    have b1 : 0 ≤ (a : Rat) * (x - w) := Rat.mul_nonneg ha0 (by grind)
    have b2 : (a : Rat) * (x - w) ≤ a := by
      have := Rat.mul_le_mul_of_nonneg_left (show x - (w : Rat) ≤ 1 by grind) ha0
      grind
    have qap : Qk D ((a : Rat) * (x - w)) := ⟨in_smul a qp.ein, by grind, by grind⟩
    have e2 := lplus_ok (m := m) (qtk.sm (dk_of hD)) (qap.sm (dk_of hD))
    rw [encQ_nat, ← hf] at e2
    simp only [m__law_worth, bodyF, List.map_cons, List.map_nil, List.replicate, List.cons_append, List.nil_append, List.append_nil, b__law_worth, ev_seq, ev_asg, ev_par, ev_if, ev_ret, ev_retN, ev_expr, ev_bin, ev_un, ev_ap, ev_cons, ev_nil, ev_varS, ev_var0, ev_c, ob_some, ev_gNm, ev_tOf, ev_asB, ev_asI, ev_tNot, ev_tAnd, ev_tOr, ev_eOf, ev_eIf, ev_chain, List.set_cons_succ, List.set_cons_zero, ev_then_nx, ev_then_rt, ev_next, ev_pTup, ev_valsC, ev_vals0, ev_eL, ev_bm, ev_aug, pix_t, pix_l, pixq0, pixq1, atI_0, atI_1, atI_2, pp_ii, ps_ii, pa_ii, plt_ii, ple_ii, pgt_ii, pge_ii, peq_ii, pne_ii, pneg_i, List.length_cons, List.length_nil, Nat.reduceAdd, Nat.reduceSub, Nat.reduceLeDiff, sz, if_true, Bool.false_eq_true, if_false, Bool.not_true, Bool.not_false, leave_v, ev_sl, ev_oNone, ev_oSome, d1, d2, d3, d4, psum_T, (num_pos _).mpr hp, decide_true, pix_T ha, e1, e2, d5]
    simp [Wq]
  · rw [if_neg hp] at hf
    have hn : ¬ 0 < (x - (w : Rat)).num := fun z => hp ((num_pos _).mp z)
    have hf' : Ws t x = (((t.take w).sum : Nat) : Rat) := by rw [hf]; grind
    rw [hf', encQ_nat] at d5
    simp only [m__law_worth, bodyF, List.map_cons, List.map_nil, List.replicate, List.cons_append, List.nil_append, List.append_nil, b__law_worth, ev_seq, ev_asg, ev_par, ev_if, ev_ret, ev_retN, ev_expr, ev_bin, ev_un, ev_ap, ev_cons, ev_nil, ev_varS, ev_var0, ev_c, ob_some, ev_gNm, ev_tOf, ev_asB, ev_asI, ev_tNot, ev_tAnd, ev_tOr, ev_eOf, ev_eIf, ev_chain, List.set_cons_succ, List.set_cons_zero, ev_then_nx, ev_then_rt, ev_next, ev_pTup, ev_valsC, ev_vals0, ev_eL, ev_bm, ev_aug, pix_t, pix_l, pixq0, pixq1, atI_0, atI_1, atI_2, pp_ii, ps_ii, pa_ii, plt_ii, ple_ii, pgt_ii, pge_ii, peq_ii, pne_ii, pneg_i, List.length_cons, List.length_nil, Nat.reduceAdd, Nat.reduceSub, Nat.reduceLeDiff, sz, if_true, Bool.false_eq_true, if_false, Bool.not_true, Bool.not_false, leave_v, ev_sl, ev_oNone, ev_oSome, d1, d2, d3, d4, psum_T, hn, decide_false, d5]
    simp [Wq, hf']
/-! the law's time -/
theorem div_pos_nat {a b : Nat} (hb : 0 < b) : ((a : Nat) : Int) = ((a : Nat) : Int) ∧ (0 : Int) < ((b : Nat) : Int) := ⟨rfl, by omega⟩
theorem low_nat {a b : Nat} (hb : 0 < b) (hb2 : b ≤ 1000000) : m__law_lowest [.val (.int (a : Nat)), .val (.int (b : Nat))] m = some (.val (encQ ((a : Rat) / (b : Rat))), m) := by
  have h := lowest_ok (m := m) (n := (a : Int)) (d := (b : Int)) (by omega) (by
    show ((b : Nat) : Int).natAbs < 2 ^ 4000
    rw [Int.natAbs_natCast]
    exact Nat.lt_of_le_of_lt hb2 (by decide +kernel))
  push_cast at h
  exact h
/-- the law's walk over the hours -/
theorem lt_loop {t : List Nat} (T : Tok t) {first due : Rat} {wD : D} {D : Nat} (hD : 0 < D ∧ D < 2 ^ 200) (hf : In D first) (f0 : 0 ≤ first) (f1 : first ≤ 10) (hdue : In D due) (hds : In D (due * ((t.sum : Nat) : Rat))) (d0 : 0 < due) (d1 : due ≤ 1) (hfw : first < Tf t (due * ((t.sum : Nat) : Rat)) 0) :
    ∀ (l : List Nat) (h : Nat) (pre : Nat) (e5 e6 e7 e8 : Option R), t.drop h = l → (t.take h).sum = pre → h ≤ t.length → (pre : Rat) < due * ((t.sum : Nat) : Rat) → due * ((t.sum : Nat) : Rat) ≤ ((pre + l.sum : Nat) : Rat) → Tf t (due * ((t.sum : Nat) : Rat)) 0 = Tf l (due * ((t.sum : Nat) : Rat) - pre) h →
    loopL (gNm 5) l__law_time1 ((List.range' h l.length).map fun j : Nat => PyData.int j) [some (.val (encT t)), some (.val (encQ first)), some (.val wD), some (.val (encQ due)), some (.val (encQ ((pre : Rat) / ((t.sum : Nat) : Rat)))), e5, e6, e7, e8] m = some (.rt (.val (encQ (Tf t (due * ((t.sum : Nat) : Rat)) 0))) m)
  | [], h, pre, e5, e6, e7, e8, _, _, _, h1, h2, _ => by
    exfalso
    simp only [List.sum_nil, Nat.add_zero] at h2
    grind
  | a :: l, h, pre, e5, e6, e7, e8, hd, ht, hl, h1, h2, heq => by
    have hs := T.sp
    have hs50 := T.s50
    have hai : t[h]? = some a := by
      have := congrArg (·[0]?) hd
      simpa using this
    have ha5 : a ≤ 5 := T.le a (List.mem_of_getElem? hai)
    have ha5' : (a : Rat) ≤ 5 := by exact_mod_cast ha5
    have ha0 := nat_nn a
    have hlt : h < t.length := (List.getElem?_eq_some_iff.mp hai).1
    have hsum : pre + (a :: l).sum = t.sum := by
      rw [← ht, ← hd]
      exact sum_cut t h
    have hpre : pre ≤ 50 := by
      have := T.sum
      omega
    have hpre' : (pre : Rat) ≤ 50 := by exact_mod_cast hpre
    have hpre0 := nat_nn pre
    have dks : Dk t.sum := ⟨T.pos, Nat.lt_of_le_of_lt T.sum (by decide +kernel)⟩
    have inS : ∀ k : Nat, In t.sum ((k : Rat) / ((t.sum : Nat) : Rat)) := fun k => in_div T.pos
    have leS : ∀ k : Nat, k ≤ t.sum → (k : Rat) / ((t.sum : Nat) : Rat) ≤ 1 := fun k hk => (div_01 T.pos).2 hk
    have nnS : ∀ k : Nat, 0 ≤ (k : Rat) / ((t.sum : Nat) : Rat) := fun k => (div_01 T.pos).1
    have hal : pre + a ≤ t.sum := by rw [← hsum, List.sum_cons]; omega
    have qpre : Qk t.sum ((pre : Rat) / ((t.sum : Nat) : Rat)) := ⟨inS pre, by have := nnS pre; grind, by have := leS pre (by omega); grind⟩
    have qa : Qk t.sum ((a : Rat) / ((t.sum : Nat) : Rat)) := ⟨inS a, by have := nnS a; grind, by have := leS a (by omega); grind⟩
    have qaft : Qk t.sum (((pre + a : Nat) : Rat) / ((t.sum : Nat) : Rat)) := ⟨inS _, by have := nnS (pre + a); grind, by have := leS (pre + a) hal; grind⟩
    have qdue : Qk D due := ⟨hdue, by grind, by grind⟩
    have c1 := low_nat (m := m) (a := a) T.pos (by have := T.sum; omega)
    have c2 := lplus_ok (m := m) (qpre.sm dks) (qa.sm dks)
    have e1 : (pre : Rat) / ((t.sum : Nat) : Rat) + (a : Rat) / ((t.sum : Nat) : Rat) = ((pre + a : Nat) : Rat) / ((t.sum : Nat) : Rat) := by
      push_cast
      grind
    rw [e1] at c2
    have c3 := more_ok (m := m) (qdue.sm (dk_of hD)) (qaft.sm dks)
    have cmp : (((pre + a : Nat) : Rat) / ((t.sum : Nat) : Rat) < due) ↔ ¬ (due * ((t.sum : Nat) : Rat) - pre ≤ a) := by
      have e2 : ((pre + a : Nat) : Rat) = pre + a := by push_cast; rfl
      rw [e2]
      exact cmp_div hs
    rw [List.length_cons, List.range'_succ, List.map_cons]
    by_cases hx : due * ((t.sum : Nat) : Rat) - pre ≤ a
    · have nc : ¬ (((pre + a : Nat) : Rat) / ((t.sum : Nat) : Rat) < due) := fun z => (cmp.mp z) hx
      have hap : 0 < a := by
        have : (0 : Rat) < (a : Rat) := by grind
        exact_mod_cast this
      have nz : ¬ ((a : Int) = 0) := by omega
      have et : Tf (a :: l) (due * ((t.sum : Nat) : Rat) - pre) h = h + (due * ((t.sum : Nat) : Rat) - pre) * (1 / (a : Rat)) := by
        unfold Tf
        rw [if_neg (by grind), if_pos hx]
      have ia := inv_nn hap
      have qneg : Qk t.sum (-((pre : Rat) / ((t.sum : Nat) : Rat))) := ⟨qpre.ein.neg, by have := leS pre (by omega); grind, by have := nnS pre; grind⟩
      have c4 := lplus_ok (m := m) (qdue.sm (dk_of hD)) (qneg.sm dks)
      rw [encQ_neg] at c4
      have hDs : Dk (D * t.sum) := dk_mul hD T.pos (small_pow (by have := T.sum; omega))
      have qrest : Qk (D * t.sum) (due + -((pre : Rat) / ((t.sum : Nat) : Rat))) := ⟨(hdue.up t.sum).add ((qpre.ein.neg).dvd ⟨D, Nat.mul_comm _ _⟩), by have := leS pre (by omega); grind, by have := nnS pre; grind⟩
      have c5 := low_nat (m := m) (a := t.sum) hap (by omega)
      have qsa : Qk a (((t.sum : Nat) : Rat) / (a : Rat)) := by
        have e5 : ((t.sum : Nat) : Rat) / (a : Rat) = ((t.sum : Nat) : Rat) * (1 / (a : Rat)) := by rw [Rat.div_def, Rat.div_def, Rat.one_mul]
        have h9 := Rat.mul_le_mul_of_nonneg_left ia.2 (Rat.le_of_lt hs)
        have h10 := Rat.mul_nonneg (Rat.le_of_lt hs) (Rat.le_of_lt ia.1)
        exact ⟨in_sdiv hap, by rw [e5]; grind, by rw [e5]; grind⟩
      have dka : Dk a := ⟨hap, Nat.lt_of_le_of_lt ha5 (by decide +kernel)⟩
      have c6 := ltimes_ok (m := m) (qrest.sm hDs) (qsa.sm dka)
      have e66 : (due + -((pre : Rat) / ((t.sum : Nat) : Rat))) * (((t.sum : Nat) : Rat) / (a : Rat)) = (due * ((t.sum : Nat) : Rat) - pre) * (1 / (a : Rat)) := by
        exact rest_eq hs (by exact_mod_cast hap)
      rw [e66] at c6
      have hp9 : 0 ≤ (due * ((t.sum : Nat) : Rat) - pre) * (1 / (a : Rat)) := Rat.mul_nonneg (by grind) (Rat.le_of_lt ia.1)
      have hp10 : (due * ((t.sum : Nat) : Rat) - pre) * (1 / (a : Rat)) ≤ 5 := by
        have := Rat.mul_le_mul_of_nonneg_left ia.2 (show 0 ≤ due * ((t.sum : Nat) : Rat) - pre by grind)
        grind
      have dkDa : Dk (D * a) := dk_mul hD hap (small_pow (by omega))
      have qpart : Qk (D * a) ((due * ((t.sum : Nat) : Rat) - pre) * (1 / (a : Rat))) := ⟨(hds.sub (In.nat pre)).mul (In.inv hap), by grind, by grind⟩
      have hh10 : h ≤ 10 := by have := T.len; omega
      have qh : Qk (D * a) (h : Rat) := Qk.nat (by omega)
      have c7 := lplus_ok (m := m) (qh.sm dkDa) (qpart.sm dkDa)
      rw [encQ_nat, ← et] at c7
      have hh0 := nat_nn h
      have hh10' : (h : Rat) ≤ 10 := by exact_mod_cast hh10
      have qT : Qk (D * a) (Tf (a :: l) (due * ((t.sum : Nat) : Rat) - pre) h) := ⟨by rw [et]; exact (In.nat h).add qpart.ein, by rw [et]; grind, by rw [et]; grind⟩
      have qfi : Qk D first := ⟨hf, by grind, by grind⟩
      have c8 := more_ok (m := m) (qfi.sm (dk_of hD)) (qT.sm dkDa)
      rw [← heq] at c7 c8
      have nf : ¬ Tf t (due * ((t.sum : Nat) : Rat)) 0 < first := by grind
      refine step_rt (env1 := [some (.val (encT t)), some (.val (encQ first)), some (.val wD), some (.val (encQ due)), some (.val (encQ ((pre : Rat) / ((t.sum : Nat) : Rat)))), some (.val (.int (h : Nat))), e6, e7, e8]) (m1 := m) rfl ?_
      simp only [l__law_time1, ev_seq, ev_asg, ev_par, ev_if, ev_ret, ev_retN, ev_expr, ev_bin, ev_un, ev_ap, ev_cons, ev_nil, ev_varS, ev_var0, ev_c, ob_some, ev_gNm, ev_tOf, ev_asB, ev_asI, ev_tNot, ev_tAnd, ev_tOr, ev_eOf, ev_eIf, ev_chain, List.set_cons_succ, List.set_cons_zero, ev_then_nx, ev_then_rt, ev_next, ev_pTup, ev_valsC, ev_vals0, ev_eL, ev_bm, ev_aug, pix_t, pix_l, pixq0, pixq1, atI_0, atI_1, atI_2, pp_ii, ps_ii, pa_ii, plt_ii, ple_ii, pgt_ii, pge_ii, peq_ii, pne_ii, pneg_i, List.length_cons, List.length_nil, Nat.reduceAdd, Nat.reduceSub, Nat.reduceLeDiff, sz, if_true, Bool.false_eq_true, if_false, Bool.not_true, Bool.not_false, leave_v, pix_T hai, psum_T, c1, c2, c3, nc, decide_false, nz, Int.zero_sub, c4, c5, c6, c7, c8, nf]
    · have yc : ((pre + a : Nat) : Rat) / ((t.sum : Nat) : Rat) < due := cmp.mpr hx
      rw [step_nx (env1 := [some (.val (encT t)), some (.val (encQ first)), some (.val wD), some (.val (encQ due)), some (.val (encQ ((pre : Rat) / ((t.sum : Nat) : Rat)))), some (.val (.int (h : Nat))), e6, e7, e8])
        (env2 := [some (.val (encT t)), some (.val (encQ first)), some (.val wD), some (.val (encQ due)), some (.val (encQ (((pre + a : Nat) : Rat) / ((t.sum : Nat) : Rat)))), some (.val (.int (h : Nat))), some (.val (encQ (((pre + a : Nat) : Rat) / ((t.sum : Nat) : Rat)))), e7, e8]) (m1 := m) (m2 := m) rfl
        (by simp only [l__law_time1, ev_seq, ev_asg, ev_par, ev_if, ev_ret, ev_retN, ev_expr, ev_bin, ev_un, ev_ap, ev_cons, ev_nil, ev_varS, ev_var0, ev_c, ob_some, ev_gNm, ev_tOf, ev_asB, ev_asI, ev_tNot, ev_tAnd, ev_tOr, ev_eOf, ev_eIf, ev_chain, List.set_cons_succ, List.set_cons_zero, ev_then_nx, ev_then_rt, ev_next, ev_pTup, ev_valsC, ev_vals0, ev_eL, ev_bm, ev_aug, pix_t, pix_l, pixq0, pixq1, atI_0, atI_1, atI_2, pp_ii, ps_ii, pa_ii, plt_ii, ple_ii, pgt_ii, pge_ii, peq_ii, pne_ii, pneg_i, List.length_cons, List.length_nil, Nat.reduceAdd, Nat.reduceSub, Nat.reduceLeDiff, sz, if_true, Bool.false_eq_true, if_false, Bool.not_true, Bool.not_false, leave_v, pix_T hai, psum_T, c1, c2, c3, yc, decide_true])]
      have e9 : ((pre + a : Nat) : Rat) = (pre : Rat) + a := by push_cast; rfl
      have hd2 : t.drop (h + 1) = l := by
        have := congrArg (List.drop 1) hd
        simpa [List.drop_drop, Nat.add_comm] using this
      have ht2 : (t.take (h + 1)).sum = pre + a := by
        rw [List.take_add_one, hai, List.sum_append, ht]
        simp
      refine lt_loop T hD hf f0 f1 hdue hds d0 d1 hfw l (h + 1) (pre + a) _ _ _ _ hd2 ht2 (by omega) (by rw [e9]; grind) (by rw [Nat.add_assoc, ← List.sum_cons]; exact h2) ?_
      rw [heq, Tf, if_neg (by grind), if_neg hx, e9]
      congr 1
      grind
theorem law_time_ok {t : List Nat} (T : Tok t) {first worth due : Rat} {D : Nat} (hD : 0 < D ∧ D < 2 ^ 200) (hf : In D first) (f0 : 0 ≤ first) (f1 : first ≤ (t.length : Rat)) (hw : SmQ worth) (edue : due = Wq t first + worth) (hdue : In D due) (hds : In D (due * ((t.sum : Nat) : Rat))) (d0 : 0 < due) (d1 : due ≤ 1)
    (hfw : first < Tf t (due * ((t.sum : Nat) : Rat)) 0) : m__law_time [.val (encT t), .val (encQ first), .val (encQ worth)] m = some (.val (encQ (Tf t (due * ((t.sum : Nat) : Rat)) 0)), m) := by
  have hlen : ((t.length : Nat) : Rat) ≤ 10 := by
    have := T.len
    exact_mod_cast this
  have hs := T.sp
  have c1 := law_worth_ok (m := m) T hD hf f0 f1
  have hW := Wq_01 T first
  have dkDs : Dk (D * t.sum) := dk_mul hD T.pos (small_pow (by have := T.sum; omega))
  have qW : Qk (D * t.sum) (Wq t first) := ⟨Wq_in T hf, by grind, by grind⟩
  have c2 := lplus_ok (m := m) (qW.sm dkDs) hw
  rw [← edue] at c2
  have hle : due * ((t.sum : Nat) : Rat) ≤ ((0 + t.sum : Nat) : Rat) := by
    have := Rat.mul_le_mul_of_nonneg_right d1 (Rat.le_of_lt hs)
    rw [Nat.zero_add]
    grind
  have hp : ((0 : Nat) : Rat) < due * ((t.sum : Nat) : Rat) := Rat.mul_pos d0 hs
  have e0 : due * ((t.sum : Nat) : Rat) - ((0 : Nat) : Rat) = due * ((t.sum : Nat) : Rat) := by
    show due * ((t.sum : Nat) : Rat) - 0 = _
    grind
  have h := lt_loop (m := m) (wD := encQ worth) T hD hf f0 (by grind) hdue hds d0 d1 hfw t 0 0 none none none none rfl rfl (Nat.zero_le _) hp hle (by rw [e0])
  have z0 : ((0 : Nat) : Rat) / ((t.sum : Nat) : Rat) = 0 := by
    show (0 : Rat) / _ = 0
    rw [Rat.div_def, Rat.zero_mul]
  rw [z0, encQ_0, ← List.range_eq_range'] at h
  simp only [m__law_time, bodyF, List.map_cons, List.map_nil, List.replicate, List.cons_append, List.nil_append, List.append_nil, b__law_time, ev_seq, ev_for, it_rg1, ev_asg, ev_par, ev_if, ev_ret, ev_retN, ev_expr, ev_bin, ev_un, ev_ap, ev_cons, ev_nil, ev_varS, ev_var0, ev_c, ob_some, ev_gNm, ev_tOf, ev_asB, ev_asI, ev_tNot, ev_tAnd, ev_tOr, ev_eOf, ev_eIf, ev_chain, List.set_cons_succ, List.set_cons_zero, ev_then_nx, ev_then_rt, ev_next, ev_pTup, ev_valsC, ev_vals0, ev_eL, ev_bm, ev_aug, pix_t, pix_l, pixq0, pixq1, atI_0, atI_1, atI_2, pp_ii, ps_ii, pa_ii, plt_ii, ple_ii, pgt_ii, pge_ii, peq_ii, pne_ii, pneg_i, List.length_cons, List.length_nil, Nat.reduceAdd, Nat.reduceSub, Nat.reduceLeDiff, sz, if_true, Bool.false_eq_true, if_false, Bool.not_true, Bool.not_false, leave_v, c1, c2, plen_T, rg1_nat (show t.length ≤ 1000000000 by have := T.len; omega), run_iL, h]
  simp
end
end L34

set_option Elab.async false
set_option linter.all false
set_option maxRecDepth 100000
namespace L34
open PySem PySem.Spec PyProof.Rows L2 Ev Qa Cut
/-! houses pick from the left -/
def dueQ (ts : List (List Nat)) (n : Nat) (at_ : Rat) (i : Nat) : Rat := Wq (ts.getD i []) at_ + 1 / (n : Rat)
def tau (ts : List (List Nat)) (n : Nat) (at_ : Rat) (i : Nat) : Rat := Tf (ts.getD i []) (dueQ ts n at_ i * (((ts.getD i []).sum : Nat) : Rat)) 0
def pk (f : Nat → Rat) : List Nat → Option (Nat × Rat) → Option (Nat × Rat)
  | [], b => b
  | i :: l, none => pk f l (some (i, f i))
  | i :: l, some (j, y) => if f i < y then pk f l (some (i, f i)) else pk f l (some (j, y))
theorem pk_some (f : Nat → Rat) : ∀ (l : List Nat) (j : Nat) (y : Rat), ∃ i x, pk f l (some (j, y)) = some (i, x) ∧ ((i = j ∧ x = y) ∨ (i ∈ l ∧ x = f i)) ∧ x ≤ y ∧ ∀ k ∈ l, x ≤ f k
  | [], j, y => ⟨j, y, rfl, .inl ⟨rfl, rfl⟩, by grind, fun k hk => by cases hk⟩
  | a :: l, j, y => by
    unfold pk
    by_cases h : f a < y
    · rw [if_pos h]
      obtain ⟨i, x, e, h1, h2, h3⟩ := pk_some f l a (f a)
      refine ⟨i, x, e, ?_, by grind, fun k hk => ?_⟩
      · rcases h1 with ⟨p, q⟩ | ⟨p, q⟩
        · exact .inr ⟨by rw [p]; simp, by rw [q, p]⟩
        · exact .inr ⟨List.mem_cons_of_mem _ p, q⟩
      · rcases List.mem_cons.mp hk with z | z
        · rw [z]; exact h2
        · exact h3 k z
    · rw [if_neg h]
      obtain ⟨i, x, e, h1, h2, h3⟩ := pk_some f l j y
      refine ⟨i, x, e, ?_, h2, fun k hk => ?_⟩
      · rcases h1 with z | ⟨p, q⟩
        · exact .inl z
        · exact .inr ⟨List.mem_cons_of_mem _ p, q⟩
      · rcases List.mem_cons.mp hk with z | z
        · rw [z]; grind
        · exact h3 k z
theorem pk_ne (f : Nat → Rat) {l : List Nat} (h : l ≠ []) : ∃ i, pk f l none = some (i, f i) ∧ i ∈ l ∧ ∀ k ∈ l, f i ≤ f k := by
  cases l with
  | nil => exact absurd rfl h
  | cons a l =>
    obtain ⟨i, x, e, h1, h2, h3⟩ := pk_some f l a (f a)
    have hx : x = f i := by
      rcases h1 with ⟨p, q⟩ | ⟨_, q⟩
      · rw [q, p]
      · exact q
    subst hx
    refine ⟨i, e, ?_, fun k hk => ?_⟩
    · rcases h1 with ⟨p, _⟩ | ⟨p, _⟩
      · rw [p]; simp
      · exact List.mem_cons_of_mem _ p
    · rcases List.mem_cons.mp hk with z | z
      · rw [z]; exact h2
      · exact h3 k z
/-- what the law's nights are -/
structure Nts (ts : List (List Nat)) (n hours : Nat) : Prop where
  len : ts.length = n
  n2 : 2 ≤ n
  n5 : n ≤ 5
  tok : ∀ t ∈ ts, Tok t ∧ t.length = hours
theorem Nts.at_ {ts : List (List Nat)} {n hours : Nat} (T : Nts ts n hours) {i : Nat} (h : i < n) : Tok (ts.getD i []) ∧ (ts.getD i []).length = hours := by
  refine T.tok _ ?_
  have : i < ts.length := by rw [T.len]; exact h
  rw [List.getD, List.getElem?_eq_getElem this]
  exact List.getElem_mem this
/-- k houses have their pieces -/
structure Stg (ts : List (List Nat)) (n hours : Nat) (k : Nat) (left : List Nat) (x : Rat) : Prop where
  nd : left.Nodup
  lt : ∀ i ∈ left, i < n
  len : left.length + k = n
  ein : In (3600 ^ k) x
  lo : 0 ≤ x
  hi : x ≤ (hours : Rat)
  had : ∀ i ∈ left, Wq (ts.getD i []) x ≤ (k : Rat) * (1 / (n : Rat))
def nxt (i : Nat) (left : List Nat) : List Nat := left.filter fun j => j != i
theorem Tf_in {E : Nat} : ∀ (t : List Nat) {l : Rat} (h : Nat), In E l → (∀ a ∈ t, a ≤ 5) → In (E * 60) (Tf t l h)
  | [], l, h, _, _ => In.nat h
  | a :: t, l, h, hl, ha => by
    unfold Tf
    split
    · exact In.nat h
    · split
      · refine (In.nat h).add ?_
        by_cases z : a = 0
        · subst z
          have : l * (1 / ((0 : Nat) : Rat)) = 0 := by
            show l * (1 / 0) = 0
            grind
          rw [this]
          exact In.nat 0
        · have h5 := ha a (by simp)
          have hd : a ∣ 60 := by
            have : a = 1 ∨ a = 2 ∨ a = 3 ∨ a = 4 ∨ a = 5 := by omega
            rcases this with rfl | rfl | rfl | rfl | rfl <;> decide
          exact (hl.mul (In.inv (by omega))).dvd (Nat.mul_dvd_mul_left E hd)
      · exact Tf_in t (h + 1) (hl.sub (In.nat a)) (fun b hb => ha b (List.mem_cons_of_mem _ hb))
theorem Wq_mono {t : List Nat} (T : Tok t) {x y : Rat} (h : x ≤ y) : Wq t x ≤ Wq t y := by
  have hi := inv_nn T.pos
  exact Rat.mul_le_mul_of_nonneg_right (Ws_mono t h) (Rat.le_of_lt hi.1)
section
variable {ts : List (List Nat)} {n hours k : Nat} {left : List Nat} {x : Rat}
theorem dvd60 {n : Nat} (h : 2 ≤ n) (h5 : n ≤ 5) : n ∣ 60 := by
  have : n = 2 ∨ n = 3 ∨ n = 4 ∨ n = 5 := by omega
  rcases this with rfl | rfl | rfl | rfl <;> decide
/-- what is asked of the next cut, for a house that waits -/
structure Ask (ts : List (List Nat)) (n hours k : Nat) (x : Rat) (i : Nat) : Prop where
  d0 : 0 < dueQ ts n x i
  d1 : dueQ ts n x i ≤ ((k + 1 : Nat) : Rat) * (1 / (n : Rat))
  d11 : dueQ ts n x i ≤ 1
  sin : In (3600 ^ k * 60) (dueQ ts n x i * (((ts.getD i []).sum : Nat) : Rat))
  din : In (3600 ^ k * 60 * (ts.getD i []).sum) (dueQ ts n x i)
  lt : x < tau ts n x i
  hi : tau ts n x i ≤ (hours : Rat)
  tin : In (3600 ^ (k + 1)) (tau ts n x i)
  w : Wq (ts.getD i []) (tau ts n x i) = dueQ ts n x i
theorem ask (T : Nts ts n hours) (S : Stg ts n hours k left x) {i : Nat} (hi : i ∈ left) (hk : k + 2 ≤ n) : Ask ts n hours k x i := by
  obtain ⟨To, hl⟩ := T.at_ (S.lt i hi)
  have hn0 : 0 < n := by have := T.n2; omega
  have hn := inv_nn hn0
  have hw := Wq_01 To x
  have had := S.had i hi
  have e1 : ((k + 1 : Nat) : Rat) = (k : Rat) + 1 := by push_cast; rfl
  have d1 : dueQ ts n x i ≤ ((k + 1 : Nat) : Rat) * (1 / (n : Rat)) := by
    unfold dueQ
    rw [e1]
    grind
  have d0 : 0 < dueQ ts n x i := by
    unfold dueQ
    grind
  have hnn : (n : Rat) * (1 / (n : Rat)) = 1 := by
    have : (n : Rat) ≠ 0 := by
      intro e
      have : n = 0 := by exact_mod_cast e
      omega
    grind
  have hkn : ((k + 1 : Nat) : Rat) ≤ (n : Rat) := by
    have : k + 1 ≤ n := by omega
    exact_mod_cast this
  have d11 : dueQ ts n x i ≤ 1 := by
    have := Rat.mul_le_mul_of_nonneg_right hkn (Rat.le_of_lt hn.1)
    grind
  have hs := To.sp
  have hes : Wq (ts.getD i []) x * (((ts.getD i []).sum : Nat) : Rat) = Ws (ts.getD i []) x := by
    unfold Wq
    grind
  have sin : In (3600 ^ k * 60) (dueQ ts n x i * (((ts.getD i []).sum : Nat) : Rat)) := by
    have e2 : dueQ ts n x i * (((ts.getD i []).sum : Nat) : Rat) = Ws (ts.getD i []) x + (((ts.getD i []).sum : Nat) : Rat) * (1 / (n : Rat)) := by
      unfold dueQ
      grind
    rw [e2]
    refine ((Ws_in _ S.ein).up 60).add ?_
    exact (in_smul _ (In.inv hn0)).dvd (Nat.dvd_trans (dvd60 T.n2 T.n5) ⟨3600 ^ k, Nat.mul_comm _ _⟩)
  have din : In (3600 ^ k * 60 * (ts.getD i []).sum) (dueQ ts n x i) := by
    have e3 : dueQ ts n x i = dueQ ts n x i * (((ts.getD i []).sum : Nat) : Rat) * (1 / (((ts.getD i []).sum : Nat) : Rat)) := by grind
    rw [e3]
    exact sin.mul (In.inv To.pos)
  have hp : 0 < dueQ ts n x i * (((ts.getD i []).sum : Nat) : Rat) := Rat.mul_pos d0 hs
  have hle : dueQ ts n x i * (((ts.getD i []).sum : Nat) : Rat) ≤ (((ts.getD i []).sum : Nat) : Rat) := by
    have := Rat.mul_le_mul_of_nonneg_right d11 (Rat.le_of_lt hs)
    grind
  obtain ⟨t1, t2, t3⟩ := Tf_spec (ts.getD i []) 0 hp hle
  have hz : Tf (ts.getD i []) (dueQ ts n x i * (((ts.getD i []).sum : Nat) : Rat)) 0 - ((0 : Nat) : Rat) = tau ts n x i := by
    show tau ts n x i - 0 = _
    grind
  rw [hz] at t3
  have w : Wq (ts.getD i []) (tau ts n x i) = dueQ ts n x i := by
    unfold Wq
    rw [t3]
    grind
  have z0 : ((0 : Nat) : Rat) = 0 := rfl
  have hhi : tau ts n x i ≤ (hours : Rat) := by
    rw [hl] at t2
    have t2' : tau ts n x i ≤ ((0 : Nat) : Rat) + (hours : Rat) := t2
    rw [z0] at t2'
    grind
  have hlt : x < tau ts n x i := by
    apply Classical.byContradiction
    intro q
    have q' : tau ts n x i ≤ x := by grind
    have := Wq_mono To q'
    rw [w] at this
    have e4 : dueQ ts n x i = Wq (ts.getD i []) x + 1 / (n : Rat) := rfl
    grind
  have tin : In (3600 ^ (k + 1)) (tau ts n x i) := by
    have := Tf_in (ts.getD i []) 0 sin To.le
    rw [show 3600 ^ k * 60 * 60 = 3600 ^ (k + 1) by rw [Nat.pow_succ, Nat.mul_assoc]] at this
    exact this
  exact ⟨d0, d1, d11, sin, din, hlt, hhi, tin, w⟩
theorem nxt_len {i : Nat} {left : List Nat} (nd : left.Nodup) (h : i ∈ left) : (nxt i left).length + 1 = left.length := by
  induction left with
  | nil => cases h
  | cons a l ih =>
    rw [List.nodup_cons] at nd
    unfold nxt at *
    by_cases e : a = i
    · subst e
      have : (l.filter fun j => j != a) = l := List.filter_eq_self.mpr fun j hj => by
        simp
        intro z
        exact nd.1 (z ▸ hj)
      rw [List.filter_cons_of_neg (by simp), this]
      rfl
    · rw [List.filter_cons_of_pos (by simpa using e), List.length_cons, List.length_cons]
      rcases List.mem_cons.mp h with z | z
      · exact absurd z.symm e
      · rw [ih nd.2 z]
theorem stg_next (T : Nts ts n hours) (S : Stg ts n hours k left x) (hk : k + 2 ≤ n) {i : Nat} (hi : i ∈ left) (hmin : ∀ j ∈ left, tau ts n x i ≤ tau ts n x j) : Stg ts n hours (k + 1) (nxt i left) (tau ts n x i) := by
  have A := ask T S hi hk
  refine ⟨S.nd.filter _, fun j hj => S.lt j (List.mem_filter.mp hj).1, by have := nxt_len S.nd hi; have := S.len; omega, A.tin, by have := A.lt; have := S.lo; grind, A.hi, fun j hj => ?_⟩
  have hj' := (List.mem_filter.mp hj).1
  have B := ask T S hj' hk
  have := Wq_mono (T.at_ (S.lt j hj')).1 (hmin j hj')
  rw [B.w] at this
  have := B.d1
  grind
end
/-- the pieces -/
def goL (ts : List (List Nat)) (n : Nat) : Nat → List Nat → Rat → List (Nat × Rat) × List Nat × Rat
  | 0, left, x => ([], left, x)
  | r + 1, left, x => match pk (tau ts n x) left none with
    | some (i, y) => let z := goL ts n r (nxt i left) y; ((i, y) :: z.1, z.2)
    | none => ([], left, x)
end L34

set_option Elab.async false
set_option linter.all false
set_option maxRecDepth 100000
namespace L34
open PySem PySem.Spec PyProof.Rows L2 Ev Qa Cut
def Bx (rest : M) (m : M) : Prop := ∃ a b : Int, m = .lst [.int a, .int b] :: rest ∧ 0 ≤ a ∧ 0 ≤ b ∧ b < 4294967296
theorem draw {rest m : M} {k : Int} (h : Bx rest m) (hk : 0 < k) (hk2 : k < 1000000) : ∃ d m', m__law_draw [.ref 0, .val (.int k)] m = some (.val (.int d), m') ∧ 0 ≤ d ∧ d < k ∧ Bx rest m' := by
  obtain ⟨a, b, rfl, ha, hb, hb2⟩ := h
  have e1 : ∀ (x y : Int) (i : Int), pIdx (.ref 0) (.val (.int i)) (.lst [.int x, .int y] :: rest) = (atI [PyData.int x, .int y] i).bind fun d => some (.val d, .lst [.int x, .int y] :: rest) := fun x y i => pix_r rfl
  have e2 : ∀ (x y : Int) (i z : Int), pSet (.ref 0) (.val (.int i)) (.val (.int z)) (.lst [.int x, .int y] :: rest) = (ixN 2 i).bind fun j => some (.lst ([PyData.int x, .int y].set j (.int z)) :: rest) := fun x y i z => pset_r (m := .lst [.int x, .int y] :: rest) (k := 0) (ds := [.int x, .int y]) rfl
  by_cases h0 : 0 < a
  · refine ⟨a % k, .lst [.int (a / k), .int b] :: rest, ?_, Int.emod_nonneg _ (by omega), Int.emod_lt_of_pos _ hk, _, _, rfl, Int.ediv_nonneg ha (by omega), hb, hb2⟩
    simp [m__law_draw, bodyF, b__law_draw, e1, e2, h0, pmd_ii hk, pdv_ii hk (show k < 18446744073709551616 by omega), show ixN 2 (0 : Int) = some 0 from rfl, leave]
  · have hm : 0 ≤ (b * 48271 + 12345) % 2147483647 := Int.emod_nonneg _ (by decide)
    have hm2 : (b * 48271 + 12345) % 2147483647 < 2147483647 := Int.emod_lt_of_pos _ (by decide)
    refine ⟨((b * 48271 + 12345) % 2147483647) / 64 % k, .lst [.int a, .int ((b * 48271 + 12345) % 2147483647)] :: rest, ?_, Int.emod_nonneg _ (by omega), Int.emod_lt_of_pos _ hk, _, _, rfl, ha, hm, by omega⟩
    simp [m__law_draw, bodyF, b__law_draw, e1, e2, h0, pmd_ii hk, pmd_ii, pdv_ii, pm_ii (i := b) (j := 48271) (by omega) (by decide), show ixN 2 (1 : Int) = some 1 from rfl, leave]
/-- the same, natural -/
theorem drawN {rest m : M} {k : Nat} (h : Bx rest m) (hk : 0 < k) (hk2 : k < 1000000) : ∃ (d : Nat) (m' : M), m__law_draw [.ref 0, .val (.int (k : Int))] m = some (.val (.int (d : Int)), m') ∧ d < k ∧ Bx rest m' := by
  obtain ⟨d, m', h1, h2, h3, h4⟩ := draw h (k := (k : Int)) (by omega) (by omega)
  refine ⟨d.toNat, m', ?_, by omega, h4⟩
  rw [h1]
  have : ((d.toNat : Nat) : Int) = d := by omega
  rw [this]
section
variable {m : M}
@[simp] theorem is_int_i {i : Int} : m_is_integer [.val (.int i)] m = some (.val (.bool true), m) := by
  simp [m_is_integer, bodyF, b_is_integer, isA, leave]
@[simp] theorem is_bet_i {i lo hi : Int} : m_is_between [.val (.int i), .val (.int lo), .val (.int hi)] m = some (.val (.bool (decide (lo ≤ i ∧ i ≤ hi))), m) := by
  by_cases h : lo ≤ i <;> simp [m_is_between, bodyF, b_is_between, leave, h]
theorem Tok.ne {t : List Nat} (T : Tok t) : 1 ≤ t.length := by
  cases t with
  | nil => exact absurd T.pos (by simp)
  | cons a l => simp
theorem check_taste_ok {t : List Nat} (T : Tok t) : m_check_taste [.val (encT t)] m = some (.val .none, m) := by
  have hc : ∀ e0 e1, clpL (.nm 1) tTrue e_check_taste1 [some (.val e0), e1] (t.map fun a : Nat => PyData.int a) m = some (t.map fun _ => .bool true, m) := fun e0 e1 =>
    clpL_all (fun a : Nat => PyData.int a) (fun _ => .bool true) t fun a ha => ⟨_, rfl, by
      have := T.le a ha
      have h2 : (a : Int) ≤ 100 := by omega
      simp [e_check_taste1, h2]⟩
  have hl : (t.map fun a : Nat => PyData.int a).length ≤ 16777216 := by
    rw [List.length_map]
    have := T.len
    omega
  have h1 : (1 : Int) ≤ t.length := by have := T.ne; omega
  have h2 : (t.length : Int) ≤ 10 := by have := T.len; omega
  have h3 : ¬ ((t.sum : Nat) : Int) = 0 := by have := T.pos; omega
  have p1 : pSum [.val (.tuple (t.map fun a : Nat => PyData.int a))] m = some (.val (.int (t.sum : Nat)), m) := psum_T
  have h4 : ¬ t.sum = 0 := by have := T.pos; omega
  simp [m_check_taste, bodyF, b_check_taste, encT, encI, isA, runC_iL hl, wipeE, hc, pall_l t fun _ => true, h1, h2, p1, h4]
theorem int_le_of {x : Rat} {n : Nat} (h : x ≤ (n : Rat)) : x.num ≤ (n : Int) * (x.den : Int) := by
  have := (Rat.le_iff _ _).mp h
  have n2 : ((n : Rat)).num = (n : Int) := rfl
  have n4 : ((n : Rat)).den = 1 := rfl
  rw [n2, n4] at this
  simpa using this
theorem num_nn {x : Rat} (h : 0 ≤ x) : 0 ≤ x.num := by
  have := (Rat.le_iff _ _).mp h
  have h1 : (0 : Rat).num = 0 := rfl
  have h2 : (0 : Rat).den = 1 := rfl
  rw [h1, h2] at this
  simpa using this
theorem check_times_ok {t : List Nat} (T : Tok t) {x y : Rat} (sx : SmQ x) (sy : SmQ y) (x0 : 0 ≤ x) (xy : x ≤ y) (y1 : y ≤ (t.length : Rat)) : m_check_times [.val (encT t), .val (encQ x), .val (encQ y)] m = some (.val .none, m) := by
  have step : ∀ (z : Rat) (e3 e4 : Option R), SmQ z → 0 ≤ z → z ≤ (t.length : Rat) → l_check_times2 [some (.val (encT t)), some (.val (encQ x)), some (.val (encQ y)), some (.val (encQ z)), e4] m = some (.nx [some (.val (encT t)), some (.val (encQ x)), some (.val (encQ y)), some (.val (encQ z)), e4] m) := by
    intro z e3 e4 sz0 z0 z1
    have hc : ∀ e0 e1 e2 e3 e4, clpL (.nm 4) tTrue e_check_times1 [e0, e1, e2, e3, e4] [PyData.int z.num, PyData.int (z.den : Int)] m = some ([.bool true, .bool true], m) := fun e0 e1 e2 e3 e4 => by
      simp [clpL, bindP, e_check_times1, tTrue, clp.asD0]
    have hl : [PyData.int z.num, PyData.int (z.den : Int)].length ≤ 16777216 := by simp
    have h1 := den_pos z
    have h2 := num_nn z0
    have h3 := int_le_of z1
    have d1 : ¬ ((z.den : Int) < 1) := by omega
    have d2 : ¬ (z.num < 0) := by omega
    have d3 : ¬ ((t.length : Int) * (z.den : Int) < z.num) := by omega
    have g : Int.gcd z.num (z.den : Int) = 1 := z.reduced
    have c1 := common_ok (m := m) (n := z.num) (b := z.den) (by omega) (by
      have := sz0.den
      unfold Sz at this
      rw [Int.natAbs_natCast] at this
      exact Nat.lt_of_lt_of_le this (Nat.pow_le_pow_right (by decide) (by decide)))
    rw [g] at c1
    have c2 : m_common_cycles [.val (.int z.num), .val (.int (z.den : Int))] m = some (.val (.int (1 : Nat)), m) := c1
    have mm : pMul (.val (.int (t.length : Int))) (.val (.int (z.den : Int))) m = some (.val (.int ((t.length : Int) * (z.den : Int))), m) := pm_sz (k := 10) (by
      show ((t.length : Nat) : Int).natAbs < 2 ^ 10
      rw [Int.natAbs_natCast]
      have := T.len
      omega) sz0.den (by decide)
    have pa : pAll [.val (.list [.bool true, .bool true])] m = some (.val (.bool true), m) := rfl
    have e0 : encQ z = .tuple [.int z.num, .int (z.den : Int)] := rfl
    simp only [l_check_times2, ev_seq, ev_isA, ev_comp, it_an, e0, an1_t, runC_iL hl, wipeE, ev_asg, ev_par, ev_if, ev_ret, ev_retN, ev_expr, ev_bin, ev_un, ev_ap, ev_cons, ev_nil, ev_varS, ev_var0, ev_c, ob_some, ev_gNm, ev_tOf, ev_asB, ev_asI, ev_tNot, ev_tAnd, ev_tOr, ev_eOf, ev_eIf, ev_chain, List.set_cons_succ, List.set_cons_zero, ev_then_nx, ev_then_rt, ev_next, ev_pTup, ev_valsC, ev_vals0, ev_eL, ev_bm, ev_aug, pix_t, pix_l, pixq0, pixq1, atI_0, atI_1, atI_2, pp_ii, ps_ii, pa_ii, plt_ii, ple_ii, pgt_ii, pge_ii, peq_ii, pne_ii, pneg_i, List.length_cons, List.length_nil, Nat.reduceAdd, Nat.reduceSub, Nat.reduceLeDiff, sz, if_true, Bool.false_eq_true, if_false, Bool.not_true, Bool.not_false, leave_v, List.take_length, plen_t, plen_l, ptup_l, ptup_t, pint_i, pis_n, pis_i, pis_t, pisnt_n, pisnt_i, pisnt_t, Int.cast_ofNat_Int, ne_eq, not_true_eq_false, not_false_eq_true, decide_true, decide_false, isA]
    rw [hc]
    simp only [ev_asg, ev_par, ev_if, ev_ret, ev_retN, ev_expr, ev_bin, ev_un, ev_ap, ev_cons, ev_nil, ev_varS, ev_var0, ev_c, ob_some, ev_gNm, ev_tOf, ev_asB, ev_asI, ev_tNot, ev_tAnd, ev_tOr, ev_eOf, ev_eIf, ev_chain, List.set_cons_succ, List.set_cons_zero, ev_then_nx, ev_then_rt, ev_next, ev_pTup, ev_valsC, ev_vals0, ev_eL, ev_bm, ev_aug, pix_t, pix_l, pixq0, pixq1, atI_0, atI_1, atI_2, pp_ii, ps_ii, pa_ii, plt_ii, ple_ii, pgt_ii, pge_ii, peq_ii, pne_ii, pneg_i, List.length_cons, List.length_nil, Nat.reduceAdd, Nat.reduceSub, Nat.reduceLeDiff, sz, if_true, Bool.false_eq_true, if_false, Bool.not_true, Bool.not_false, leave_v, List.take_length, plen_t, plen_l, ptup_l, ptup_t, pint_i, pis_n, pis_i, pis_t, pisnt_n, pisnt_i, pisnt_t, Int.cast_ofNat_Int, ne_eq, not_true_eq_false, not_false_eq_true, decide_true, decide_false, pa, plen_T, mm, d1, d2, d3, c2, decide_false, decide_true, ev_seq, Int.natCast_one]
  have l1 := step x none none sx x0 (by grind)
  have l2 := step y (some (.val (encQ x))) none sy (by grind) y1
  have lf : loopL (gNm 3) l_check_times2 [encQ x, encQ y] [some (.val (encT t)), some (.val (encQ x)), some (.val (encQ y)), none, none] m = some (.nx [some (.val (encT t)), some (.val (encQ x)), some (.val (encQ y)), some (.val (encQ y)), none] m) := by
    rw [step_nx (env1 := [some (.val (encT t)), some (.val (encQ x)), some (.val (encQ y)), some (.val (encQ x)), none]) rfl l1, step_nx (env1 := [some (.val (encT t)), some (.val (encQ x)), some (.val (encQ y)), some (.val (encQ y)), none]) rfl l2]
    rfl
  have hl := less_ok (m := m) sy sx
  have nl : ¬ y < x := by grind
  simp only [m_check_times, bodyF, List.map_cons, List.map_nil, List.replicate, List.cons_append, List.nil_append, List.append_nil, b_check_times, ev_seq, ev_for, it_an, an1_t, run_iL, ev_asg, ev_par, ev_if, ev_ret, ev_retN, ev_expr, ev_bin, ev_un, ev_ap, ev_cons, ev_nil, ev_varS, ev_var0, ev_c, ob_some, ev_gNm, ev_tOf, ev_asB, ev_asI, ev_tNot, ev_tAnd, ev_tOr, ev_eOf, ev_eIf, ev_chain, List.set_cons_succ, List.set_cons_zero, ev_then_nx, ev_then_rt, ev_next, ev_pTup, ev_valsC, ev_vals0, ev_eL, ev_bm, ev_aug, pix_t, pix_l, pixq0, pixq1, atI_0, atI_1, atI_2, pp_ii, ps_ii, pa_ii, plt_ii, ple_ii, pgt_ii, pge_ii, peq_ii, pne_ii, pneg_i, List.length_cons, List.length_nil, Nat.reduceAdd, Nat.reduceSub, Nat.reduceLeDiff, sz, if_true, Bool.false_eq_true, if_false, Bool.not_true, Bool.not_false, leave_v, List.take_length, plen_t, plen_l, ptup_l, ptup_t, pint_i, pis_n, pis_i, pis_t, pisnt_n, pisnt_i, pisnt_t, Int.cast_ofNat_Int, ne_eq, not_true_eq_false, not_false_eq_true, decide_true, decide_false, lf, hl, nl, decide_false]
theorem worth_of_ok {t : List Nat} (T : Tok t) {D : Nat} {x y : Rat} (hD : 0 < D ∧ D < 2 ^ 200) (hx : In D x) (hy : In D y) (x0 : 0 ≤ x) (xy : x ≤ y) (y1 : y ≤ (t.length : Rat)) : m_worth_of [.val (encT t), .val (encQ x), .val (encQ y)] m = some (.val (encQ (Wq t y - Wq t x)), m) := by
  have hlen : ((t.length : Nat) : Rat) ≤ 10 := by
    have := T.len
    exact_mod_cast this
  have qx : Qk D x := ⟨hx, by grind, by grind⟩
  have qy : Qk D y := ⟨hy, by grind, by grind⟩
  have c1 := worth_to_ok (m := m) T hD hx x0 (by grind)
  have c2 := worth_to_ok (m := m) T hD hy (by grind) (by grind)
  have dkDs : Dk (D * t.sum) := dk_mul hD T.pos (small_pow (by have := T.sum; omega))
  have w1 := Wq_01 T x
  have w2 := Wq_01 T y
  have q1 : Qk (D * t.sum) (Wq t x) := ⟨Wq_in T hx, by grind, by grind⟩
  have q2 : Qk (D * t.sum) (Wq t y) := ⟨Wq_in T hy, by grind, by grind⟩
  have c3 := minus_ok (m := m) (q2.sm dkDs) (q1.sm dkDs)
  have c4 := check_times_ok (m := m) T (qx.sm (dk_of hD)) (qy.sm (dk_of hD)) x0 xy y1
  simp only [m_worth_of, bodyF, List.map_cons, List.map_nil, List.replicate, List.cons_append, List.nil_append, List.append_nil, b_worth_of, ev_seq, ev_asg, ev_par, ev_if, ev_ret, ev_retN, ev_expr, ev_bin, ev_un, ev_ap, ev_cons, ev_nil, ev_varS, ev_var0, ev_c, ob_some, ev_gNm, ev_tOf, ev_asB, ev_asI, ev_tNot, ev_tAnd, ev_tOr, ev_eOf, ev_eIf, ev_chain, List.set_cons_succ, List.set_cons_zero, ev_then_nx, ev_then_rt, ev_next, ev_pTup, ev_valsC, ev_vals0, ev_eL, ev_bm, ev_aug, pix_t, pix_l, pixq0, pixq1, atI_0, atI_1, atI_2, pp_ii, ps_ii, pa_ii, plt_ii, ple_ii, pgt_ii, pge_ii, peq_ii, pne_ii, pneg_i, List.length_cons, List.length_nil, Nat.reduceAdd, Nat.reduceSub, Nat.reduceLeDiff, sz, if_true, Bool.false_eq_true, if_false, Bool.not_true, Bool.not_false, leave_v, List.take_length, plen_t, plen_l, ptup_l, ptup_t, pint_i, pis_n, pis_i, pis_t, pisnt_n, pisnt_i, pisnt_t, Int.cast_ofNat_Int, ne_eq, not_true_eq_false, not_false_eq_true, decide_true, decide_false, check_taste_ok T, c4, c2, c1, c3]
def halfQ (t : List Nat) : Rat := Tf t (1 / ((2 : Nat) : Rat) * ((t.sum : Nat) : Rat)) 0
theorem half_facts {t : List Nat} (T : Tok t) : In (2 * 60) (halfQ t) ∧ 0 < halfQ t ∧ halfQ t ≤ (t.length : Rat) ∧ In 2 (1 / ((2 : Nat) : Rat) * ((t.sum : Nat) : Rat)) := by
  have hs := T.sp
  have hi := inv_nn (n := 2) (by decide)
  have hin : In 2 (1 / ((2 : Nat) : Rat) * ((t.sum : Nat) : Rat)) := by
    have := in_smul t.sum (In.inv (N := 2) (by decide))
    rw [Rat.mul_comm]
    exact this
  have hp : 0 < 1 / ((2 : Nat) : Rat) * ((t.sum : Nat) : Rat) := Rat.mul_pos hi.1 hs
  have hle : 1 / ((2 : Nat) : Rat) * ((t.sum : Nat) : Rat) ≤ ((t.sum : Nat) : Rat) := by
    have := Rat.mul_le_mul_of_nonneg_right hi.2 (Rat.le_of_lt hs)
    grind
  obtain ⟨t1, t2, t3⟩ := Tf_spec t 0 hp hle
  have z0 : ((0 : Nat) : Rat) = 0 := rfl
  rw [z0] at t1 t2
  refine ⟨Tf_in t 0 hin T.le, t1, ?_, hin⟩
  show Tf t _ 0 ≤ _
  grind
theorem d60 : (0 < 120 ∧ 120 < 2 ^ 200) := ⟨by decide, by decide +kernel⟩
theorem cut_ok {t u : List Nat} (T : Tok t) (U : Tok u) (h : t.length = u.length) : m_cut_and_choose [.val (encT t), .val (encT u)] m = some (.val (.tuple [encQ (halfQ t), .int (if Wq u (halfQ t) < 1 / ((2 : Nat) : Rat) then 1 else 0)]), m) := by
  obtain ⟨h1, h2, h3, h4⟩ := half_facts T
  have hi := inv_nn (n := 2) (by decide)
  have hlen : ((t.length : Nat) : Rat) ≤ 10 := by
    have := T.len
    exact_mod_cast this
  have c1 := time_for_ok (m := m) (D := 120) T d60 ((In.inv (N := 2) (by decide)).dvd (by decide)) (h4.dvd (by decide)) hi.1 hi.2
  rw [encQ_inv (by decide)] at c1
  have c1' : m_time_for [.val (encT t), .val (.tuple [.int 1, .int 2])] m = some (.val (encQ (halfQ t)), m) := c1
  have c2 := worth_to_ok (m := m) (D := 120) U d60 h1 (by grind) (by grind)
  have w := Wq_01 U (halfQ t)
  have qw : Qk (120 * u.sum) (Wq u (halfQ t)) := ⟨Wq_in U h1, by grind, by grind⟩
  have c3 := less_ok (m := m) (qw.sm (dk_mul d60 U.pos (small_pow (by have := U.sum; omega)))) ((show Qk 2 (1 / ((2 : Nat) : Rat)) from ⟨In.inv (by decide), by grind, by grind⟩).sm ⟨by decide, by decide +kernel⟩)
  rw [encQ_inv (by decide)] at c3
  have c3' : m_less [.val (encQ (Wq u (halfQ t))), .val (.tuple [.int 1, .int 2])] m = some (.val (.bool (decide (Wq u (halfQ t) < 1 / ((2 : Nat) : Rat)))), m) := c3
  have hn : (t.length : Int) = (u.length : Int) := by rw [h]
  by_cases hb : Wq u (halfQ t) < 1 / ((2 : Nat) : Rat)
  · simp only [m_cut_and_choose, bodyF, List.map_cons, List.map_nil, List.replicate, List.cons_append, List.nil_append, List.append_nil, b_cut_and_choose, ev_seq, ev_asg, ev_par, ev_if, ev_ret, ev_retN, ev_expr, ev_bin, ev_un, ev_ap, ev_cons, ev_nil, ev_varS, ev_var0, ev_c, ob_some, ev_gNm, ev_tOf, ev_asB, ev_asI, ev_tNot, ev_tAnd, ev_tOr, ev_eOf, ev_eIf, ev_chain, List.set_cons_succ, List.set_cons_zero, ev_then_nx, ev_then_rt, ev_next, ev_pTup, ev_valsC, ev_vals0, ev_eL, ev_bm, ev_aug, pix_t, pix_l, pixq0, pixq1, atI_0, atI_1, atI_2, pp_ii, ps_ii, pa_ii, plt_ii, ple_ii, pgt_ii, pge_ii, peq_ii, pne_ii, pneg_i, List.length_cons, List.length_nil, Nat.reduceAdd, Nat.reduceSub, Nat.reduceLeDiff, sz, if_true, Bool.false_eq_true, if_false, Bool.not_true, Bool.not_false, leave_v, List.take_length, plen_t, plen_l, ptup_l, ptup_t, pint_i, pis_n, pis_i, pis_t, pisnt_n, pisnt_i, pisnt_t, Int.cast_ofNat_Int, ne_eq, not_true_eq_false, not_false_eq_true, decide_true, decide_false, check_taste_ok T, check_taste_ok U, plen_T, hn, decide_false, c1', c2, c3', hb, decide_true]
  · simp only [m_cut_and_choose, bodyF, List.map_cons, List.map_nil, List.replicate, List.cons_append, List.nil_append, List.append_nil, b_cut_and_choose, ev_seq, ev_asg, ev_par, ev_if, ev_ret, ev_retN, ev_expr, ev_bin, ev_un, ev_ap, ev_cons, ev_nil, ev_varS, ev_var0, ev_c, ob_some, ev_gNm, ev_tOf, ev_asB, ev_asI, ev_tNot, ev_tAnd, ev_tOr, ev_eOf, ev_eIf, ev_chain, List.set_cons_succ, List.set_cons_zero, ev_then_nx, ev_then_rt, ev_next, ev_pTup, ev_valsC, ev_vals0, ev_eL, ev_bm, ev_aug, pix_t, pix_l, pixq0, pixq1, atI_0, atI_1, atI_2, pp_ii, ps_ii, pa_ii, plt_ii, ple_ii, pgt_ii, pge_ii, peq_ii, pne_ii, pneg_i, List.length_cons, List.length_nil, Nat.reduceAdd, Nat.reduceSub, Nat.reduceLeDiff, sz, if_true, Bool.false_eq_true, if_false, Bool.not_true, Bool.not_false, leave_v, List.take_length, plen_t, plen_l, ptup_l, ptup_t, pint_i, pis_n, pis_i, pis_t, pisnt_n, pisnt_i, pisnt_t, Int.cast_ofNat_Int, ne_eq, not_true_eq_false, not_false_eq_true, decide_true, decide_false, check_taste_ok T, check_taste_ok U, plen_T, hn, decide_false, c1', c2, c3', hb]
end
end L34

set_option Elab.async false
set_option linter.all false
set_option maxRecDepth 100000
namespace L34
open PySem PySem.Spec PyProof.Rows L2 Ev Qa Cut
def encTs (ts : List (List Nat)) : D := .tuple (ts.map encT)
def encP (p : Nat × Rat) : D := .tuple [.int (p.1 : Nat), encQ p.2]
def encB : Option (Nat × Rat) → D
  | none => .none
  | some p => encP p
section
variable {m : M} {ts : List (List Nat)} {n hours k : Nat} {left : List Nat} {x : Rat}
theorem pix_Ts {i : Nat} (h : i < ts.length) : pIdx (.val (encTs ts)) (.val (.int (i : Nat))) m = some (.val (encT (ts.getD i [])), m) := by
  unfold encTs
  have e : (ts.map encT)[i]? = some (encT (ts.getD i [])) := by
    rw [List.getElem?_map, List.getD, List.getElem?_eq_getElem h]
    rfl
  rw [pix_t, at_nat e]
  rfl
theorem plen_Ts : pLen [.val (encTs ts)] m = some (.val (.int (ts.length : Nat)), m) := by
  unfold encTs
  rw [plen_t, List.length_map]
theorem pow_small {k a : Nat} (hk : k ≤ 5) (h0 : 0 < a) (h : a ≤ 1000000) : 0 < 3600 ^ k * a ∧ 3600 ^ k * a < 2 ^ 200 := by
  have h1 : 3600 ^ k ≤ 3600 ^ 5 := Nat.pow_le_pow_right (by decide) hk
  refine ⟨Nat.mul_pos (Nat.pow_pos (by decide)) h0, ?_⟩
  exact Nat.lt_of_le_of_lt (Nat.mul_le_mul h1 h) (by decide +kernel)
theorem tau_sm (hk : k + 2 ≤ n) (T : Nts ts n hours) (S : Stg ts n hours k left x) {i : Nat} (hi : i ∈ left) : SmQ (tau ts n x i) := by
  have A := ask T S hi hk
  have hh : hours ≤ 10 := by
    obtain ⟨a, b⟩ := T.at_ (S.lt i hi)
    have := a.len
    omega
  have hh' : (hours : Rat) ≤ 10 := by exact_mod_cast hh
  have q : Qk (3600 ^ (k + 1)) (tau ts n x i) := ⟨A.tin, by have := A.lt; have := S.lo; grind, by have := A.hi; grind⟩
  have hn := T.n5
  have := pow_small (k := k + 1) (a := 1) (by omega) (by decide) (by decide)
  rw [Nat.mul_one] at this
  exact q.sm (dk_of this)
/-- the time that a house says -/
theorem said_ok (T : Nts ts n hours) (S : Stg ts n hours k left x) (hk : k + 2 ≤ n) {i : Nat} (hi : i ∈ left) :
    m_worth_to [.val (encT (ts.getD i [])), .val (encQ x)] m = some (.val (encQ (Wq (ts.getD i []) x)), m) ∧
    m_plus [.val (encQ (Wq (ts.getD i []) x)), .val (.tuple [.int 1, .int (n : Nat)])] m = some (.val (encQ (dueQ ts n x i)), m) ∧
    m_time_for [.val (encT (ts.getD i [])), .val (encQ (dueQ ts n x i))] m = some (.val (encQ (tau ts n x i)), m) ∧
    m__law_time [.val (encT (ts.getD i [])), .val (encQ x), .val (.tuple [.int 1, .int (n : Nat)])] m = some (.val (encQ (tau ts n x i)), m) := by
  have A := ask T S hi hk
  obtain ⟨To, hl⟩ := T.at_ (S.lt i hi)
  have hn0 : 0 < n := by have := T.n2; omega
  have hn5 := T.n5
  have hn := inv_nn hn0
  have hh : (hours : Rat) ≤ 10 := by
    rw [← hl]
    have := To.len
    exact_mod_cast this
  have hk5 : k ≤ 5 := by omega
  have x1 : x ≤ 10 := by have := S.hi; grind
  have p1 := pow_small (k := k) (a := 1) hk5 (by decide) (by decide)
  rw [Nat.mul_one] at p1
  have p2 := pow_small (k := k) (a := 60 * (ts.getD i []).sum) hk5 (Nat.mul_pos (by decide) To.pos) (by have := To.sum; omega)
  rw [← Nat.mul_assoc] at p2
  have c1 := worth_to_ok (m := m) To p1 S.ein S.lo x1
  have w := Wq_01 To x
  have qw : Qk (3600 ^ k * (ts.getD i []).sum) (Wq (ts.getD i []) x) := ⟨Wq_in To S.ein, by grind, by grind⟩
  have qn : Qk n (1 / (n : Rat)) := ⟨In.inv hn0, by grind, by grind⟩
  have sn : SmQ (1 / (n : Rat)) := qn.sm ⟨hn0, Nat.lt_of_le_of_lt hn5 (by decide +kernel)⟩
  have c2 := plus_ok (m := m) (qw.sm (dk_mul p1 To.pos (small_pow (by have := To.sum; omega)))) sn
  rw [encQ_inv hn0] at c2
  have c3 := time_for_ok (m := m) To p2 A.din (A.sin.up _) A.d0 A.d11
  have hxi : In (3600 ^ k * 60 * (ts.getD i []).sum) x := by
    rw [Nat.mul_assoc]
    exact S.ein.up _
  have c4 := law_time_ok (m := m) To p2 hxi S.lo (by rw [hl]; exact S.hi) sn (due := dueQ ts n x i) rfl A.din (A.sin.up _) A.d0 A.d11 A.lt
  rw [encQ_inv hn0] at c4
  exact ⟨c1, c2, c3, c4⟩
/-- the program's walk over those who wait -/
theorem fl_in (T : Nts ts n hours) (S : Stg ts n hours k left x) (hk : k + 2 ≤ n) {b : Nat} (hm : m[b]? = some (.lst (encI left))) {e1 e4 : Option R} : ∀ (rest : List Nat) (i : Nat) (best : Option (Nat × Rat)) (e6 e7 : Option R), left.drop i = rest → (∀ p, best = some p → SmQ p.2) →
    ∃ e6' e7', loop (srcR b) (gNm 6) l_from_left3 rest.length i [some (.val (encTs ts)), e1, some (.ref b), some (.val (encQ x)), e4, some (.val (encB best)), e6, e7] m =
      some (.nx [some (.val (encTs ts)), e1, some (.ref b), some (.val (encQ x)), e4, some (.val (encB (pk (tau ts n x) rest best))), e6', e7'] m)
  | [], i, best, e6, e7, hd, _ => by
    refine ⟨e6, e7, endR hm (List.getElem?_eq_none ?_)⟩
    rw [encI_len]
    exact List.drop_eq_nil_iff.mp hd
  | a :: rest, i, best, e6, e7, hd, hb => by
    have hai : left[i]? = some a := by
      have := congrArg (·[0]?) hd
      simpa using this
    have hd2 : left.drop (i + 1) = rest := by
      have := congrArg (List.drop 1) hd
      simpa [List.drop_drop, Nat.add_comm] using this
    have ha : a ∈ left := List.mem_of_getElem? hai
    obtain ⟨c1, c2, c3, _⟩ := said_ok (m := m) T S hk ha
    have hlen : a < ts.length := by rw [T.len]; exact S.lt a ha
    have st := tau_sm hk T S ha
    have c0 := pix_Ts (m := m) hlen
    have cl := plen_Ts (m := m) (ts := ts)
    rw [T.len] at cl
    cases best with
    | none =>
      obtain ⟨e6', e7', ih⟩ := fl_in T S hk hm (e1 := e1) (e4 := e4) rest (i + 1) (some (a, tau ts n x a)) (some (.val (.int (a : Nat)))) (some (.val (encQ (tau ts n x a)))) hd2 (fun p hp => by cases hp; exact st)
      refine ⟨e6', e7', ?_⟩
      rw [List.length_cons, stepR_nx hm (encI_get hai) (env1 := [some (.val (encTs ts)), e1, some (.ref b), some (.val (encQ x)), e4, some (.val .none), some (.val (.int (a : Nat))), e7]) (m1 := m) (env2 := [some (.val (encTs ts)), e1, some (.ref b), some (.val (encQ x)), e4, some (.val (encB (some (a, tau ts n x a)))), some (.val (.int (a : Nat))), some (.val (encQ (tau ts n x a)))]) (m2 := m) rfl
        (by simp only [l_from_left3, ev_seq, ev_asg, ev_par, ev_if, ev_ret, ev_retN, ev_expr, ev_bin, ev_un, ev_ap, ev_cons, ev_nil, ev_varS, ev_var0, ev_c, ob_some, ev_gNm, ev_tOf, ev_asB, ev_asI, ev_tNot, ev_tAnd, ev_tOr, ev_eOf, ev_eIf, ev_chain, List.set_cons_succ, List.set_cons_zero, ev_then_nx, ev_then_rt, ev_next, ev_pTup, ev_valsC, ev_vals0, ev_eL, ev_bm, ev_aug, pix_t, pix_l, pixq0, pixq1, atI_0, atI_1, atI_2, pp_ii, ps_ii, pa_ii, plt_ii, ple_ii, pgt_ii, pge_ii, peq_ii, pne_ii, pneg_i, List.length_cons, List.length_nil, Nat.reduceAdd, Nat.reduceSub, Nat.reduceLeDiff, sz, if_true, Bool.false_eq_true, if_false, Bool.not_true, Bool.not_false, leave_v, List.take_length, plen_t, plen_l, ptup_l, ptup_t, pint_i, pis_n, pis_i, pis_t, pisnt_n, pisnt_i, pisnt_t, Int.cast_ofNat_Int, ne_eq, not_true_eq_false, not_false_eq_true, decide_true, decide_false, c0, c1, cl, c2, c3]; rfl), ih]
      rfl
    | some p =>
      obtain ⟨j, y⟩ := p
      have sy := hb _ rfl
      have cc := less_ok (m := m) st sy
      have ep : encB (some (j, y)) = .tuple [.int (j : Nat), encQ y] := rfl
      by_cases hlt : tau ts n x a < y
      · obtain ⟨e6', e7', ih⟩ := fl_in T S hk hm (e1 := e1) (e4 := e4) rest (i + 1) (some (a, tau ts n x a)) (some (.val (.int (a : Nat)))) (some (.val (encQ (tau ts n x a)))) hd2 (fun p hp => by cases hp; exact st)
        refine ⟨e6', e7', ?_⟩
        rw [List.length_cons, stepR_nx hm (encI_get hai) (env1 := [some (.val (encTs ts)), e1, some (.ref b), some (.val (encQ x)), e4, some (.val (encB (some (j, y)))), some (.val (.int (a : Nat))), e7]) (m1 := m) (env2 := [some (.val (encTs ts)), e1, some (.ref b), some (.val (encQ x)), e4, some (.val (encB (some (a, tau ts n x a)))), some (.val (.int (a : Nat))), some (.val (encQ (tau ts n x a)))]) (m2 := m) rfl
          (by simp only [l_from_left3, ev_seq, ev_asg, ev_par, ev_if, ev_ret, ev_retN, ev_expr, ev_bin, ev_un, ev_ap, ev_cons, ev_nil, ev_varS, ev_var0, ev_c, ob_some, ev_gNm, ev_tOf, ev_asB, ev_asI, ev_tNot, ev_tAnd, ev_tOr, ev_eOf, ev_eIf, ev_chain, List.set_cons_succ, List.set_cons_zero, ev_then_nx, ev_then_rt, ev_next, ev_pTup, ev_valsC, ev_vals0, ev_eL, ev_bm, ev_aug, pix_t, pix_l, pixq0, pixq1, atI_0, atI_1, atI_2, pp_ii, ps_ii, pa_ii, plt_ii, ple_ii, pgt_ii, pge_ii, peq_ii, pne_ii, pneg_i, List.length_cons, List.length_nil, Nat.reduceAdd, Nat.reduceSub, Nat.reduceLeDiff, sz, if_true, Bool.false_eq_true, if_false, Bool.not_true, Bool.not_false, leave_v, List.take_length, plen_t, plen_l, ptup_l, ptup_t, pint_i, pis_n, pis_i, pis_t, pisnt_n, pisnt_i, pisnt_t, Int.cast_ofNat_Int, ne_eq, not_true_eq_false, not_false_eq_true, decide_true, decide_false, c0, c1, cl, c2, c3, ep, cc, hlt]; rfl), ih]
        rw [pk, if_pos hlt]
      · obtain ⟨e6', e7', ih⟩ := fl_in T S hk hm (e1 := e1) (e4 := e4) rest (i + 1) (some (j, y)) (some (.val (.int (a : Nat)))) (some (.val (encQ (tau ts n x a)))) hd2 hb
        refine ⟨e6', e7', ?_⟩
        rw [List.length_cons, stepR_nx hm (encI_get hai) (env1 := [some (.val (encTs ts)), e1, some (.ref b), some (.val (encQ x)), e4, some (.val (encB (some (j, y)))), some (.val (.int (a : Nat))), e7]) (m1 := m) (env2 := [some (.val (encTs ts)), e1, some (.ref b), some (.val (encQ x)), e4, some (.val (encB (some (j, y)))), some (.val (.int (a : Nat))), some (.val (encQ (tau ts n x a)))]) (m2 := m) rfl
          (by simp only [l_from_left3, ev_seq, ev_asg, ev_par, ev_if, ev_ret, ev_retN, ev_expr, ev_bin, ev_un, ev_ap, ev_cons, ev_nil, ev_varS, ev_var0, ev_c, ob_some, ev_gNm, ev_tOf, ev_asB, ev_asI, ev_tNot, ev_tAnd, ev_tOr, ev_eOf, ev_eIf, ev_chain, List.set_cons_succ, List.set_cons_zero, ev_then_nx, ev_then_rt, ev_next, ev_pTup, ev_valsC, ev_vals0, ev_eL, ev_bm, ev_aug, pix_t, pix_l, pixq0, pixq1, atI_0, atI_1, atI_2, pp_ii, ps_ii, pa_ii, plt_ii, ple_ii, pgt_ii, pge_ii, peq_ii, pne_ii, pneg_i, List.length_cons, List.length_nil, Nat.reduceAdd, Nat.reduceSub, Nat.reduceLeDiff, sz, if_true, Bool.false_eq_true, if_false, Bool.not_true, Bool.not_false, leave_v, List.take_length, plen_t, plen_l, ptup_l, ptup_t, pint_i, pis_n, pis_i, pis_t, pisnt_n, pisnt_i, pisnt_t, Int.cast_ofNat_Int, ne_eq, not_true_eq_false, not_false_eq_true, decide_true, decide_false, c0, c1, cl, c2, c3, ep, cc, hlt]), ih]
        rw [pk, if_neg hlt]
end
end L34

set_option Elab.async false
set_option linter.all false
set_option maxRecDepth 100000
namespace L34
open PySem PySem.Spec PyProof.Rows L2 Ev Qa Cut
section
variable {ts : List (List Nat)} {n hours : Nat}
theorem get_b (m0 : M) (A B : Ob) : (m0 ++ [A, B])[m0.length]? = some A := by simp
theorem get_b1 (m0 : M) (A B : Ob) : (m0 ++ [A, B])[m0.length + 1]? = some B := by
  rw [List.getElem?_append_right (by omega)]
  simp
theorem set_b (m0 : M) (A B C : Ob) : (m0 ++ [A, B]).set m0.length C = m0 ++ [C, B] := by
  rw [List.set_append_right _ _ (Nat.le_refl _)]
  simp
theorem set_b1 (m0 : M) (A B C : Ob) : (m0 ++ [A, B]).set (m0.length + 1) C = m0 ++ [A, C] := by
  rw [List.set_append_right _ _ (by omega)]
  simp
set_option maxHeartbeats 1000000 in
theorem fw {m0 : M} (T : Nts ts n hours) : ∀ (r f k : Nat) (left : List Nat) (x : Rat) (found : List D) (e1 e5 e6 e7 : Option R), Stg ts n hours k left x → left.length = r + 1 → r < f → found.length + r ≤ 100 →
    ∃ e1' e5' e6' e7', wloop c_from_left5 w_from_left4 f [some (.val (encTs ts)), e1, some (.ref m0.length), some (.val (encQ x)), some (.ref (m0.length + 1)), e5, e6, e7] (m0 ++ [.lst (encI left), .lst found]) =
      some (.nx [some (.val (encTs ts)), e1', some (.ref m0.length), some (.val (encQ (goL ts n r left x).2.2)), some (.ref (m0.length + 1)), e5', e6', e7'] (m0 ++ [.lst (encI (goL ts n r left x).2.1), .lst (found ++ (goL ts n r left x).1.map encP)]))
  | 0, f + 1, k, left, x, found, e1, e5, e6, e7, S, hl, _, _ => by
    refine ⟨e1, e5, e6, e7, ?_⟩
    have hn : ¬ (1 : Int) < (((encI left).length : Nat) : Int) := by rw [encI_len]; omega
    rw [w_end (m1 := m0 ++ [.lst (encI left), .lst found]) (by simp only [c_from_left5, ev_asg, ev_par, ev_if, ev_ret, ev_retN, ev_expr, ev_bin, ev_un, ev_ap, ev_cons, ev_nil, ev_varS, ev_var0, ev_c, ob_some, ev_gNm, ev_tOf, ev_asB, ev_asI, ev_tNot, ev_tAnd, ev_tOr, ev_eOf, ev_eIf, ev_chain, List.set_cons_succ, List.set_cons_zero, ev_then_nx, ev_then_rt, ev_next, ev_pTup, ev_valsC, ev_vals0, ev_eL, ev_bm, ev_aug, pix_t, pix_l, pixq0, pixq1, atI_0, atI_1, atI_2, pp_ii, ps_ii, pa_ii, plt_ii, ple_ii, pgt_ii, pge_ii, peq_ii, pne_ii, pneg_i, List.length_cons, List.length_nil, Nat.reduceAdd, Nat.reduceSub, Nat.reduceLeDiff, sz, if_true, Bool.false_eq_true, if_false, Bool.not_true, Bool.not_false, leave_v, List.take_length, plen_t, plen_l, ptup_l, ptup_t, pint_i, pis_n, pis_i, pis_t, pisnt_n, pisnt_i, pisnt_t, Int.cast_ofNat_Int, ne_eq, not_true_eq_false, not_false_eq_true, decide_true, decide_false, plen_r (get_b m0 _ _), hn])]
    simp [goL]
  | r + 1, f + 1, k, left, x, found, e1, e5, e6, e7, S, hl, hf, hfd => by
    have hk : k + 2 ≤ n := by have := S.len; omega
    have hn : (1 : Int) < (((encI left).length : Nat) : Int) := by rw [encI_len]; omega
    have hne : left ≠ [] := fun z => by rw [z] at hl; simp at hl
    obtain ⟨i, hpk, hi, hmin⟩ := pk_ne (tau ts n x) hne
    obtain ⟨e6', e7', h1⟩ := fl_in (m := m0 ++ [.lst (encI left), .lst found]) T S hk (get_b m0 _ _) (e1 := e1) (e4 := some (.ref (m0.length + 1))) left 0 none e6 e7 rfl (fun p hp => by cases hp)
    have ep : encB (some (i, tau ts n x i)) = .tuple [.int (i : Nat), encQ (tau ts n x i)] := rfl
    have ep2 : encP (i, tau ts n x i) = .tuple [.int (i : Nat), encQ (tau ts n x i)] := rfl
    rw [hpk, ep] at h1
    have hfl : found.length < 16777216 := by omega
    have h2 := papp_r (m := m0 ++ [.lst (encI left), .lst found]) (d := encP (i, tau ts n x i)) (get_b1 m0 _ _) hfl
    rw [set_b1] at h2
    have h3 := remove_enc (m := m0 ++ [.lst (encI left), .lst (found ++ [encP (i, tau ts n x i)])]) S.nd hi (get_b m0 _ _)
    rw [set_b] at h3
    have a1 := asL_r (m := m0 ++ [.lst (encI left), .lst found]) (get_b1 m0 _ _)
    have a2 := asL_r (m := m0 ++ [.lst (encI left), .lst (found ++ [encP (i, tau ts n x i)])]) (get_b m0 _ _)
    have S' := stg_next T S hk hi hmin
    have hl' : (nxt i left).length = r + 1 := by have := nxt_len S.nd hi; omega
    obtain ⟨e1', e5', e6'', e7'', ih⟩ := fw (m0 := m0) T r f (k + 1) (nxt i left) (tau ts n x i) (found ++ [encP (i, tau ts n x i)]) e1 (some (.val (encB (some (i, tau ts n x i))))) e6' e7' S' hl' (by omega) (by rw [List.length_append]; simp; omega)
    refine ⟨e1', e5', e6'', e7'', ?_⟩
    have hgo : goL ts n (r + 1) left x = ((i, tau ts n x i) :: (goL ts n r (nxt i left) (tau ts n x i)).1, (goL ts n r (nxt i left) (tau ts n x i)).2) := by
      rw [goL, hpk]
    rw [hgo]
    have ez := h1
    rw [← encI_len] at ez
    rw [ep2] at h2 h3 a2 ih
    rw [ep] at ih
    have en : (left.filter fun j => j != i) = nxt i left := rfl
    rw [en] at h3
    have en0 : encB none = .none := rfl
    rw [en0] at ez
    have hc : c_from_left5 [some (.val (encTs ts)), e1, some (.ref m0.length), some (.val (encQ x)), some (.ref (m0.length + 1)), e5, e6, e7] (m0 ++ [.lst (encI left), .lst found]) = some (true, m0 ++ [.lst (encI left), .lst found]) := by
      simp only [c_from_left5, ev_asg, ev_par, ev_if, ev_ret, ev_retN, ev_expr, ev_bin, ev_un, ev_ap, ev_cons, ev_nil, ev_varS, ev_var0, ev_c, ob_some, ev_gNm, ev_tOf, ev_asB, ev_asI, ev_tNot, ev_tAnd, ev_tOr, ev_eOf, ev_eIf, ev_chain, List.set_cons_succ, List.set_cons_zero, ev_then_nx, ev_then_rt, ev_next, ev_pTup, ev_valsC, ev_vals0, ev_eL, ev_bm, ev_aug, pix_t, pix_l, pixq0, pixq1, atI_0, atI_1, atI_2, pp_ii, ps_ii, pa_ii, plt_ii, ple_ii, pgt_ii, pge_ii, peq_ii, pne_ii, pneg_i, List.length_cons, List.length_nil, Nat.reduceAdd, Nat.reduceSub, Nat.reduceLeDiff, sz, if_true, Bool.false_eq_true, if_false, Bool.not_true, Bool.not_false, leave_v, List.take_length, plen_t, plen_l, ptup_l, ptup_t, pint_i, pis_n, pis_i, pis_t, pisnt_n, pisnt_i, pisnt_t, Int.cast_ofNat_Int, ne_eq, not_true_eq_false, not_false_eq_true, decide_true, decide_false, plen_r (get_b m0 _ _), hn]
    have hb : w_from_left4 [some (.val (encTs ts)), e1, some (.ref m0.length), some (.val (encQ x)), some (.ref (m0.length + 1)), e5, e6, e7] (m0 ++ [.lst (encI left), .lst found]) =
        some (.nx [some (.val (encTs ts)), e1, some (.ref m0.length), some (.val (encQ (tau ts n x i))), some (.ref (m0.length + 1)), some (.val (.tuple [.int (i : Nat), encQ (tau ts n x i)])), e6', e7'] (m0 ++ [.lst (encI (nxt i left)), .lst (found ++ [.tuple [.int (i : Nat), encQ (tau ts n x i)]])])) := by
      simp only [w_from_left4, ev_seq, ev_asg, ev_par, ev_if, ev_ret, ev_retN, ev_expr, ev_bin, ev_un, ev_ap, ev_cons, ev_nil, ev_varS, ev_var0, ev_c, ob_some, ev_gNm, ev_tOf, ev_asB, ev_asI, ev_tNot, ev_tAnd, ev_tOr, ev_eOf, ev_eIf, ev_chain, List.set_cons_succ, List.set_cons_zero, ev_then_nx, ev_then_rt, ev_next, ev_pTup, ev_valsC, ev_vals0, ev_eL, ev_bm, ev_aug, pix_t, pix_l, pixq0, pixq1, atI_0, atI_1, atI_2, pp_ii, ps_ii, pa_ii, plt_ii, ple_ii, pgt_ii, pge_ii, peq_ii, pne_ii, pneg_i, List.length_cons, List.length_nil, Nat.reduceAdd, Nat.reduceSub, Nat.reduceLeDiff, sz, if_true, Bool.false_eq_true, if_false, Bool.not_true, Bool.not_false, leave_v, List.take_length, plen_t, plen_l, ptup_l, ptup_t, pint_i, pis_n, pis_i, pis_t, pisnt_n, pisnt_i, pisnt_t, Int.cast_ofNat_Int, ne_eq, not_true_eq_false, not_false_eq_true, decide_true, decide_false, ev_for, it_an, run_ref (get_b m0 _ _), ez, a1, h2, a2, h3]
    rw [w_nx hc hb, ih]
    simp only [List.map_cons, List.append_assoc, List.cons_append, List.nil_append, ep2]
end
end L34

set_option Elab.async false
set_option linter.all false
set_option maxRecDepth 100000
namespace L34
open PySem PySem.Spec PyProof.Rows L2 Ev Qa Cut
section
variable {ts : List (List Nat)} {n hours : Nat} {m : M}
theorem go_end (T : Nts ts n hours) : ∀ (r k : Nat) (left : List Nat) (x : Rat), Stg ts n hours k left x → left.length = r + 1 → ∃ i y, (goL ts n r left x).2 = ([i], y) ∧ Stg ts n hours (n - 1) [i] y
  | 0, k, left, x, S, hl => by
    obtain ⟨i, rfl⟩ : ∃ i, left = [i] := List.length_eq_one_iff.mp hl
    have : k = n - 1 := by have := S.len; simp at this; omega
    subst this
    exact ⟨i, x, rfl, S⟩
  | r + 1, k, left, x, S, hl => by
    have hk : k + 2 ≤ n := by have := S.len; omega
    have hne : left ≠ [] := fun z => by rw [z] at hl; simp at hl
    obtain ⟨i, hpk, hi, hmin⟩ := pk_ne (tau ts n x) hne
    have S' := stg_next T S hk hi hmin
    have hl' : (nxt i left).length = r + 1 := by have := nxt_len S.nd hi; omega
    obtain ⟨j, y, h1, h2⟩ := go_end T r (k + 1) (nxt i left) (tau ts n x i) S' hl'
    refine ⟨j, y, ?_, h2⟩
    rw [goL, hpk]
    exact h1
theorem stg0 (T : Nts ts n hours) : Stg ts n hours 0 (List.range n) 0 := by
  refine ⟨List.nodup_range, fun i hi => by simpa using hi, by simp, In.nat 0, by grind, nat_nn hours, fun i hi => ?_⟩
  have : Wq (ts.getD i []) 0 = 0 := by
    unfold Wq
    rw [Ws_0 _ (by grind)]
    grind
  rw [this]
  have z0 : ((0 : Nat) : Rat) = 0 := rfl
  rw [z0]
  grind
/-- what is told -/
def toldL (ts : List (List Nat)) (n hours : Nat) : List (Nat × Rat) := (goL ts n (n - 1) (List.range n) 0).1 ++ [((goL ts n (n - 1) (List.range n) 0).2.1.headD 0, (hours : Rat))]
theorem range_enc (n : Nat) : rngD 0 n = encI (List.range n) := by
  have := rngD_nat 0 n
  rw [← List.range_eq_range'] at this
  exact this
theorem nRg1_ok {f : EF} {env : Sl} {m m1 : M} {k : Nat} (h : f env m = some (.val (.int (k : Nat)), m1)) (hk : k ≤ 1000000) : nRg1 f env m = some (encI (List.range k), m1) := by
  have h2 : rgOkB 0 (k : Int) = true := decide_eq_true ⟨by decide, by decide, by omega, by omega, by omega⟩
  unfold nRg1
  rw [h, ob_some]
  simp only [ev_asI, ob_some, h2, if_true, Int.sub_zero, Int.toNat_natCast, range_enc]
theorem goL_len (T : Nts ts n hours) : ∀ (r k : Nat) (left : List Nat) (x : Rat), Stg ts n hours k left x → left.length = r + 1 → (goL ts n r left x).1.length = r
  | 0, _, _, _, _, _ => rfl
  | r + 1, k, left, x, S, hl => by
    have hk : k + 2 ≤ n := by have := S.len; omega
    have hne : left ≠ [] := fun z => by rw [z] at hl; simp at hl
    obtain ⟨i, hpk, hi, hmin⟩ := pk_ne (tau ts n x) hne
    have S' := stg_next T S hk hi hmin
    have hl' : (nxt i left).length = r + 1 := by have := nxt_len S.nd hi; omega
    rw [goL, hpk]
    show ((i, tau ts n x i) :: (goL ts n r (nxt i left) (tau ts n x i)).1).length = r + 1
    rw [List.length_cons, goL_len T r (k + 1) _ _ S' hl']
theorem checks (T : Nts ts n hours) {e2 e3 e4 e5 e6 e7 : Option R} : ∀ (l : List (List Nat)) (e1 : Option R), (∀ t ∈ l, Tok t) → ∃ e1', loopL (gNm 1) l_from_left1 (l.map encT) [some (.val (encTs ts)), e1, e2, e3, e4, e5, e6, e7] m = some (.nx [some (.val (encTs ts)), e1', e2, e3, e4, e5, e6, e7] m)
  | [], e1, _ => ⟨e1, rfl⟩
  | t :: l, e1, h => by
    obtain ⟨e1', ih⟩ := checks T l (some (.val (encT t))) (fun u hu => h u (List.mem_cons_of_mem _ hu))
    refine ⟨e1', ?_⟩
    rw [List.map_cons, step_nx (env1 := [some (.val (encTs ts)), some (.val (encT t)), e2, e3, e4, e5, e6, e7]) rfl (by simp only [l_from_left1, ev_asg, ev_par, ev_if, ev_ret, ev_retN, ev_expr, ev_bin, ev_un, ev_ap, ev_cons, ev_nil, ev_varS, ev_var0, ev_c, ob_some, ev_gNm, ev_tOf, ev_asB, ev_asI, ev_tNot, ev_tAnd, ev_tOr, ev_eOf, ev_eIf, ev_chain, List.set_cons_succ, List.set_cons_zero, ev_then_nx, ev_then_rt, ev_next, ev_pTup, ev_valsC, ev_vals0, ev_eL, ev_bm, ev_aug, pix_t, pix_l, pixq0, pixq1, atI_0, atI_1, atI_2, pp_ii, ps_ii, pa_ii, plt_ii, ple_ii, pgt_ii, pge_ii, peq_ii, pne_ii, pneg_i, List.length_cons, List.length_nil, Nat.reduceAdd, Nat.reduceSub, Nat.reduceLeDiff, sz, if_true, Bool.false_eq_true, if_false, Bool.not_true, Bool.not_false, leave_v, List.take_length, plen_t, plen_l, ptup_l, ptup_t, pint_i, pis_n, pis_i, pis_t, pisnt_n, pisnt_i, pisnt_t, Int.cast_ofNat_Int, ne_eq, not_true_eq_false, not_false_eq_true, decide_true, decide_false, check_taste_ok (h t (by simp))]; rfl), ih]
theorem ev_par3 {fa : AF} {i j l : Nat} {env : Sl} {m : M} : sPar3 i j l fa env m = (fa env m).bind fun x => match x.1 with
  | [a, b, c] => some (.nx (((env.set i (some a)).set j (some b)).set l (some c)) x.2)
  | _ => none := nr rfl
theorem from_left_ok (T : Nts ts n hours) : m_from_left [.val (encTs ts)] m = some (.val (.tuple ((toldL ts n hours).map encP)), m) := by
  have hn5 := T.n5
  have hn2 := T.n2
  have hlen := T.len
  obtain ⟨e1, h1⟩ := checks (m := m) T (e2 := none) (e3 := none) (e4 := none) (e5 := none) (e6 := none) (e7 := none) ts none (fun t ht => (T.tok t ht).1)
  have cl := plen_Ts (m := m) (ts := ts)
  rw [T.len] at cl
  have h2 : ((2 : Int) ≤ (n : Int)) := by omega
  have h5 : ((n : Int) ≤ 5) := by omega
  have t0 := pix_Ts (m := m) (ts := ts) (i := 0) (by omega)
  have t0' : pIdx (.val (encTs ts)) (.val (.int 0)) m = some (.val (encT (ts.getD 0 [])), m) := t0
  have l0 : ((ts.getD 0 []).length : Int) = (hours : Int) := by
    have := (T.at_ (i := 0) (by omega)).2
    rw [this]
  have hc : ∀ e1 e2 e3 e4 e5 e6 e7, clpL (.nm 1) tTrue e_from_left2 [some (.val (encTs ts)), e1, e2, e3, e4, e5, e6, e7] (ts.map encT) m = some (ts.map fun _ => .bool false, m) := fun e1 e2 e3 e4 e5 e6 e7 =>
    clpL_all encT (fun _ => .bool false) ts fun t ht => ⟨_, rfl, by
      have := (T.tok t ht).2
      simp only [e_from_left2, ev_asg, ev_par, ev_if, ev_ret, ev_retN, ev_expr, ev_bin, ev_un, ev_ap, ev_cons, ev_nil, ev_varS, ev_var0, ev_c, ob_some, ev_gNm, ev_tOf, ev_asB, ev_asI, ev_tNot, ev_tAnd, ev_tOr, ev_eOf, ev_eIf, ev_chain, List.set_cons_succ, List.set_cons_zero, ev_then_nx, ev_then_rt, ev_next, ev_pTup, ev_valsC, ev_vals0, ev_eL, ev_bm, ev_aug, pix_t, pix_l, pixq0, pixq1, atI_0, atI_1, atI_2, pp_ii, ps_ii, pa_ii, plt_ii, ple_ii, pgt_ii, pge_ii, peq_ii, pne_ii, pneg_i, List.length_cons, List.length_nil, Nat.reduceAdd, Nat.reduceSub, Nat.reduceLeDiff, sz, if_true, Bool.false_eq_true, if_false, Bool.not_true, Bool.not_false, leave_v, List.take_length, plen_t, plen_l, ptup_l, ptup_t, pint_i, pis_n, pis_i, pis_t, pisnt_n, pisnt_i, pisnt_t, Int.cast_ofNat_Int, ne_eq, not_true_eq_false, not_false_eq_true, decide_true, decide_false, plen_T, t0', l0, this, List.set]⟩
  have hl : (ts.map encT).length ≤ 16777216 := by rw [List.length_map]; omega
  have hany : pAny [.val (.list (ts.map fun _ => PyData.bool false))] m = some (.val (.bool false), m) := by
    have := pany_l (m := m) ts (fun _ => false)
    rw [this]
    congr 3
    congr 1
    simp
  have S := stg0 T
  obtain ⟨e1', e5', e6', e7', hw⟩ := fw (m0 := m) T (n - 1) fuel 0 (List.range n) 0 [] e1 none none none S (by rw [List.length_range]; omega) (by show n - 1 < 1000000; omega) (by rw [List.length_nil]; omega)
  obtain ⟨i, y, g1, g2⟩ := go_end T (n - 1) 0 (List.range n) 0 S (by rw [List.length_range]; omega)
  have hgl := goL_len T (n - 1) 0 (List.range n) 0 S (by rw [List.length_range]; omega)
  rw [g1] at hw
  simp only [List.nil_append] at hw
  rw [encQ_0] at hw
  have tT := ptup_r (m := m ++ [.lst (encI [i]), .lst ((goL ts n (n - 1) (List.range n) 0).1.map encP)]) (get_b1 m _ _)
  have ix := pix_r (m := m ++ [.lst (encI [i]), .lst ((goL ts n (n - 1) (List.range n) 0).1.map encP)]) (i := 0) (get_b m _ _)
  have ix2 : atI (encI [i]) 0 = some (.int (i : Nat)) := atI_0
  have t0b := pix_Ts (m := m ++ [.lst (encI [i]), .lst ((goL ts n (n - 1) (List.range n) 0).1.map encP)]) (ts := ts) (i := 0) (by omega)
  have t0b' : pIdx (.val (encTs ts)) (.val (.int 0)) (m ++ [.lst (encI [i]), .lst ((goL ts n (n - 1) (List.range n) 0).1.map encP)]) = some (.val (encT (ts.getD 0 [])), _) := t0b
  have cat := pp_tt (m := m ++ [.lst (encI [i]), .lst ((goL ts n (n - 1) (List.range n) 0).1.map encP)]) (ds := (goL ts n (n - 1) (List.range n) 0).1.map encP) (es := [.tuple [.int (i : Nat), .tuple [.int (hours : Int), .int 1]]]) (by rw [List.length_map, hgl]; simp; omega)
  have fin : (goL ts n (n - 1) (List.range n) 0).1.map encP ++ [PyData.tuple [.int (i : Nat), .tuple [.int (hours : Int), .int 1]]] = (toldL ts n hours).map encP := by
    unfold toldL
    rw [g1, List.map_append]
    rfl
  rw [fin] at cat
  have eT : encTs ts = .tuple (ts.map encT) := rfl
  have i1 : ∀ e1, (eIsA .tuple (eVar 0)) [some (.val (encTs ts)), e1, none, none, none, none, none, none] m = some (.val (.bool true), m) := fun e1 => rfl
  have a1 : an1 (.val (encTs ts)) m = iL (ts.map encT) m := rfl
  have nr1 : ∀ e1, nRg1 (eAp pLen (aCons (eVar 0) aNil)) [some (.val (encTs ts)), e1, none, none, none, none, none, none] m = some (encI (List.range n), m) := fun e1 => nRg1_ok (by simp only [ev_asg, ev_par, ev_if, ev_ret, ev_retN, ev_expr, ev_bin, ev_un, ev_ap, ev_cons, ev_nil, ev_varS, ev_var0, ev_c, ob_some, ev_gNm, ev_tOf, ev_asB, ev_asI, ev_tNot, ev_tAnd, ev_tOr, ev_eOf, ev_eIf, ev_chain, List.set_cons_succ, List.set_cons_zero, ev_then_nx, ev_then_rt, ev_next, ev_pTup, ev_valsC, ev_vals0, ev_eL, ev_bm, ev_aug, pix_t, pix_l, pixq0, pixq1, atI_0, atI_1, atI_2, pp_ii, ps_ii, pa_ii, plt_ii, ple_ii, pgt_ii, pge_ii, peq_ii, pne_ii, pneg_i, List.length_cons, List.length_nil, Nat.reduceAdd, Nat.reduceSub, Nat.reduceLeDiff, sz, if_true, Bool.false_eq_true, if_false, Bool.not_true, Bool.not_false, leave_v, List.take_length, plen_t, plen_l, ptup_l, ptup_t, pint_i, pis_n, pis_i, pis_t, pisnt_n, pisnt_i, pisnt_t, Int.cast_ofNat_Int, ne_eq, not_true_eq_false, not_false_eq_true, decide_true, decide_false, cl]) (by omega)
  have tk : (m ++ [Ob.lst (encI [i]), Ob.lst ((goL ts n (n - 1) (List.range n) 0).1.map encP)]).take m.length = m := by simp
  simp only [m_from_left, bodyF, List.length_cons, List.length_nil, Nat.reduceAdd, Nat.reduceSub, List.map_cons, List.map_nil, List.replicate, List.cons_append, List.nil_append, List.append_nil, b_from_left]
  rw [ev_seq]
  simp only [ev_asg, ev_par, ev_if, ev_ret, ev_retN, ev_expr, ev_bin, ev_un, ev_ap, ev_cons, ev_nil, ev_varS, ev_var0, ev_c, ob_some, ev_gNm, ev_tOf, ev_asB, ev_asI, ev_tNot, ev_tAnd, ev_tOr, ev_eOf, ev_eIf, ev_chain, List.set_cons_succ, List.set_cons_zero, ev_then_nx, ev_then_rt, ev_next, ev_pTup, ev_valsC, ev_vals0, ev_eL, ev_bm, ev_aug, pix_t, pix_l, pixq0, pixq1, atI_0, atI_1, atI_2, pp_ii, ps_ii, pa_ii, plt_ii, ple_ii, pgt_ii, pge_ii, peq_ii, pne_ii, pneg_i, List.length_cons, List.length_nil, Nat.reduceAdd, Nat.reduceSub, Nat.reduceLeDiff, sz, if_true, Bool.false_eq_true, if_false, Bool.not_true, Bool.not_false, leave_v, List.take_length, plen_t, plen_l, ptup_l, ptup_t, pint_i, pis_n, pis_i, pis_t, pisnt_n, pisnt_i, pisnt_t, Int.cast_ofNat_Int, ne_eq, not_true_eq_false, not_false_eq_true, decide_true, decide_false, i1, cl, h2, h5]
  rw [ev_seq]
  simp only [ev_for, it_an, ev_asg, ev_par, ev_if, ev_ret, ev_retN, ev_expr, ev_bin, ev_un, ev_ap, ev_cons, ev_nil, ev_varS, ev_var0, ev_c, ob_some, ev_gNm, ev_tOf, ev_asB, ev_asI, ev_tNot, ev_tAnd, ev_tOr, ev_eOf, ev_eIf, ev_chain, List.set_cons_succ, List.set_cons_zero, ev_then_nx, ev_then_rt, ev_next, ev_pTup, ev_valsC, ev_vals0, ev_eL, ev_bm, ev_aug, pix_t, pix_l, pixq0, pixq1, atI_0, atI_1, atI_2, pp_ii, ps_ii, pa_ii, plt_ii, ple_ii, pgt_ii, pge_ii, peq_ii, pne_ii, pneg_i, List.length_cons, List.length_nil, Nat.reduceAdd, Nat.reduceSub, Nat.reduceLeDiff, sz, if_true, Bool.false_eq_true, if_false, Bool.not_true, Bool.not_false, leave_v, List.take_length, plen_t, plen_l, ptup_l, ptup_t, pint_i, pis_n, pis_i, pis_t, pisnt_n, pisnt_i, pisnt_t, Int.cast_ofNat_Int, ne_eq, not_true_eq_false, not_false_eq_true, decide_true, decide_false, a1, run_iL, h1]
  rw [ev_seq]
  simp only [ev_asg, ev_par, ev_if, ev_ret, ev_retN, ev_expr, ev_bin, ev_un, ev_ap, ev_cons, ev_nil, ev_varS, ev_var0, ev_c, ob_some, ev_gNm, ev_tOf, ev_asB, ev_asI, ev_tNot, ev_tAnd, ev_tOr, ev_eOf, ev_eIf, ev_chain, List.set_cons_succ, List.set_cons_zero, ev_then_nx, ev_then_rt, ev_next, ev_pTup, ev_valsC, ev_vals0, ev_eL, ev_bm, ev_aug, pix_t, pix_l, pixq0, pixq1, atI_0, atI_1, atI_2, pp_ii, ps_ii, pa_ii, plt_ii, ple_ii, pgt_ii, pge_ii, peq_ii, pne_ii, pneg_i, List.length_cons, List.length_nil, Nat.reduceAdd, Nat.reduceSub, Nat.reduceLeDiff, sz, if_true, Bool.false_eq_true, if_false, Bool.not_true, Bool.not_false, leave_v, List.take_length, plen_t, plen_l, ptup_l, ptup_t, pint_i, pis_n, pis_i, pis_t, pisnt_n, pisnt_i, pisnt_t, Int.cast_ofNat_Int, ne_eq, not_true_eq_false, not_false_eq_true, decide_true, decide_false, ev_comp, it_an, a1, runC_iL hl, wipeE, hc, hany, List.set]
  rw [ev_seq]
  simp only [ev_par3, ev_asg, ev_par, ev_if, ev_ret, ev_retN, ev_expr, ev_bin, ev_un, ev_ap, ev_cons, ev_nil, ev_varS, ev_var0, ev_c, ob_some, ev_gNm, ev_tOf, ev_asB, ev_asI, ev_tNot, ev_tAnd, ev_tOr, ev_eOf, ev_eIf, ev_chain, List.set_cons_succ, List.set_cons_zero, ev_then_nx, ev_then_rt, ev_next, ev_pTup, ev_valsC, ev_vals0, ev_eL, ev_bm, ev_aug, pix_t, pix_l, pixq0, pixq1, atI_0, atI_1, atI_2, pp_ii, ps_ii, pa_ii, plt_ii, ple_ii, pgt_ii, pge_ii, peq_ii, pne_ii, pneg_i, List.length_cons, List.length_nil, Nat.reduceAdd, Nat.reduceSub, Nat.reduceLeDiff, sz, if_true, Bool.false_eq_true, if_false, Bool.not_true, Bool.not_false, leave_v, List.take_length, plen_t, plen_l, ptup_l, ptup_t, pint_i, pis_n, pis_i, pis_t, pisnt_n, pisnt_i, pisnt_t, Int.cast_ofNat_Int, ne_eq, not_true_eq_false, not_false_eq_true, decide_true, decide_false, ev_eNew, nr1, ev_nLst, List.append_assoc, List.cons_append, List.nil_append, List.length_append]
  rw [ev_seq, hw]
  simp only [ev_asg, ev_par, ev_if, ev_ret, ev_retN, ev_expr, ev_bin, ev_un, ev_ap, ev_cons, ev_nil, ev_varS, ev_var0, ev_c, ob_some, ev_gNm, ev_tOf, ev_asB, ev_asI, ev_tNot, ev_tAnd, ev_tOr, ev_eOf, ev_eIf, ev_chain, List.set_cons_succ, List.set_cons_zero, ev_then_nx, ev_then_rt, ev_next, ev_pTup, ev_valsC, ev_vals0, ev_eL, ev_bm, ev_aug, pix_t, pix_l, pixq0, pixq1, atI_0, atI_1, atI_2, pp_ii, ps_ii, pa_ii, plt_ii, ple_ii, pgt_ii, pge_ii, peq_ii, pne_ii, pneg_i, List.length_cons, List.length_nil, Nat.reduceAdd, Nat.reduceSub, Nat.reduceLeDiff, sz, if_true, Bool.false_eq_true, if_false, Bool.not_true, Bool.not_false, leave_v, List.take_length, plen_t, plen_l, ptup_l, ptup_t, pint_i, pis_n, pis_i, pis_t, pisnt_n, pisnt_i, pisnt_t, Int.cast_ofNat_Int, ne_eq, not_true_eq_false, not_false_eq_true, decide_true, decide_false, tT, ix, ix2, t0b', plen_T, l0, cat, tk]
end
end L34

set_option Elab.async false
set_option linter.all false
set_option maxRecDepth 100000
namespace L34
open PySem PySem.Spec PyProof.Rows L2 Ev Qa Cut
theorem ints_of {B : Nat} : ∀ (ds : List D), (∀ d ∈ ds, ∃ a : Nat, d = .int a ∧ a < B) → ∃ r : List Nat, ds = encI r ∧ ∀ a ∈ r, a < B
  | [], _ => ⟨[], rfl, fun a ha => by cases ha⟩
  | d :: ds, h => by
    obtain ⟨a, h1, h2⟩ := h d (by simp)
    obtain ⟨r, h3, h4⟩ := ints_of ds fun e he => h e (List.mem_cons_of_mem _ he)
    refine ⟨a :: r, by rw [h1, h3]; rfl, fun b hb => ?_⟩
    rcases List.mem_cons.mp hb with z | z
    · rw [z]; exact h2
    · exact h4 b z
theorem psum_r {k : Nat} {r : List Nat} {m : M} (h : m[k]? = some (Ob.lst (encI r))) : pSum [.ref k] m = some (.val (.int (r.sum : Nat)), m) := by
  show ((asLT (.ref k) m).bind fun ds => (asIs ds).bind fun ns => some (R.val (.int ns.sum), m)) = _
  have e1 : asLT (.ref k) m = some (encI r) := by simp [asLT, asL, h]
  have e2 : asIs (encI r) = some (r.map fun a : Nat => (a : Int)) := asIs_map' r fun a : Nat => (a : Int)
  rw [e1, ob_some, e2, ob_some, sum_cast]
theorem sum_le {B : Nat} : ∀ (r : List Nat), (∀ a ∈ r, a ≤ B) → r.sum ≤ B * r.length
  | [], _ => by simp
  | a :: r, h => by
    have := sum_le r fun b hb => h b (List.mem_cons_of_mem _ hb)
    have := h a (by simp)
    rw [List.sum_cons, List.length_cons, Nat.mul_succ]
    omega
theorem sum_zero : ∀ (r : List Nat), r.sum = 0 → ∀ a ∈ r, a = 0
  | [], _, a, h => by cases h
  | b :: r, h, a, ha => by
    rw [List.sum_cons] at h
    rcases List.mem_cons.mp ha with z | z
    · omega
    · exact sum_zero r (by omega) a z
theorem set_sum : ∀ (r : List Nat) (d : Nat), d < r.length → r.sum = 0 → (r.set d 1).sum = 1
  | [], d, h, _ => by simp at h
  | a :: r, 0, _, h0 => by
    rw [List.sum_cons] at h0
    show (1 :: r).sum = 1
    rw [List.sum_cons]
    omega
  | a :: r, d + 1, h, h0 => by
    rw [List.sum_cons] at h0
    show (a :: r.set d 1).sum = 1
    rw [List.sum_cons, set_sum r d (by simpa using h) (by omega)]
    omega
theorem encI_set (r : List Nat) (d a : Nat) : (encI r).set d (.int a) = encI (r.set d a) := by
  unfold encI
  rw [List.map_set]
section
variable {m : M} {hours n : Nat}
theorem row_draws {rest : M} (hh : hours ≤ 10) (hm : Bx rest m) {env : Sl} (he : ∀ (d : D) (m : M), eVar 0 (env.set 23 (some (.val d))) m = some (.ref 0, m)) :
    ∃ r m', clpL (.nm 23) tTrue e__law_cutting1 env ((List.range hours).map fun j : Nat => PyData.int j) m = some (encI r, m') ∧ r.length = hours ∧ (∀ a ∈ r, a < 6) ∧ Bx rest m' := by
  obtain ⟨ds, m', h1, h2, h3, h4⟩ := clpL_inv (p := .nm 23) (te := e__law_cutting1) (env := env) (fun m => Bx rest m) (fun d => ∃ a : Nat, d = .int a ∧ a < 6) ((List.range hours).map fun j : Nat => PyData.int j) m hm fun d _ m hm => by
    obtain ⟨a, m', g1, g2, g3⟩ := drawN hm (k := 6) (by decide) (by decide)
    refine ⟨_, _, m', rfl, ?_, ⟨a, rfl, g2⟩, g3⟩
    have g1' : m__law_draw [.ref 0, .val (.int 6)] m = some (.val (.int (a : Int)), m') := g1
    simp only [e__law_cutting1, ev_asg, ev_par, ev_if, ev_ret, ev_retN, ev_expr, ev_bin, ev_un, ev_ap, ev_cons, ev_nil, ev_varS, ev_var0, ev_c, ob_some, ev_gNm, ev_tOf, ev_asB, ev_asI, ev_tNot, ev_tAnd, ev_tOr, ev_eOf, ev_eIf, ev_chain, List.set_cons_succ, List.set_cons_zero, ev_then_nx, ev_then_rt, ev_next, ev_pTup, ev_valsC, ev_vals0, ev_eL, ev_bm, ev_aug, pix_t, pix_l, pixq0, pixq1, atI_0, atI_1, atI_2, pp_ii, ps_ii, pa_ii, plt_ii, ple_ii, pgt_ii, pge_ii, peq_ii, pne_ii, pneg_i, List.length_cons, List.length_nil, Nat.reduceAdd, Nat.reduceSub, Nat.reduceLeDiff, sz, if_true, Bool.false_eq_true, if_false, Bool.not_true, Bool.not_false, leave_v, List.take_length, plen_t, plen_l, ptup_l, ptup_t, pint_i, pis_n, pis_i, pis_t, pisnt_n, pisnt_i, pisnt_t, Int.cast_ofNat_Int, ne_eq, not_true_eq_false, not_false_eq_true, decide_true, decide_false, he, g1']
  obtain ⟨r, rfl, h5⟩ := ints_of ds h3
  refine ⟨r, m', h1, ?_, h5, h4⟩
  rw [encI_len, List.length_map, List.length_range] at h2
  exact h2
theorem tok_of {r : List Nat} (hl : r.length ≤ 10) (h : ∀ a ∈ r, a < 6) (hp : 0 < r.sum) : Tok r := by
  have := sum_le (B := 5) r fun a ha => by have := h a ha; omega
  exact ⟨hl, fun a ha => by have := h a ha; omega, hp, by omega⟩
theorem taste_step {J : M} {done : List (List Nat)} (h1 : 1 ≤ hours) (hh : hours ≤ 10) (hm : Bx (Ob.lst (done.map encT) :: J) m) (hd : done.length ≤ 100) {e4 : R} {e5 : Option R} {N : R} :
    ∃ (t : List Nat) (m' J' : M) (e5' : Option R), Tok t ∧ t.length = hours ∧ Bx (Ob.lst ((done ++ [t]).map encT) :: J') m' ∧
      l__law_cutting2 [some (.ref 0), some (.val (.int (hours : Nat))), some N, some (.ref 1), some e4, e5, none, none, none, none, none, none, none, none, none, none, none, none, none, none, none, none, none, none] m =
        some (.nx [some (.ref 0), some (.val (.int (hours : Nat))), some N, some (.ref 1), some e4, e5', none, none, none, none, none, none, none, none, none, none, none, none, none, none, none, none, none, none] m') := by
  obtain ⟨r, m1, c1, c2, c3, c4⟩ := row_draws (env := [some (.ref 0), some (.val (.int (hours : Nat))), some N, some (.ref 1), some e4, e5, none, none, none, none, none, none, none, none, none, none, none, none, none, none, none, none, none, none]) hh hm (fun d m => rfl)
  obtain ⟨a, b, rfl, hA⟩ := c4
  have hl : ((List.range hours).map fun j : Nat => PyData.int j).length ≤ 16777216 := by
    rw [List.length_map, List.length_range]
    omega
  have hk : ((Ob.lst [.int a, .int b] :: Ob.lst (done.map encT) :: J ++ [Ob.lst (encI r)] : M))[(J.length + 2)]? = some (Ob.lst (encI r)) := by
    show ((Ob.lst [.int a, .int b] :: Ob.lst (done.map encT) :: J : M) ++ [Ob.lst (encI r)])[(J.length + 2)]? = _
    rw [List.getElem?_append_right (by simp)]
    simp
  have p1 := psum_r hk
  have hdl : (done.map encT).length < 16777216 := by rw [List.length_map]; omega
  by_cases hz : r.sum = 0
  · obtain ⟨d, m2, d1, d2, d3⟩ := drawN (m := (Ob.lst [.int a, .int b] :: Ob.lst (done.map encT) :: J ++ [Ob.lst (encI r)] : M)) (rest := (Ob.lst (done.map encT) :: J ++ [Ob.lst (encI r)] : M)) ⟨a, b, rfl, hA⟩ (k := hours) (by omega) (by omega)
    obtain ⟨a2, b2, rfl, hA2⟩ := d3
    have hk2 : ((Ob.lst [.int a2, .int b2] :: (Ob.lst (done.map encT) :: J ++ [Ob.lst (encI r)]) : M))[(J.length + 2)]? = some (Ob.lst (encI r)) := by
      show ((Ob.lst [.int a2, .int b2] :: Ob.lst (done.map encT) :: J : M) ++ [Ob.lst (encI r)])[(J.length + 2)]? = _
      rw [List.getElem?_append_right (by simp)]
      simp
    have s1 := pset_r (d := .int 1) (i := (d : Int)) hk2
    rw [encI_len, c2, ixN_nat d2, ob_some] at s1
    have e1 : (encI r).set d (.int 1) = encI (r.set d 1) := encI_set r d 1
    have e2 : (Ob.lst [.int a2, .int b2] :: (Ob.lst (done.map encT) :: J ++ [Ob.lst (encI r)]) : M).set (J.length + 2) (Ob.lst (encI (r.set d 1))) = Ob.lst [.int a2, .int b2] :: Ob.lst (done.map encT) :: (J ++ [Ob.lst (encI (r.set d 1))]) := by
      show ((Ob.lst [.int a2, .int b2] :: Ob.lst (done.map encT) :: J : M) ++ [Ob.lst (encI r)]).set (J.length + 2) _ = _
      rw [List.set_append_right _ _ (by simp)]
      simp
    rw [e1, e2] at s1
    have hk3 : (Ob.lst [.int a2, .int b2] :: Ob.lst (done.map encT) :: (J ++ [Ob.lst (encI (r.set d 1))]) : M)[(J.length + 2)]? = some (Ob.lst (encI (r.set d 1))) := by
      show ((Ob.lst [.int a2, .int b2] :: Ob.lst (done.map encT) :: J : M) ++ [Ob.lst (encI (r.set d 1))])[(J.length + 2)]? = _
      rw [List.getElem?_append_right (by simp)]
      simp
    have t1 := ptup_r hk3
    have ap := papp_r (m := Ob.lst [.int a2, .int b2] :: Ob.lst (done.map encT) :: (J ++ [Ob.lst (encI (r.set d 1))])) (k := 1) (d := .tuple (encI (r.set d 1))) rfl hdl
    have al := asL_r (m := Ob.lst [.int a2, .int b2] :: Ob.lst (done.map encT) :: (J ++ [Ob.lst (encI (r.set d 1))])) (k := 1) rfl
    have T : Tok (r.set d 1) := by
      refine tok_of (by rw [List.length_set]; omega) (fun x hx => ?_) (by rw [set_sum r d (by omega) hz]; decide)
      rcases List.mem_or_eq_of_mem_set hx with z | z
      · exact c3 x z
      · omega
    refine ⟨r.set d 1, Ob.lst [.int a2, .int b2] :: Ob.lst ((done ++ [r.set d 1]).map encT) :: (J ++ [Ob.lst (encI (r.set d 1))]), J ++ [Ob.lst (encI (r.set d 1))], some (.ref (J.length + 2)), T, by rw [List.length_set]; exact c2, ⟨a2, b2, rfl, hA2⟩, ?_⟩
    have hz' : ((r.sum : Nat) : Int) = 0 := by omega
    simp only [l__law_cutting2]
    rw [ev_seq]
    simp only [ev_asg, ev_par, ev_if, ev_ret, ev_retN, ev_expr, ev_bin, ev_un, ev_ap, ev_cons, ev_nil, ev_varS, ev_var0, ev_c, ob_some, ev_gNm, ev_tOf, ev_asB, ev_asI, ev_tNot, ev_tAnd, ev_tOr, ev_eOf, ev_eIf, ev_chain, List.set_cons_succ, List.set_cons_zero, ev_then_nx, ev_then_rt, ev_next, ev_pTup, ev_valsC, ev_vals0, ev_eL, ev_bm, ev_aug, pix_t, pix_l, pixq0, pixq1, atI_0, atI_1, atI_2, pp_ii, ps_ii, pa_ii, plt_ii, ple_ii, pgt_ii, pge_ii, peq_ii, pne_ii, pneg_i, List.length_cons, List.length_nil, Nat.reduceAdd, Nat.reduceSub, Nat.reduceLeDiff, sz, if_true, Bool.false_eq_true, if_false, Bool.not_true, Bool.not_false, leave_v, List.take_length, plen_t, plen_l, ptup_l, ptup_t, pint_i, pis_n, pis_i, pis_t, pisnt_n, pisnt_i, pisnt_t, Int.cast_ofNat_Int, ne_eq, not_true_eq_false, not_false_eq_true, decide_true, decide_false, ev_eNew, ev_comp, it_rg1, rg1_nat (n := hours) (by omega), runC_iL hl, wipeE, List.set, c1]
    rw [ev_seq]
    simp only [ev_asg, ev_par, ev_if, ev_ret, ev_retN, ev_expr, ev_bin, ev_un, ev_ap, ev_cons, ev_nil, ev_varS, ev_var0, ev_c, ob_some, ev_gNm, ev_tOf, ev_asB, ev_asI, ev_tNot, ev_tAnd, ev_tOr, ev_eOf, ev_eIf, ev_chain, List.set_cons_succ, List.set_cons_zero, ev_then_nx, ev_then_rt, ev_next, ev_pTup, ev_valsC, ev_vals0, ev_eL, ev_bm, ev_aug, pix_t, pix_l, pixq0, pixq1, atI_0, atI_1, atI_2, pp_ii, ps_ii, pa_ii, plt_ii, ple_ii, pgt_ii, pge_ii, peq_ii, pne_ii, pneg_i, List.length_cons, List.length_nil, Nat.reduceAdd, Nat.reduceSub, Nat.reduceLeDiff, sz, if_true, Bool.false_eq_true, if_false, Bool.not_true, Bool.not_false, leave_v, List.take_length, plen_t, plen_l, ptup_l, ptup_t, pint_i, pis_n, pis_i, pis_t, pisnt_n, pisnt_i, pisnt_t, Int.cast_ofNat_Int, ne_eq, not_true_eq_false, not_false_eq_true, decide_true, decide_false, List.cons_append, p1, hz', ev_sub, d1]
    simp only [List.cons_append] at s1 d1 p1
    simp only [p1, ev_asg, ev_par, ev_if, ev_ret, ev_retN, ev_expr, ev_bin, ev_un, ev_ap, ev_cons, ev_nil, ev_varS, ev_var0, ev_c, ob_some, ev_gNm, ev_tOf, ev_asB, ev_asI, ev_tNot, ev_tAnd, ev_tOr, ev_eOf, ev_eIf, ev_chain, List.set_cons_succ, List.set_cons_zero, ev_then_nx, ev_then_rt, ev_next, ev_pTup, ev_valsC, ev_vals0, ev_eL, ev_bm, ev_aug, pix_t, pix_l, pixq0, pixq1, atI_0, atI_1, atI_2, pp_ii, ps_ii, pa_ii, plt_ii, ple_ii, pgt_ii, pge_ii, peq_ii, pne_ii, pneg_i, List.length_cons, List.length_nil, Nat.reduceAdd, Nat.reduceSub, Nat.reduceLeDiff, sz, if_true, Bool.false_eq_true, if_false, Bool.not_true, Bool.not_false, leave_v, List.take_length, plen_t, plen_l, ptup_l, ptup_t, pint_i, pis_n, pis_i, pis_t, pisnt_n, pisnt_i, pisnt_t, Int.cast_ofNat_Int, ne_eq, not_true_eq_false, not_false_eq_true, decide_true, decide_false, hz', d1, s1]
    simp only [t1, al, ev_asg, ev_par, ev_if, ev_ret, ev_retN, ev_expr, ev_bin, ev_un, ev_ap, ev_cons, ev_nil, ev_varS, ev_var0, ev_c, ob_some, ev_gNm, ev_tOf, ev_asB, ev_asI, ev_tNot, ev_tAnd, ev_tOr, ev_eOf, ev_eIf, ev_chain, List.set_cons_succ, List.set_cons_zero, ev_then_nx, ev_then_rt, ev_next, ev_pTup, ev_valsC, ev_vals0, ev_eL, ev_bm, ev_aug, pix_t, pix_l, pixq0, pixq1, atI_0, atI_1, atI_2, pp_ii, ps_ii, pa_ii, plt_ii, ple_ii, pgt_ii, pge_ii, peq_ii, pne_ii, pneg_i, List.length_cons, List.length_nil, Nat.reduceAdd, Nat.reduceSub, Nat.reduceLeDiff, sz, if_true, Bool.false_eq_true, if_false, Bool.not_true, Bool.not_false, leave_v, List.take_length, plen_t, plen_l, ptup_l, ptup_t, pint_i, pis_n, pis_i, pis_t, pisnt_n, pisnt_i, pisnt_t, Int.cast_ofNat_Int, ne_eq, not_true_eq_false, not_false_eq_true, decide_true, decide_false, ap, List.set_cons_succ, List.set_cons_zero]
    simp only [List.map_append, List.map_cons, List.map_nil]
    rfl
  · have t1 := ptup_r hk
    have ap := papp_r (m := (Ob.lst [.int a, .int b] :: Ob.lst (done.map encT) :: J ++ [Ob.lst (encI r)] : M)) (k := 1) (d := .tuple (encI r)) rfl hdl
    have al := asL_r (m := (Ob.lst [.int a, .int b] :: Ob.lst (done.map encT) :: J ++ [Ob.lst (encI r)] : M)) (k := 1) rfl
    refine ⟨r, Ob.lst [.int a, .int b] :: Ob.lst ((done ++ [r]).map encT) :: (J ++ [Ob.lst (encI r)]), J ++ [Ob.lst (encI r)], some (.ref (J.length + 2)), tok_of (by omega) c3 (by omega), c2, ⟨a, b, rfl, hA⟩, ?_⟩
    have hz' : ¬ ((r.sum : Nat) : Int) = 0 := by omega
    simp only [l__law_cutting2]
    rw [ev_seq]
    simp only [ev_asg, ev_par, ev_if, ev_ret, ev_retN, ev_expr, ev_bin, ev_un, ev_ap, ev_cons, ev_nil, ev_varS, ev_var0, ev_c, ob_some, ev_gNm, ev_tOf, ev_asB, ev_asI, ev_tNot, ev_tAnd, ev_tOr, ev_eOf, ev_eIf, ev_chain, List.set_cons_succ, List.set_cons_zero, ev_then_nx, ev_then_rt, ev_next, ev_pTup, ev_valsC, ev_vals0, ev_eL, ev_bm, ev_aug, pix_t, pix_l, pixq0, pixq1, atI_0, atI_1, atI_2, pp_ii, ps_ii, pa_ii, plt_ii, ple_ii, pgt_ii, pge_ii, peq_ii, pne_ii, pneg_i, List.length_cons, List.length_nil, Nat.reduceAdd, Nat.reduceSub, Nat.reduceLeDiff, sz, if_true, Bool.false_eq_true, if_false, Bool.not_true, Bool.not_false, leave_v, List.take_length, plen_t, plen_l, ptup_l, ptup_t, pint_i, pis_n, pis_i, pis_t, pisnt_n, pisnt_i, pisnt_t, Int.cast_ofNat_Int, ne_eq, not_true_eq_false, not_false_eq_true, decide_true, decide_false, ev_eNew, ev_comp, it_rg1, rg1_nat (n := hours) (by omega), runC_iL hl, wipeE, List.set, c1]
    rw [ev_seq]
    simp only [List.cons_append] at p1 t1 ap al
    simp only [ev_asg, ev_par, ev_if, ev_ret, ev_retN, ev_expr, ev_bin, ev_un, ev_ap, ev_cons, ev_nil, ev_varS, ev_var0, ev_c, ob_some, ev_gNm, ev_tOf, ev_asB, ev_asI, ev_tNot, ev_tAnd, ev_tOr, ev_eOf, ev_eIf, ev_chain, List.set_cons_succ, List.set_cons_zero, ev_then_nx, ev_then_rt, ev_next, ev_pTup, ev_valsC, ev_vals0, ev_eL, ev_bm, ev_aug, pix_t, pix_l, pixq0, pixq1, atI_0, atI_1, atI_2, pp_ii, ps_ii, pa_ii, plt_ii, ple_ii, pgt_ii, pge_ii, peq_ii, pne_ii, pneg_i, List.length_cons, List.length_nil, Nat.reduceAdd, Nat.reduceSub, Nat.reduceLeDiff, sz, if_true, Bool.false_eq_true, if_false, Bool.not_true, Bool.not_false, leave_v, List.take_length, plen_t, plen_l, ptup_l, ptup_t, pint_i, pis_n, pis_i, pis_t, pisnt_n, pisnt_i, pisnt_t, Int.cast_ofNat_Int, ne_eq, not_true_eq_false, not_false_eq_true, decide_true, decide_false, List.cons_append, p1, hz']
    simp only [t1, al, ev_asg, ev_par, ev_if, ev_ret, ev_retN, ev_expr, ev_bin, ev_un, ev_ap, ev_cons, ev_nil, ev_varS, ev_var0, ev_c, ob_some, ev_gNm, ev_tOf, ev_asB, ev_asI, ev_tNot, ev_tAnd, ev_tOr, ev_eOf, ev_eIf, ev_chain, List.set_cons_succ, List.set_cons_zero, ev_then_nx, ev_then_rt, ev_next, ev_pTup, ev_valsC, ev_vals0, ev_eL, ev_bm, ev_aug, pix_t, pix_l, pixq0, pixq1, atI_0, atI_1, atI_2, pp_ii, ps_ii, pa_ii, plt_ii, ple_ii, pgt_ii, pge_ii, peq_ii, pne_ii, pneg_i, List.length_cons, List.length_nil, Nat.reduceAdd, Nat.reduceSub, Nat.reduceLeDiff, sz, if_true, Bool.false_eq_true, if_false, Bool.not_true, Bool.not_false, leave_v, List.take_length, plen_t, plen_l, ptup_l, ptup_t, pint_i, pis_n, pis_i, pis_t, pisnt_n, pisnt_i, pisnt_t, Int.cast_ofNat_Int, ne_eq, not_true_eq_false, not_false_eq_true, decide_true, decide_false, ap, List.set_cons_succ, List.set_cons_zero]
    simp only [List.map_append, List.map_cons, List.map_nil]
    rfl
theorem tastes_loop (h1 : 1 ≤ hours) (hh : hours ≤ 10) {N : R} : ∀ (l : List D) (J : M) (done : List (List Nat)) (m : M) (e4 e5 : Option R), Bx (Ob.lst (done.map encT) :: J) m → done.length + l.length ≤ 100 → (∀ t ∈ done, Tok t ∧ t.length = hours) →
    ∃ (ts : List (List Nat)) (m' J' : M) (e4' e5' : Option R), ts.length = done.length + l.length ∧ (∀ t ∈ ts, Tok t ∧ t.length = hours) ∧ Bx (Ob.lst (ts.map encT) :: J') m' ∧
      loopL (gNm 4) l__law_cutting2 l [some (.ref 0), some (.val (.int (hours : Nat))), some N, some (.ref 1), e4, e5, none, none, none, none, none, none, none, none, none, none, none, none, none, none, none, none, none, none] m =
        some (.nx [some (.ref 0), some (.val (.int (hours : Nat))), some N, some (.ref 1), e4', e5', none, none, none, none, none, none, none, none, none, none, none, none, none, none, none, none, none, none] m')
  | [], J, done, m, e4, e5, hm, _, ht => ⟨done, m, J, e4, e5, rfl, ht, hm, rfl⟩
  | d :: l, J, done, m, e4, e5, hm, hl, ht => by
    rw [List.length_cons] at hl
    obtain ⟨t, m1, J1, e5', T, tl, hm1, hb⟩ := taste_step (N := N) (e4 := .val d) (e5 := e5) h1 hh hm (by omega)
    obtain ⟨ts, m2, J2, e4', e5'', g1, g2, g3, g4⟩ := tastes_loop h1 hh (N := N) l J1 (done ++ [t]) m1 (some (.val d)) e5' hm1 (by rw [List.length_append]; simp; omega) (fun u hu => by
      rcases List.mem_append.mp hu with z | z
      · exact ht u z
      · rw [List.mem_singleton.mp z]
        exact ⟨T, tl⟩)
    refine ⟨ts, m2, J2, e4', e5'', by rw [g1, List.length_append, List.length_cons]; simp; omega, g2, g3, ?_⟩
    rw [step_nx (env1 := [some (.ref 0), some (.val (.int (hours : Nat))), some N, some (.ref 1), some (.val d), e5, none, none, none, none, none, none, none, none, none, none, none, none, none, none, none, none, none, none]) rfl hb, g4]
end
end L34

set_option Elab.async false
set_option linter.all false
set_option maxRecDepth 100000
namespace L34
open PySem PySem.Spec PyProof.Rows L2 Ev Qa Cut
/-- the law's best: time, house -/
def encL : Option (Nat × Rat) → D
  | none => .none
  | some p => .tuple [encQ p.2, .int (p.1 : Nat)]
section
variable {m : M} {ts : List (List Nat)} {n hours k : Nat} {left : List Nat} {x : Rat} {e5 e6 e7 e8 e9 e10 e11 e12 e13 e14 e16 : Option R}
theorem ll_in (T : Nts ts n hours) (S : Stg ts n hours k left x) (hk : k + 2 ≤ n) : ∀ (rest : List Nat) (best : Option (Nat × Rat)) (e4 e18 : Option R), (∀ j ∈ rest, j ∈ left) → (∀ p, best = some p → SmQ p.2) →
    ∃ e4' e18', loopL (gNm 4) l__law_cutting3 (encI rest) [some (.ref 0), some (.val (.int (hours : Nat))), some (.val (.int (n : Nat))), some (.val (encTs ts)), e4, e5, e6, e7, e8, e9, e10, e11, e12, e13, e14, some (.val (encQ x)), e16, some (.val (encL best)), e18, none, none, none, none, none] m =
      some (.nx [some (.ref 0), some (.val (.int (hours : Nat))), some (.val (.int (n : Nat))), some (.val (encTs ts)), e4', e5, e6, e7, e8, e9, e10, e11, e12, e13, e14, some (.val (encQ x)), e16, some (.val (encL (pk (tau ts n x) rest best))), e18', none, none, none, none, none] m)
  | [], best, e4, e18, _, _ => ⟨e4, e18, rfl⟩
  | a :: rest, best, e4, e18, hin, hb => by
    have ha : a ∈ left := hin a (by simp)
    obtain ⟨_, _, _, c4⟩ := said_ok (m := m) T S hk ha
    have hlen : a < ts.length := by rw [T.len]; exact S.lt a ha
    have st := tau_sm hk T S ha
    have c0 := pix_Ts (m := m) hlen
    have eq1 : encQ (tau ts n x a) = .tuple [.int (tau ts n x a).num, .int ((tau ts n x a).den : Int)] := rfl
    have ise : pIsnt (.val (encQ (tau ts n x a))) (.val .none) m = some (.val (.bool true), m) := rfl
    have es : encI (a :: rest) = .int (a : Nat) :: encI rest := rfl
    cases best with
    | none =>
      obtain ⟨e4', e18', ih⟩ := ll_in T S hk rest (some (a, tau ts n x a)) (some (.val (.int (a : Nat)))) (some (.val (encQ (tau ts n x a)))) (fun j hj => hin j (List.mem_cons_of_mem _ hj)) (fun p hp => by cases hp; exact st)
      refine ⟨e4', e18', ?_⟩
      have e0 : encL none = .none := rfl
      rw [es, step_nx (env1 := [some (.ref 0), some (.val (.int (hours : Nat))), some (.val (.int (n : Nat))), some (.val (encTs ts)), some (.val (.int (a : Nat))), e5, e6, e7, e8, e9, e10, e11, e12, e13, e14, some (.val (encQ x)), e16, some (.val (encL none)), e18, none, none, none, none, none]) (m1 := m)
        (env2 := [some (.ref 0), some (.val (.int (hours : Nat))), some (.val (.int (n : Nat))), some (.val (encTs ts)), some (.val (.int (a : Nat))), e5, e6, e7, e8, e9, e10, e11, e12, e13, e14, some (.val (encQ x)), e16, some (.val (encL (some (a, tau ts n x a)))), some (.val (encQ (tau ts n x a))), none, none, none, none, none]) (m2 := m) rfl
        (by simp only [l__law_cutting3, ev_seq, ev_asg, ev_par, ev_if, ev_ret, ev_retN, ev_expr, ev_bin, ev_un, ev_ap, ev_cons, ev_nil, ev_varS, ev_var0, ev_c, ob_some, ev_gNm, ev_tOf, ev_asB, ev_asI, ev_tNot, ev_tAnd, ev_tOr, ev_eOf, ev_eIf, ev_chain, List.set_cons_succ, List.set_cons_zero, ev_then_nx, ev_then_rt, ev_next, ev_pTup, ev_valsC, ev_vals0, ev_eL, ev_bm, ev_aug, pix_t, pix_l, pixq0, pixq1, atI_0, atI_1, atI_2, pp_ii, ps_ii, pa_ii, plt_ii, ple_ii, pgt_ii, pge_ii, peq_ii, pne_ii, pneg_i, List.length_cons, List.length_nil, Nat.reduceAdd, Nat.reduceSub, Nat.reduceLeDiff, sz, if_true, Bool.false_eq_true, if_false, Bool.not_true, Bool.not_false, leave_v, List.take_length, plen_t, plen_l, ptup_l, ptup_t, pint_i, pis_n, pis_i, pis_t, pisnt_n, pisnt_i, pisnt_t, Int.cast_ofNat_Int, ne_eq, not_true_eq_false, not_false_eq_true, decide_true, decide_false, c0, c4, ise, e0]; rfl), ih]
      rfl
    | some p =>
      obtain ⟨j, y⟩ := p
      have sy := hb _ rfl
      have cc := more_ok (m := m) sy st
      have e0 : encL (some (j, y)) = .tuple [encQ y, .int (j : Nat)] := rfl
      by_cases hlt : tau ts n x a < y
      · obtain ⟨e4', e18', ih⟩ := ll_in T S hk rest (some (a, tau ts n x a)) (some (.val (.int (a : Nat)))) (some (.val (encQ (tau ts n x a)))) (fun j hj => hin j (List.mem_cons_of_mem _ hj)) (fun p hp => by cases hp; exact st)
        refine ⟨e4', e18', ?_⟩
        rw [es, step_nx (env1 := [some (.ref 0), some (.val (.int (hours : Nat))), some (.val (.int (n : Nat))), some (.val (encTs ts)), some (.val (.int (a : Nat))), e5, e6, e7, e8, e9, e10, e11, e12, e13, e14, some (.val (encQ x)), e16, some (.val (encL (some (j, y)))), e18, none, none, none, none, none]) (m1 := m)
          (env2 := [some (.ref 0), some (.val (.int (hours : Nat))), some (.val (.int (n : Nat))), some (.val (encTs ts)), some (.val (.int (a : Nat))), e5, e6, e7, e8, e9, e10, e11, e12, e13, e14, some (.val (encQ x)), e16, some (.val (encL (some (a, tau ts n x a)))), some (.val (encQ (tau ts n x a))), none, none, none, none, none]) (m2 := m) rfl
          (by simp only [l__law_cutting3, ev_seq, ev_asg, ev_par, ev_if, ev_ret, ev_retN, ev_expr, ev_bin, ev_un, ev_ap, ev_cons, ev_nil, ev_varS, ev_var0, ev_c, ob_some, ev_gNm, ev_tOf, ev_asB, ev_asI, ev_tNot, ev_tAnd, ev_tOr, ev_eOf, ev_eIf, ev_chain, List.set_cons_succ, List.set_cons_zero, ev_then_nx, ev_then_rt, ev_next, ev_pTup, ev_valsC, ev_vals0, ev_eL, ev_bm, ev_aug, pix_t, pix_l, pixq0, pixq1, atI_0, atI_1, atI_2, pp_ii, ps_ii, pa_ii, plt_ii, ple_ii, pgt_ii, pge_ii, peq_ii, pne_ii, pneg_i, List.length_cons, List.length_nil, Nat.reduceAdd, Nat.reduceSub, Nat.reduceLeDiff, sz, if_true, Bool.false_eq_true, if_false, Bool.not_true, Bool.not_false, leave_v, List.take_length, plen_t, plen_l, ptup_l, ptup_t, pint_i, pis_n, pis_i, pis_t, pisnt_n, pisnt_i, pisnt_t, Int.cast_ofNat_Int, ne_eq, not_true_eq_false, not_false_eq_true, decide_true, decide_false, c0, c4, ise, e0, cc, hlt]; rfl), ih]
        rw [pk, if_pos hlt]
      · obtain ⟨e4', e18', ih⟩ := ll_in T S hk rest (some (j, y)) (some (.val (.int (a : Nat)))) (some (.val (encQ (tau ts n x a)))) (fun j hj => hin j (List.mem_cons_of_mem _ hj)) hb
        refine ⟨e4', e18', ?_⟩
        rw [es, step_nx (env1 := [some (.ref 0), some (.val (.int (hours : Nat))), some (.val (.int (n : Nat))), some (.val (encTs ts)), some (.val (.int (a : Nat))), e5, e6, e7, e8, e9, e10, e11, e12, e13, e14, some (.val (encQ x)), e16, some (.val (encL (some (j, y)))), e18, none, none, none, none, none]) (m1 := m)
          (env2 := [some (.ref 0), some (.val (.int (hours : Nat))), some (.val (.int (n : Nat))), some (.val (encTs ts)), some (.val (.int (a : Nat))), e5, e6, e7, e8, e9, e10, e11, e12, e13, e14, some (.val (encQ x)), e16, some (.val (encL (some (j, y)))), some (.val (encQ (tau ts n x a))), none, none, none, none, none]) (m2 := m) rfl
          (by simp only [l__law_cutting3, ev_seq, ev_asg, ev_par, ev_if, ev_ret, ev_retN, ev_expr, ev_bin, ev_un, ev_ap, ev_cons, ev_nil, ev_varS, ev_var0, ev_c, ob_some, ev_gNm, ev_tOf, ev_asB, ev_asI, ev_tNot, ev_tAnd, ev_tOr, ev_eOf, ev_eIf, ev_chain, List.set_cons_succ, List.set_cons_zero, ev_then_nx, ev_then_rt, ev_next, ev_pTup, ev_valsC, ev_vals0, ev_eL, ev_bm, ev_aug, pix_t, pix_l, pixq0, pixq1, atI_0, atI_1, atI_2, pp_ii, ps_ii, pa_ii, plt_ii, ple_ii, pgt_ii, pge_ii, peq_ii, pne_ii, pneg_i, List.length_cons, List.length_nil, Nat.reduceAdd, Nat.reduceSub, Nat.reduceLeDiff, sz, if_true, Bool.false_eq_true, if_false, Bool.not_true, Bool.not_false, leave_v, List.take_length, plen_t, plen_l, ptup_l, ptup_t, pint_i, pis_n, pis_i, pis_t, pisnt_n, pisnt_i, pisnt_t, Int.cast_ofNat_Int, ne_eq, not_true_eq_false, not_false_eq_true, decide_true, decide_false, c0, c4, ise, e0, cc, hlt]), ih]
        rw [pk, if_neg hlt]
theorem left_comp (left : List Nat) (i : Nat) {env : Sl} {y : D} (he : ∀ (d : D) (m : M), eVar 4 (env.set 4 (some (.val d))) m = some (.val d, m)) (hb : ∀ (d : D) (m : M), eVar 17 (env.set 4 (some (.val d))) m = some (.val (.tuple [y, .int (i : Nat)]), m)) :
    clpL (.nm 4) t__law_cutting5 e__law_cutting4 env (encI left) m = some (encI (nxt i left), m) := by
  have := clpL_map (p := .nm 4) (tt := t__law_cutting5) (te := e__law_cutting4) (env := env) (m := m) (fun a : Nat => PyData.int a) (fun a => a != i) (fun a => .int (a : Nat)) left fun a ha => ⟨_, rfl, by
    simp only [t__law_cutting5, ev_asg, ev_par, ev_if, ev_ret, ev_retN, ev_expr, ev_bin, ev_un, ev_ap, ev_cons, ev_nil, ev_varS, ev_var0, ev_c, ob_some, ev_gNm, ev_tOf, ev_asB, ev_asI, ev_tNot, ev_tAnd, ev_tOr, ev_eOf, ev_eIf, ev_chain, List.set_cons_succ, List.set_cons_zero, ev_then_nx, ev_then_rt, ev_next, ev_pTup, ev_valsC, ev_vals0, ev_eL, ev_bm, ev_aug, pix_t, pix_l, pixq0, pixq1, atI_0, atI_1, atI_2, pp_ii, ps_ii, pa_ii, plt_ii, ple_ii, pgt_ii, pge_ii, peq_ii, pne_ii, pneg_i, List.length_cons, List.length_nil, Nat.reduceAdd, Nat.reduceSub, Nat.reduceLeDiff, sz, if_true, Bool.false_eq_true, if_false, Bool.not_true, Bool.not_false, leave_v, List.take_length, plen_t, plen_l, ptup_l, ptup_t, pint_i, pis_n, pis_i, pis_t, pisnt_n, pisnt_i, pisnt_t, Int.cast_ofNat_Int, ne_eq, not_true_eq_false, not_false_eq_true, decide_true, decide_false, he, hb]
    congr 2
    by_cases z : a = i
    · simp [z]
    · have : ¬ ((a : Int) = (i : Int)) := by omega
      simp [z, this], fun _ => by simp only [e__law_cutting4, he]⟩
  exact this
theorem get_L (m0 : M) (B : Ob) : (m0 ++ [B])[m0.length]? = some B := by simp
theorem set_L (m0 : M) (B C : Ob) : (m0 ++ [B]).set m0.length C = m0 ++ [C] := by
  rw [List.set_append_right _ _ (Nat.le_refl _)]
  simp
theorem fwL {m0 : M} (T : Nts ts n hours) : ∀ (r f k : Nat) (left : List Nat) (x : Rat) (found : List D) (e4 e17 e18 : Option R), Stg ts n hours k left x → left.length = r + 1 → r < f → found.length + r ≤ 100 →
    ∃ e4' e17' e18', wloop c__law_cutting7 w__law_cutting6 f [some (.ref 0), some (.val (.int (hours : Nat))), some (.val (.int (n : Nat))), some (.val (encTs ts)), e4, e5, e6, e7, e8, e9, e10, e11, e12, e13, some (.val (.list (encI left))), some (.val (encQ x)), some (.ref m0.length), e17, e18, none, none, none, none, none] (m0 ++ [.lst found]) =
      some (.nx [some (.ref 0), some (.val (.int (hours : Nat))), some (.val (.int (n : Nat))), some (.val (encTs ts)), e4', e5, e6, e7, e8, e9, e10, e11, e12, e13, some (.val (.list (encI (goL ts n r left x).2.1))), some (.val (encQ (goL ts n r left x).2.2)), some (.ref m0.length), e17', e18', none, none, none, none, none] (m0 ++ [.lst (found ++ (goL ts n r left x).1.map encP)]))
  | 0, f + 1, k, left, x, found, e4, e17, e18, S, hl, _, _ => by
    refine ⟨e4, e17, e18, ?_⟩
    have hn : ¬ (1 : Int) < (((encI left).length : Nat) : Int) := by rw [encI_len]; omega
    rw [w_end (m1 := m0 ++ [.lst found]) (by simp only [c__law_cutting7, ev_asg, ev_par, ev_if, ev_ret, ev_retN, ev_expr, ev_bin, ev_un, ev_ap, ev_cons, ev_nil, ev_varS, ev_var0, ev_c, ob_some, ev_gNm, ev_tOf, ev_asB, ev_asI, ev_tNot, ev_tAnd, ev_tOr, ev_eOf, ev_eIf, ev_chain, List.set_cons_succ, List.set_cons_zero, ev_then_nx, ev_then_rt, ev_next, ev_pTup, ev_valsC, ev_vals0, ev_eL, ev_bm, ev_aug, pix_t, pix_l, pixq0, pixq1, atI_0, atI_1, atI_2, pp_ii, ps_ii, pa_ii, plt_ii, ple_ii, pgt_ii, pge_ii, peq_ii, pne_ii, pneg_i, List.length_cons, List.length_nil, Nat.reduceAdd, Nat.reduceSub, Nat.reduceLeDiff, sz, if_true, Bool.false_eq_true, if_false, Bool.not_true, Bool.not_false, leave_v, List.take_length, plen_t, plen_l, ptup_l, ptup_t, pint_i, pis_n, pis_i, pis_t, pisnt_n, pisnt_i, pisnt_t, Int.cast_ofNat_Int, ne_eq, not_true_eq_false, not_false_eq_true, decide_true, decide_false, hn])]
    simp [goL]
  | r + 1, f + 1, k, left, x, found, e4, e17, e18, S, hl, hf, hfd => by
    have hk : k + 2 ≤ n := by have := S.len; omega
    have hn : (1 : Int) < (((encI left).length : Nat) : Int) := by rw [encI_len]; omega
    have hne : left ≠ [] := fun z => by rw [z] at hl; simp at hl
    obtain ⟨i, hpk, hi, hmin⟩ := pk_ne (tau ts n x) hne
    obtain ⟨e4_, e18', h1⟩ := ll_in (m := m0 ++ [.lst found]) (e5 := e5) (e6 := e6) (e7 := e7) (e8 := e8) (e9 := e9) (e10 := e10) (e11 := e11) (e12 := e12) (e13 := e13) (e14 := some (.val (.list (encI left)))) (e16 := some (.ref m0.length)) T S hk left none e4 e18 (fun j hj => hj) (fun p hp => by cases hp)
    have ep : encL (some (i, tau ts n x i)) = .tuple [encQ (tau ts n x i), .int (i : Nat)] := rfl
    have ep2 : encP (i, tau ts n x i) = .tuple [.int (i : Nat), encQ (tau ts n x i)] := rfl
    have en0 : encL none = .none := rfl
    rw [hpk, ep, en0] at h1
    have hfl : found.length < 16777216 := by omega
    have h2 := papp_r (m := m0 ++ [.lst found]) (d := .tuple [.int (i : Nat), encQ (tau ts n x i)]) (get_L m0 _) hfl
    rw [set_L] at h2
    have a1 := asL_r (m := m0 ++ [.lst found]) (get_L m0 _)
    have S' := stg_next T S hk hi hmin
    have hl' : (nxt i left).length = r + 1 := by have := nxt_len S.nd hi; omega
    obtain ⟨e4', e17', e18'', ih⟩ := fwL (m0 := m0) T r f (k + 1) (nxt i left) (tau ts n x i) (found ++ [.tuple [.int (i : Nat), encQ (tau ts n x i)]]) e4_ (some (.val (.tuple [encQ (tau ts n x i), .int (i : Nat)]))) e18' S' hl' (by omega) (by rw [List.length_append]; simp; omega)
    refine ⟨e4', e17', e18'', ?_⟩
    have hgo : goL ts n (r + 1) left x = ((i, tau ts n x i) :: (goL ts n r (nxt i left) (tau ts n x i)).1, (goL ts n r (nxt i left) (tau ts n x i)).2) := by
      rw [goL, hpk]
    rw [hgo]
    have hll : (encI left).length ≤ 16777216 := by rw [encI_len]; have := S.len; have := T.n5; omega
    have hc : c__law_cutting7 [some (.ref 0), some (.val (.int (hours : Nat))), some (.val (.int (n : Nat))), some (.val (encTs ts)), e4, e5, e6, e7, e8, e9, e10, e11, e12, e13, some (.val (.list (encI left))), some (.val (encQ x)), some (.ref m0.length), e17, e18, none, none, none, none, none] (m0 ++ [.lst found]) = some (true, m0 ++ [.lst found]) := by
      simp only [c__law_cutting7, ev_asg, ev_par, ev_if, ev_ret, ev_retN, ev_expr, ev_bin, ev_un, ev_ap, ev_cons, ev_nil, ev_varS, ev_var0, ev_c, ob_some, ev_gNm, ev_tOf, ev_asB, ev_asI, ev_tNot, ev_tAnd, ev_tOr, ev_eOf, ev_eIf, ev_chain, List.set_cons_succ, List.set_cons_zero, ev_then_nx, ev_then_rt, ev_next, ev_pTup, ev_valsC, ev_vals0, ev_eL, ev_bm, ev_aug, pix_t, pix_l, pixq0, pixq1, atI_0, atI_1, atI_2, pp_ii, ps_ii, pa_ii, plt_ii, ple_ii, pgt_ii, pge_ii, peq_ii, pne_ii, pneg_i, List.length_cons, List.length_nil, Nat.reduceAdd, Nat.reduceSub, Nat.reduceLeDiff, sz, if_true, Bool.false_eq_true, if_false, Bool.not_true, Bool.not_false, leave_v, List.take_length, plen_t, plen_l, ptup_l, ptup_t, pint_i, pis_n, pis_i, pis_t, pisnt_n, pisnt_i, pisnt_t, Int.cast_ofNat_Int, ne_eq, not_true_eq_false, not_false_eq_true, decide_true, decide_false, hn]
    have hb : w__law_cutting6 [some (.ref 0), some (.val (.int (hours : Nat))), some (.val (.int (n : Nat))), some (.val (encTs ts)), e4, e5, e6, e7, e8, e9, e10, e11, e12, e13, some (.val (.list (encI left))), some (.val (encQ x)), some (.ref m0.length), e17, e18, none, none, none, none, none] (m0 ++ [.lst found]) =
        some (.nx [some (.ref 0), some (.val (.int (hours : Nat))), some (.val (.int (n : Nat))), some (.val (encTs ts)), e4_, e5, e6, e7, e8, e9, e10, e11, e12, e13, some (.val (.list (encI (nxt i left)))), some (.val (encQ (tau ts n x i))), some (.ref m0.length), some (.val (.tuple [encQ (tau ts n x i), .int (i : Nat)])), e18', none, none, none, none, none] (m0 ++ [.lst (found ++ [.tuple [.int (i : Nat), encQ (tau ts n x i)]])])) := by
      simp only [w__law_cutting6]
      rw [ev_seq]
      simp only [ev_asg, ev_par, ev_if, ev_ret, ev_retN, ev_expr, ev_bin, ev_un, ev_ap, ev_cons, ev_nil, ev_varS, ev_var0, ev_c, ob_some, ev_gNm, ev_tOf, ev_asB, ev_asI, ev_tNot, ev_tAnd, ev_tOr, ev_eOf, ev_eIf, ev_chain, List.set_cons_succ, List.set_cons_zero, ev_then_nx, ev_then_rt, ev_next, ev_pTup, ev_valsC, ev_vals0, ev_eL, ev_bm, ev_aug, pix_t, pix_l, pixq0, pixq1, atI_0, atI_1, atI_2, pp_ii, ps_ii, pa_ii, plt_ii, ple_ii, pgt_ii, pge_ii, peq_ii, pne_ii, pneg_i, List.length_cons, List.length_nil, Nat.reduceAdd, Nat.reduceSub, Nat.reduceLeDiff, sz, if_true, Bool.false_eq_true, if_false, Bool.not_true, Bool.not_false, leave_v, List.take_length, plen_t, plen_l, ptup_l, ptup_t, pint_i, pis_n, pis_i, pis_t, pisnt_n, pisnt_i, pisnt_t, Int.cast_ofNat_Int, ne_eq, not_true_eq_false, not_false_eq_true, decide_true, decide_false]
      rw [ev_seq]
      simp only [ev_for, it_an, ev_asg, ev_par, ev_if, ev_ret, ev_retN, ev_expr, ev_bin, ev_un, ev_ap, ev_cons, ev_nil, ev_varS, ev_var0, ev_c, ob_some, ev_gNm, ev_tOf, ev_asB, ev_asI, ev_tNot, ev_tAnd, ev_tOr, ev_eOf, ev_eIf, ev_chain, List.set_cons_succ, List.set_cons_zero, ev_then_nx, ev_then_rt, ev_next, ev_pTup, ev_valsC, ev_vals0, ev_eL, ev_bm, ev_aug, pix_t, pix_l, pixq0, pixq1, atI_0, atI_1, atI_2, pp_ii, ps_ii, pa_ii, plt_ii, ple_ii, pgt_ii, pge_ii, peq_ii, pne_ii, pneg_i, List.length_cons, List.length_nil, Nat.reduceAdd, Nat.reduceSub, Nat.reduceLeDiff, sz, if_true, Bool.false_eq_true, if_false, Bool.not_true, Bool.not_false, leave_v, List.take_length, plen_t, plen_l, ptup_l, ptup_t, pint_i, pis_n, pis_i, pis_t, pisnt_n, pisnt_i, pisnt_t, Int.cast_ofNat_Int, ne_eq, not_true_eq_false, not_false_eq_true, decide_true, decide_false, an1_l, run_iL, h1]
      rw [ev_seq]
      simp only [ev_asg, ev_par, ev_if, ev_ret, ev_retN, ev_expr, ev_bin, ev_un, ev_ap, ev_cons, ev_nil, ev_varS, ev_var0, ev_c, ob_some, ev_gNm, ev_tOf, ev_asB, ev_asI, ev_tNot, ev_tAnd, ev_tOr, ev_eOf, ev_eIf, ev_chain, List.set_cons_succ, List.set_cons_zero, ev_then_nx, ev_then_rt, ev_next, ev_pTup, ev_valsC, ev_vals0, ev_eL, ev_bm, ev_aug, pix_t, pix_l, pixq0, pixq1, atI_0, atI_1, atI_2, pp_ii, ps_ii, pa_ii, plt_ii, ple_ii, pgt_ii, pge_ii, peq_ii, pne_ii, pneg_i, List.length_cons, List.length_nil, Nat.reduceAdd, Nat.reduceSub, Nat.reduceLeDiff, sz, if_true, Bool.false_eq_true, if_false, Bool.not_true, Bool.not_false, leave_v, List.take_length, plen_t, plen_l, ptup_l, ptup_t, pint_i, pis_n, pis_i, pis_t, pisnt_n, pisnt_i, pisnt_t, Int.cast_ofNat_Int, ne_eq, not_true_eq_false, not_false_eq_true, decide_true, decide_false, a1, h2]
      simp only [ev_comp, it_an, ev_asg, ev_par, ev_if, ev_ret, ev_retN, ev_expr, ev_bin, ev_un, ev_ap, ev_cons, ev_nil, ev_varS, ev_var0, ev_c, ob_some, ev_gNm, ev_tOf, ev_asB, ev_asI, ev_tNot, ev_tAnd, ev_tOr, ev_eOf, ev_eIf, ev_chain, List.set_cons_succ, List.set_cons_zero, ev_then_nx, ev_then_rt, ev_next, ev_pTup, ev_valsC, ev_vals0, ev_eL, ev_bm, ev_aug, pix_t, pix_l, pixq0, pixq1, atI_0, atI_1, atI_2, pp_ii, ps_ii, pa_ii, plt_ii, ple_ii, pgt_ii, pge_ii, peq_ii, pne_ii, pneg_i, List.length_cons, List.length_nil, Nat.reduceAdd, Nat.reduceSub, Nat.reduceLeDiff, sz, if_true, Bool.false_eq_true, if_false, Bool.not_true, Bool.not_false, leave_v, List.take_length, plen_t, plen_l, ptup_l, ptup_t, pint_i, pis_n, pis_i, pis_t, pisnt_n, pisnt_i, pisnt_t, Int.cast_ofNat_Int, ne_eq, not_true_eq_false, not_false_eq_true, decide_true, decide_false, an1_l, runC_iL hll, wipeE, List.set]
      rw [left_comp left i (y := encQ (tau ts n x i)) (fun d m => rfl) (fun d m => rfl)]
      simp only [ev_asg, ev_par, ev_if, ev_ret, ev_retN, ev_expr, ev_bin, ev_un, ev_ap, ev_cons, ev_nil, ev_varS, ev_var0, ev_c, ob_some, ev_gNm, ev_tOf, ev_asB, ev_asI, ev_tNot, ev_tAnd, ev_tOr, ev_eOf, ev_eIf, ev_chain, List.set_cons_succ, List.set_cons_zero, ev_then_nx, ev_then_rt, ev_next, ev_pTup, ev_valsC, ev_vals0, ev_eL, ev_bm, ev_aug, pix_t, pix_l, pixq0, pixq1, atI_0, atI_1, atI_2, pp_ii, ps_ii, pa_ii, plt_ii, ple_ii, pgt_ii, pge_ii, peq_ii, pne_ii, pneg_i, List.length_cons, List.length_nil, Nat.reduceAdd, Nat.reduceSub, Nat.reduceLeDiff, sz, if_true, Bool.false_eq_true, if_false, Bool.not_true, Bool.not_false, leave_v, List.take_length, plen_t, plen_l, ptup_l, ptup_t, pint_i, pis_n, pis_i, pis_t, pisnt_n, pisnt_i, pisnt_t, Int.cast_ofNat_Int, ne_eq, not_true_eq_false, not_false_eq_true, decide_true, decide_false]
    rw [w_nx hc hb, ih]
    simp only [List.map_cons, List.append_assoc, List.cons_append, List.nil_append, ep2]
end
end L34

set_option Elab.async false
set_option linter.all false
set_option maxRecDepth 100000
namespace L34
open PySem PySem.Spec PyProof.Rows L2 Ev Qa Cut
section
variable {m : M} {ts : List (List Nat)} {n hours k : Nat} {left : List Nat} {x : Rat} {e5 e6 e7 e8 e9 e10 e11 e12 e13 e14 e16 e17 e18 e19 : Option R}
theorem Wq_all {t : List Nat} (T : Tok t) {y : Rat} (h : (t.length : Rat) ≤ y) : Wq t y = 1 := by
  unfold Wq
  rw [Ws_all t h]
  have := T.sp
  grind
/-- each one's part -/
theorem part_step (T : Nts ts n hours) (S : Stg ts n hours k left x) {i : Nat} (hi : i ∈ left) {y : Rat} {D : Nat} (hD : 0 < D ∧ D < 2 ^ 200) (hx : In D x) (hy : In D y) (xy : x ≤ y) (y1 : y ≤ (hours : Rat)) (hw : 1 / (n : Rat) ≤ Wq (ts.getD i []) y - Wq (ts.getD i []) x) {e4 e20 e21 e22 : Option R} :
    ∃ e21' e22', l__law_cutting8 [some (.ref 0), some (.val (.int (hours : Nat))), some (.val (.int (n : Nat))), some (.val (encTs ts)), some (.val (.int (i : Nat))), e5, e6, e7, e8, e9, e10, e11, e12, e13, e14, some (.val (encQ x)), e16, e17, e18, e19, some (.val (encQ y)), e21, e22, none] m = some (.nx [some (.ref 0), some (.val (.int (hours : Nat))), some (.val (.int (n : Nat))), some (.val (encTs ts)), some (.val (.int (i : Nat))), e5, e6, e7, e8, e9, e10, e11, e12, e13, e14, some (.val (encQ y)), e16, e17, e18, e19, some (.val (encQ y)), e21', e22', none] m) := by
  obtain ⟨To, hl⟩ := T.at_ (S.lt i hi)
  have hn0 : 0 < n := by have := T.n2; omega
  have hn5 := T.n5
  have hn := inv_nn hn0
  have hlen : i < ts.length := by rw [T.len]; exact S.lt i hi
  have c0 := pix_Ts (m := m) hlen
  have c1 := law_worth_ok (m := m) To hD hx S.lo (by rw [hl]; exact S.hi)
  have c2 := law_worth_ok (m := m) To hD hy (by have := S.lo; grind) (by rw [hl]; exact y1)
  have w1 := Wq_01 To x
  have w2 := Wq_01 To y
  have dk := dk_mul hD To.pos (small_pow (by have := To.sum; omega))
  have q1 : Qk (D * (ts.getD i []).sum) (-(Wq (ts.getD i []) x)) := ⟨(Wq_in To hx).neg, by grind, by grind⟩
  have q2 : Qk (D * (ts.getD i []).sum) (Wq (ts.getD i []) y) := ⟨Wq_in To hy, by grind, by grind⟩
  have q3 : Qk (D * (ts.getD i []).sum) (Wq (ts.getD i []) y + -(Wq (ts.getD i []) x)) := ⟨q2.ein.add q1.ein, by grind, by grind⟩
  have c3 := lplus_ok (m := m) (q2.sm dk) (q1.sm dk)
  rw [encQ_neg] at c3
  have qn : Qk n (1 / (n : Rat)) := ⟨In.inv hn0, by grind, by grind⟩
  have c4 := more_ok (m := m) (qn.sm ⟨hn0, Nat.lt_of_le_of_lt hn5 (by decide +kernel)⟩) (q3.sm dk)
  rw [encQ_inv hn0] at c4
  have nl : ¬ (Wq (ts.getD i []) y + -(Wq (ts.getD i []) x) < 1 / (n : Rat)) := by grind
  refine ⟨some (.val (encQ (Wq (ts.getD i []) x))), some (.val (encQ (Wq (ts.getD i []) y))), ?_⟩
  simp only [l__law_cutting8, ev_seq, ev_asg, ev_par, ev_if, ev_ret, ev_retN, ev_expr, ev_bin, ev_un, ev_ap, ev_cons, ev_nil, ev_varS, ev_var0, ev_c, ob_some, ev_gNm, ev_tOf, ev_asB, ev_asI, ev_tNot, ev_tAnd, ev_tOr, ev_eOf, ev_eIf, ev_chain, List.set_cons_succ, List.set_cons_zero, ev_then_nx, ev_then_rt, ev_next, ev_pTup, ev_valsC, ev_vals0, ev_eL, ev_bm, ev_aug, pix_t, pix_l, pixq0, pixq1, atI_0, atI_1, atI_2, pp_ii, ps_ii, pa_ii, plt_ii, ple_ii, pgt_ii, pge_ii, peq_ii, pne_ii, pneg_i, List.length_cons, List.length_nil, Nat.reduceAdd, Nat.reduceSub, Nat.reduceLeDiff, sz, if_true, Bool.false_eq_true, if_false, Bool.not_true, Bool.not_false, leave_v, List.take_length, plen_t, plen_l, ptup_l, ptup_t, pint_i, pis_n, pis_i, pis_t, pisnt_n, pisnt_i, pisnt_t, Int.cast_ofNat_Int, ne_eq, not_true_eq_false, not_false_eq_true, decide_true, decide_false, c0, c1, c2, Int.zero_sub, c3, c4, nl]
theorem parts_loop (T : Nts ts n hours) : ∀ (r k : Nat) (left : List Nat) (x : Rat) (e4 e20 e21 e22 : Option R), Stg ts n hours k left x → left.length = r + 1 →
    ∃ env, loopL (gP (.tp (.cons (.nm 4) (.cons (.nm 20) .nil)))) l__law_cutting8 (((goL ts n r left x).1 ++ [((goL ts n r left x).2.1.headD 0, (hours : Rat))]).map encP) [some (.ref 0), some (.val (.int (hours : Nat))), some (.val (.int (n : Nat))), some (.val (encTs ts)), e4, e5, e6, e7, e8, e9, e10, e11, e12, e13, e14, some (.val (encQ x)), e16, e17, e18, e19, e20, e21, e22, none] m = some (.nx env m)
  | 0, k, left, x, e4, e20, e21, e22, S, hl => by
    obtain ⟨i, rfl⟩ : ∃ i, left = [i] := List.length_eq_one_iff.mp hl
    have hk1 : k + 1 = n := by have := S.len; simp at this; omega
    obtain ⟨To, hl2⟩ := T.at_ (S.lt i (by simp))
    have hn0 : 0 < n := by omega
    have hn := inv_nn hn0
    have had := S.had i (by simp)
    have hall := Wq_all To (y := (hours : Rat)) (by rw [hl2]; grind)
    have hkn : (k : Rat) + 1 = (n : Rat) := by
      rw [← hk1]
      push_cast
      rfl
    have hnn : (n : Rat) * (1 / (n : Rat)) = 1 := by
      have : (n : Rat) ≠ 0 := by
        intro e
        have : n = 0 := by exact_mod_cast e
        omega
      grind
    have hn5 := T.n5
    have p1 := pow_small (k := k) (a := 1) (by omega) (by decide) (by decide)
    rw [Nat.mul_one] at p1
    obtain ⟨e21', e22', hb⟩ := part_step (m := m) (e5 := e5) (e6 := e6) (e7 := e7) (e8 := e8) (e9 := e9) (e10 := e10) (e11 := e11) (e12 := e12) (e13 := e13) (e14 := e14) (e16 := e16) (e17 := e17) (e18 := e18) (e19 := e19) T S (i := i) (by simp) p1 S.ein (In.nat hours) S.hi (by grind) (by
      rw [hall]
      have e9 : (k : Rat) * (1 / (n : Rat)) + 1 / (n : Rat) = 1 := by
        rw [← hnn, ← hkn]
        grind
      grind) (e4 := e4) (e20 := e20) (e21 := e21) (e22 := e22)
    refine ⟨[some (.ref 0), some (.val (.int (hours : Nat))), some (.val (.int (n : Nat))), some (.val (encTs ts)), some (.val (.int (i : Nat))), e5, e6, e7, e8, e9, e10, e11, e12, e13, e14, some (.val (encQ (hours : Rat))), e16, e17, e18, e19, some (.val (encQ (hours : Rat))), e21', e22', none], ?_⟩
    show loopL _ _ [encP (i, (hours : Rat))] _ m = _
    rw [step_nx (env1 := [some (.ref 0), some (.val (.int (hours : Nat))), some (.val (.int (n : Nat))), some (.val (encTs ts)), some (.val (.int (i : Nat))), e5, e6, e7, e8, e9, e10, e11, e12, e13, e14, some (.val (encQ x)), e16, e17, e18, e19, some (.val (encQ (hours : Rat))), e21, e22, none]) (m1 := m) rfl hb]
    rfl
  | r + 1, k, left, x, e4, e20, e21, e22, S, hl => by
    have hk : k + 2 ≤ n := by have := S.len; omega
    have hne : left ≠ [] := fun z => by rw [z] at hl; simp at hl
    obtain ⟨i, hpk, hi, hmin⟩ := pk_ne (tau ts n x) hne
    have A := ask T S hi hk
    have S' := stg_next T S hk hi hmin
    have hl' : (nxt i left).length = r + 1 := by have := nxt_len S.nd hi; omega
    have hn5 := T.n5
    have p1 := pow_small (k := k + 1) (a := 1) (by omega) (by decide) (by decide)
    rw [Nat.mul_one] at p1
    have hx' : In (3600 ^ (k + 1)) x := by
      rw [Nat.pow_succ]
      exact S.ein.up 3600
    obtain ⟨e21', e22', hb⟩ := part_step (m := m) (e5 := e5) (e6 := e6) (e7 := e7) (e8 := e8) (e9 := e9) (e10 := e10) (e11 := e11) (e12 := e12) (e13 := e13) (e14 := e14) (e16 := e16) (e17 := e17) (e18 := e18) (e19 := e19) T S hi p1 hx' A.tin (by have := A.lt; grind) A.hi (by
      rw [A.w]
      have : dueQ ts n x i = Wq (ts.getD i []) x + 1 / (n : Rat) := rfl
      grind) (e4 := e4) (e20 := e20) (e21 := e21) (e22 := e22)
    obtain ⟨env, ih⟩ := parts_loop T r (k + 1) (nxt i left) (tau ts n x i) (some (.val (.int (i : Nat)))) (some (.val (encQ (tau ts n x i)))) e21' e22' S' hl'
    refine ⟨env, ?_⟩
    have hgo : goL ts n (r + 1) left x = ((i, tau ts n x i) :: (goL ts n r (nxt i left) (tau ts n x i)).1, (goL ts n r (nxt i left) (tau ts n x i)).2) := by
      rw [goL, hpk]
    rw [hgo]
    show loopL _ _ (encP (i, tau ts n x i) :: (((goL ts n r (nxt i left) (tau ts n x i)).1 ++ _).map encP)) _ m = _
    rw [step_nx (env1 := [some (.ref 0), some (.val (.int (hours : Nat))), some (.val (.int (n : Nat))), some (.val (encTs ts)), some (.val (.int (i : Nat))), e5, e6, e7, e8, e9, e10, e11, e12, e13, e14, some (.val (encQ x)), e16, e17, e18, e19, some (.val (encQ (tau ts n x i))), e21, e22, none]) (m1 := m) rfl hb]
    exact ih
/-- what is told is not large -/
theorem go_small (T : Nts ts n hours) : ∀ (r k : Nat) (left : List Nat) (x : Rat), Stg ts n hours k left x → left.length = r + 1 → ∀ p ∈ (goL ts n r left x).1, Sh 247 2 (encP p)
  | 0, _, _, _, _, _ => fun p hp => by cases hp
  | r + 1, k, left, x, S, hl => fun p hp => by
    have hk : k + 2 ≤ n := by have := S.len; omega
    have hne : left ≠ [] := fun z => by rw [z] at hl; simp at hl
    obtain ⟨i, hpk, hi, hmin⟩ := pk_ne (tau ts n x) hne
    have A := ask T S hi hk
    have S' := stg_next T S hk hi hmin
    have hl' : (nxt i left).length = r + 1 := by have := nxt_len S.nd hi; omega
    have hgo : goL ts n (r + 1) left x = ((i, tau ts n x i) :: (goL ts n r (nxt i left) (tau ts n x i)).1, (goL ts n r (nxt i left) (tau ts n x i)).2) := by
      rw [goL, hpk]
    rw [hgo] at hp
    have hn5 := T.n5
    rcases List.mem_cons.mp hp with z | z
    · rw [z]
      have hin := S.lt i hi
      have hh : hours ≤ 10 := by
        obtain ⟨a, b⟩ := T.at_ hin
        have := a.len
        omega
      have hh' : (hours : Rat) ≤ 10 := by exact_mod_cast hh
      have hp2 : 3600 ^ (k + 1) ≤ 3600 ^ 5 := Nat.pow_le_pow_right (by decide) (by omega)
      have e1 : Sh 81 0 (.int (i : Nat)) := Sh.int (by omega)
      have e2 : Sh 164 1 (encQ (tau ts n x i)) := sh_Q (N := 3600 ^ (k + 1)) (B := 10) (Nat.pow_pos (by decide)) A.tin (by
        have := A.lt
        have := S.lo
        have e : ((10 : Nat) : Rat) = 10 := rfl
        rw [e]
        grind) (by
        have := A.hi
        have e : ((10 : Nat) : Rat) = 10 := rfl
        rw [e]
        grind) (Nat.lt_of_le_of_lt (Nat.mul_le_mul_left 10 hp2) (by decide)) (Nat.lt_of_le_of_lt hp2 (by decide))
      exact (Sh.tup (ShA.cons e1 (ShA.cons e2 ShA.nil))).up (by decide) (by decide)
    · exact go_small T r (k + 1) _ _ S' hl' p z
theorem told_small (T : Nts ts n hours) : Sh 1240 3 (.tuple ((toldL ts n hours).map encP)) := by
  have hn2 := T.n2
  have hn5 := T.n5
  have S := stg0 T
  have hl := goL_len T (n - 1) 0 (List.range n) 0 S (by rw [List.length_range]; omega)
  obtain ⟨i, y, g1, g2⟩ := go_end T (n - 1) 0 (List.range n) 0 S (by rw [List.length_range]; omega)
  have hi := g2.lt i (by simp)
  have hh : hours ≤ 10 := by
    obtain ⟨a, b⟩ := T.at_ hi
    have := a.len
    omega
  have h : ∀ p ∈ toldL ts n hours, Sh 247 2 (encP p) := fun p hp => by
    unfold toldL at hp
    rcases List.mem_append.mp hp with z | z
    · exact go_small T (n - 1) 0 _ _ S (by rw [List.length_range]; omega) p z
    · rw [List.mem_singleton.mp z, g1]
      have e1 : Sh 81 0 (.int (i : Nat)) := Sh.int (by omega)
      have e2 : Sh 164 1 (encQ (hours : Rat)) := (Sh.tup (ShA.cons (Sh.int (i := (hours : Int)) (by omega)) (ShA.cons (Sh.int (i := 1) (by decide)) ShA.nil))).up (by decide) (by decide)
      exact (Sh.tup (ShA.cons e1 (ShA.cons e2 ShA.nil))).up (by decide) (by decide)
  have hlen : (toldL ts n hours).length = n := by
    unfold toldL
    rw [List.length_append, hl]
    simp
    omega
  refine (Sh.tup (ShA.map h)).up ?_ (by decide)
  rw [hlen]
  omega
end
end L34

set_option Elab.async false
set_option linter.all false
set_option maxRecDepth 100000
namespace L34
open PySem PySem.Spec PyProof.Rows L2 Ev Qa Cut
theorem low3 {m : M} {a : Nat} : m__law_lowest [.val (.int (a : Nat)), .val (.int 3)] m = some (.val (encQ ((a : Rat) / ((3 : Nat) : Rat))), m) := low_nat (b := 3) (by decide) (by decide)
theorem q3 {a h : Nat} (ha : a < 3 * h + 1) : In 3 ((a : Rat) / ((3 : Nat) : Rat)) ∧ 0 ≤ (a : Rat) / ((3 : Nat) : Rat) ∧ (a : Rat) / ((3 : Nat) : Rat) ≤ (h : Rat) := by
  have h0 := (div_01 (k := a) (s := 3) (by decide)).1
  refine ⟨in_div (by decide), h0, ?_⟩
  have h1 : (a : Rat) ≤ 3 * (h : Rat) := by
    have : a ≤ 3 * h := by omega
    exact_mod_cast this
  have e : ((3 : Nat) : Rat) = 3 := rfl
  rw [e]
  grind
theorem d3 : (0 < 3 ∧ 3 < 2 ^ 200) := ⟨by decide, by decide +kernel⟩
theorem cutting {m : M} (h : Bx [] m) : ∃ m', m__law_cutting [.ref 0] m = some (.val (.bool true), m') ∧ Bx [] m' := by
  obtain ⟨dh, m1, a1, a2, a3⟩ := drawN h (k := 5) (by decide) (by decide)
  obtain ⟨dn, m2, b1, b2, b3⟩ := drawN a3 (k := 3) (by decide) (by decide)
  obtain ⟨hours, hh⟩ : ∃ hours : Nat, hours = 1 + dh := ⟨_, rfl⟩
  obtain ⟨n, hn⟩ : ∃ n : Nat, n = 2 + dn := ⟨_, rfl⟩
  have eh : 1 + ((dh : Nat) : Int) = ((hours : Nat) : Int) := by omega
  have en : 2 + ((dn : Nat) : Int) = ((n : Nat) : Int) := by omega
  obtain ⟨x2, y2, rfl, hB2⟩ := b3
  have st : m.length = 1 := by
    obtain ⟨x, y, rfl, _⟩ := h
    rfl
  obtain ⟨ts, m3, J, e4, e5, c1, c2, c3, c4⟩ := tastes_loop (hours := hours) (N := .val (.int (n : Nat))) (by omega) (by omega) ((List.range n).map fun j : Nat => PyData.int j) [] [] (Ob.lst [.int x2, .int y2] :: [Ob.lst []]) none none ⟨x2, y2, rfl, hB2⟩ (by simp; omega) (fun t ht => by cases ht)
  have hlts : ts.length = n := by rw [c1]; simp
  have T : Nts ts n hours := ⟨hlts, by omega, by omega, c2⟩
  obtain ⟨x3, y3, rfl, hB3⟩ := c3
  obtain ⟨T0, l0⟩ := T.at_ (i := 0) (by omega)
  obtain ⟨T1, l1⟩ := T.at_ (i := 1) (by omega)
  obtain ⟨d1, m4, f1, f2, f3⟩ := drawN (rest := Ob.lst (ts.map encT) :: J) ⟨x3, y3, rfl, hB3⟩ (k := 3 * hours + 1) (by omega) (by omega)
  obtain ⟨d2, m5, g1, g2, g3⟩ := drawN f3 (k := 3 * hours + 1) (by omega) (by omega)
  obtain ⟨x5, y5, rfl, hB5⟩ := id g3
  have ek : ((3 * hours + 1 : Nat) : Int) = 3 * ((hours : Nat) : Int) + 1 := by push_cast; rfl
  rw [ek] at f1 g1
  obtain ⟨i1, p1, r1⟩ := q3 f2
  obtain ⟨i2, p2, r2⟩ := q3 g2
  have hlq : ((hours : Nat) : Rat) ≤ 10 := by
    have : hours ≤ 10 := by omega
    exact_mod_cast this
  generalize hu : (d1 : Rat) / ((3 : Nat) : Rat) = u at *
  generalize hv : (d2 : Rat) / ((3 : Nat) : Rat) = v at *
  have su : SmQ u := (show Qk 3 u from ⟨i1, by grind, by grind⟩).sm (dk_of d3)
  have sv : SmQ v := (show Qk 3 v from ⟨i2, by grind, by grind⟩).sm (dk_of d3)
  obtain ⟨x, y, hx, hy, hx0, hxy, hy1, hxy2⟩ : ∃ x y : Rat, In 3 x ∧ In 3 y ∧ 0 ≤ x ∧ x ≤ y ∧ y ≤ (hours : Rat) ∧ ((v < u ∧ x = v ∧ y = u) ∨ (¬ v < u ∧ x = u ∧ y = v)) := by
    by_cases z : v < u
    · exact ⟨v, u, i2, i1, p2, by grind, r1, .inl ⟨z, rfl, rfl⟩⟩
    · exact ⟨u, v, i1, i2, p1, by grind, r2, .inr ⟨z, rfl, rfl⟩⟩
  -- the store from here on
  generalize hM : (Ob.lst [.int x5, .int y5] :: (Ob.lst (ts.map encT) :: J)) = B at *
  have t0 := pix_Ts (m := B) (ts := ts) (i := 0) (by omega)
  have t0' : pIdx (.val (encTs ts)) (.val (.int 0)) B = some (.val (encT (ts.getD 0 [])), B) := t0
  have t1 := pix_Ts (m := B) (ts := ts) (i := 1) (by omega)
  have t1' : pIdx (.val (encTs ts)) (.val (.int 1)) B = some (.val (encT (ts.getD 1 [])), B) := t1
  have cm := more_ok (m := B) su sv
  -- worths
  have w1 := law_worth_ok (m := B) T0 d3 hy (by grind) (by rw [l0]; exact hy1)
  have w2 := law_worth_ok (m := B) T0 d3 hx hx0 (by rw [l0]; grind)
  have w3 := worth_of_ok (m := B) T0 d3 hx hy hx0 hxy (by rw [l0]; exact hy1)
  have k1 := Wq_01 T0 x
  have k2 := Wq_01 T0 y
  have hS := T0.sum
  have dk := dk_mul d3 T0.pos (small_pow (by omega))
  have q1 : Qk (3 * (ts.getD 0 []).sum) (-(Wq (ts.getD 0 []) x)) := ⟨(Wq_in T0 hx).neg, by grind, by grind⟩
  have q2 : Qk (3 * (ts.getD 0 []).sum) (Wq (ts.getD 0 []) y) := ⟨Wq_in T0 hy, by grind, by grind⟩
  have w4 := lplus_ok (m := B) (q2.sm dk) (q1.sm dk)
  rw [encQ_neg, ← Rat.sub_eq_add_neg] at w4
  have s1 : Sh 164 1 (encQ (Wq (ts.getD 0 []) y - Wq (ts.getD 0 []) x)) := sh_Q (N := 3 * (ts.getD 0 []).sum) (B := 10) (Nat.mul_pos (by decide) T0.pos) ((Wq_in T0 hy).sub (Wq_in T0 hx)) (by
    have e : ((10 : Nat) : Rat) = 10 := rfl
    rw [e]
    grind) (by
    have e : ((10 : Nat) : Rat) = 10 := rfl
    rw [e]
    grind) (by omega) (by omega)
  have z1 := s1.repr (m := B) (by decide) (by decide)
  have z2 := pNe_shown (m := B) s1.sm
  -- half
  obtain ⟨h1, h2, h3, h4⟩ := half_facts T0
  have hi2 := inv_nn (n := 2) (by decide)
  have W0 : Wq (ts.getD 0 []) 0 = 0 := by
    unfold Wq
    rw [Ws_0 _ (by grind)]
    grind
  have sm2 : SmQ (1 / ((2 : Nat) : Rat)) := (show Qk 2 (1 / ((2 : Nat) : Rat)) from ⟨In.inv (by decide), by grind, by grind⟩).sm ⟨by decide, by decide +kernel⟩
  have v1 := law_time_ok (m := B) (first := 0) (worth := 1 / ((2 : Nat) : Rat)) (due := 1 / ((2 : Nat) : Rat)) (D := 120) T0 d60 (In.nat 0) (by grind) (nat_nn _) sm2 (by rw [W0]; grind) ((In.inv (N := 2) (by decide)).dvd (by decide)) (h4.dvd (by decide)) hi2.1 hi2.2 h2
  rw [encQ_0, encQ_inv (by decide)] at v1
  have v1' : m__law_time [.val (encT (ts.getD 0 [])), .val (.tuple [.int 0, .int 1]), .val (.tuple [.int 1, .int 2])] B = some (.val (encQ (halfQ (ts.getD 0 []))), B) := v1
  have v2 := law_worth_ok (m := B) T1 d60 h1 (by grind) (by rw [l1, ← l0]; exact h3)
  have k3 := Wq_01 T1 (halfQ (ts.getD 0 []))
  have hS1 := T1.sum
  have q3' : Qk (120 * (ts.getD 1 []).sum) (Wq (ts.getD 1 []) (halfQ (ts.getD 0 []))) := ⟨Wq_in T1 h1, by grind, by grind⟩
  have v3 := more_ok (m := B) sm2 (q3'.sm (dk_mul d60 T1.pos (small_pow (by omega))))
  rw [encQ_inv (by decide)] at v3
  have v3' : m__law_more [.val (.tuple [.int 1, .int 2]), .val (encQ (Wq (ts.getD 1 []) (halfQ (ts.getD 0 []))))] B = some (.val (.bool (decide (Wq (ts.getD 1 []) (halfQ (ts.getD 0 [])) < 1 / ((2 : Nat) : Rat)))), B) := v3
  have v4 := cut_ok (m := B) T0 T1 (by rw [l0, l1])
  have s2 : Sh 247 2 (.tuple [encQ (halfQ (ts.getD 0 [])), .int (if Wq (ts.getD 1 []) (halfQ (ts.getD 0 [])) < 1 / ((2 : Nat) : Rat) then 1 else 0)]) := by
    have e1 : Sh 164 1 (encQ (halfQ (ts.getD 0 []))) := sh_Q (N := 120) (B := 10) (by decide) h1 (by
      have e : ((10 : Nat) : Rat) = 10 := rfl
      rw [e]
      grind) (by
      rw [l0] at h3
      have e : ((10 : Nat) : Rat) = 10 := rfl
      rw [e]
      grind) (by decide) (by decide)
    have e2 : Sh 81 0 (.int (if Wq (ts.getD 1 []) (halfQ (ts.getD 0 [])) < 1 / ((2 : Nat) : Rat) then 1 else 0)) := Sh.int (by split <;> decide)
    exact (Sh.tup (ShA.cons e1 (ShA.cons e2 ShA.nil))).up (by decide) (by decide)
  have z3 := s2.repr (m := B) (by decide) (by decide)
  have z4 := pNe_shown (m := B) s2.sm
  -- from the left
  have S0 := stg0 T
  have hr1 : (List.range n).length = (n - 1) + 1 := by rw [List.length_range]; omega
  obtain ⟨e4', e17', e18', L1⟩ := fwL (m0 := B) (e5 := e5) (e6 := some (.val (encQ u))) (e7 := some (.val (encQ v))) (e8 := some (.val (encQ x))) (e9 := some (.val (encQ y))) (e10 := some (.val (encQ (Wq (ts.getD 0 []) y)))) (e11 := some (.val (encQ (Wq (ts.getD 0 []) x)))) (e12 := some (.val (encQ (halfQ (ts.getD 0 []))))) (e13 := some (.val (.int (if Wq (ts.getD 1 []) (halfQ (ts.getD 0 [])) < 1 / ((2 : Nat) : Rat) then 1 else 0)))) T (n - 1) fuel 0 (List.range n) 0 [] e4 none none S0 hr1 (by show n - 1 < 1000000; omega) (by rw [List.length_nil]; omega)
  obtain ⟨i, yy, G1, G2⟩ := go_end T (n - 1) 0 (List.range n) 0 S0 hr1
  rw [G1, encQ_0] at L1
  simp only [List.nil_append] at L1
  have hgl := goL_len T (n - 1) 0 (List.range n) 0 S0 hr1
  have ap := papp_r (m := B ++ [Ob.lst ((goL ts n (n - 1) (List.range n) 0).1.map encP)]) (d := .tuple [.int (i : Nat), .tuple [.int (hours : Nat), .int 1]]) (get_L B _) (by rw [List.length_map, hgl]; omega)
  rw [set_L] at ap
  have al := asL_r (m := B ++ [Ob.lst ((goL ts n (n - 1) (List.range n) 0).1.map encP)]) (get_L B _)
  have fin : (goL ts n (n - 1) (List.range n) 0).1.map encP ++ [PyData.tuple [.int (i : Nat), .tuple [.int (hours : Int), .int 1]]] = (toldL ts n hours).map encP := by
    unfold toldL
    rw [G1, List.map_append]
    rfl
  rw [fin] at ap
  have w5 := from_left_ok (m := B ++ [Ob.lst ((toldL ts n hours).map encP)]) T
  have tp := ptup_r (m := B ++ [Ob.lst ((toldL ts n hours).map encP)]) (get_L B _)
  have s3 := told_small T
  have z5 := s3.repr (m := B ++ [Ob.lst ((toldL ts n hours).map encP)]) (by decide) (by decide)
  have z6 := pNe_shown (m := B ++ [Ob.lst ((toldL ts n hours).map encP)]) s3.sm
  obtain ⟨env, L2⟩ := parts_loop (m := B ++ [Ob.lst ((toldL ts n hours).map encP)]) (e5 := e5) (e6 := some (.val (encQ u))) (e7 := some (.val (encQ v))) (e8 := some (.val (encQ x))) (e9 := some (.val (encQ y))) (e10 := some (.val (encQ (Wq (ts.getD 0 []) y)))) (e11 := some (.val (encQ (Wq (ts.getD 0 []) x)))) (e12 := some (.val (encQ (halfQ (ts.getD 0 []))))) (e13 := some (.val (.int (if Wq (ts.getD 1 []) (halfQ (ts.getD 0 [])) < 1 / ((2 : Nat) : Rat) then 1 else 0))))
    (e14 := some (.val (.list (encI [i])))) (e16 := some (.ref B.length)) (e17 := e17') (e18 := e18') (e19 := some (.val (.tuple ((toldL ts n hours).map encP)))) T (n - 1) 0 (List.range n) 0 e4' none none none S0 hr1
  have eL2 : (goL ts n (n - 1) (List.range n) 0).1 ++ [((goL ts n (n - 1) (List.range n) 0).2.1.headD 0, (hours : Rat))] = toldL ts n hours := rfl
  rw [eL2, encQ_0] at L2
  have nr1 : ∀ env : Sl, eVar 2 env B = some (.val (.int (n : Nat)), B) → nRg1 (eVar 2) env B = some (encI (List.range n), B) := fun env he => nRg1_ok he (by omega)
  have bt0 : Bx [] [B.headD (Ob.lst [])] := by
    rw [← hM]
    exact ⟨x5, y5, rfl, hB5⟩
  have tk1 : (B ++ [Ob.lst ((toldL ts n hours).map encP)]).take 1 = [B.headD (Ob.lst [])] := by
    rw [← hM]
    rfl
  have rg := rg1_nat (m := Ob.lst [.int x2, .int y2] :: [Ob.lst []]) (n := n) (by omega)
  refine ⟨[B.headD (Ob.lst [])], ?_, bt0⟩
  have a1' : m__law_draw [.ref 0, .val (.int 5)] m = some (.val (.int (dh : Int)), m1) := a1
  have b1' : m__law_draw [.ref 0, .val (.int 3)] m1 = some (.val (.int (dn : Int)), Ob.lst [.int x2, .int y2] :: []) := b1
  have mul3 : ∀ mm : M, pMul (.val (.int 3)) (.val (.int (hours : Nat))) mm = some (.val (.int (3 * ((hours : Nat) : Int))), mm) := fun mm => pm_ii (by decide) (by omega)
  have tt : pTupleOf [.ref 1] (Ob.lst [.int x3, .int y3] :: Ob.lst (ts.map encT) :: J) = some (.val (encTs ts), Ob.lst [.int x3, .int y3] :: Ob.lst (ts.map encT) :: J) := ptup_r rfl
  have hd1 := low3 (m := m4) (a := d1)
  have hd2 := low3 (m := B) (a := d2)
  rw [hu] at hd1
  rw [hv] at hd2
  simp only [m__law_cutting, bodyF, List.length_cons, List.length_nil, Nat.reduceAdd, Nat.reduceSub, List.map_cons, List.map_nil, List.replicate, List.cons_append, List.nil_append, List.append_nil, b__law_cutting]
  rw [ev_seq]
  simp only [ev_asg, ev_par, ev_if, ev_ret, ev_retN, ev_expr, ev_bin, ev_un, ev_ap, ev_cons, ev_nil, ev_varS, ev_var0, ev_c, ob_some, ev_gNm, ev_tOf, ev_asB, ev_asI, ev_tNot, ev_tAnd, ev_tOr, ev_eOf, ev_eIf, ev_chain, List.set_cons_succ, List.set_cons_zero, ev_then_nx, ev_then_rt, ev_next, ev_pTup, ev_valsC, ev_vals0, ev_eL, ev_bm, ev_aug, pix_t, pix_l, pixq0, pixq1, atI_0, atI_1, atI_2, pp_ii, ps_ii, pa_ii, plt_ii, ple_ii, pgt_ii, pge_ii, peq_ii, pne_ii, pneg_i, List.length_cons, List.length_nil, Nat.reduceAdd, Nat.reduceSub, Nat.reduceLeDiff, sz, if_true, Bool.false_eq_true, if_false, Bool.not_true, Bool.not_false, leave_v, List.take_length, plen_t, plen_l, ptup_l, ptup_t, pint_i, pis_n, pis_i, pis_t, pisnt_n, pisnt_i, pisnt_t, Int.cast_ofNat_Int, ne_eq, not_true_eq_false, not_false_eq_true, decide_true, decide_false, a1', b1', eh, en]
  rw [ev_seq]
  simp only [ev_asg, ev_par, ev_if, ev_ret, ev_retN, ev_expr, ev_bin, ev_un, ev_ap, ev_cons, ev_nil, ev_varS, ev_var0, ev_c, ob_some, ev_gNm, ev_tOf, ev_asB, ev_asI, ev_tNot, ev_tAnd, ev_tOr, ev_eOf, ev_eIf, ev_chain, List.set_cons_succ, List.set_cons_zero, ev_then_nx, ev_then_rt, ev_next, ev_pTup, ev_valsC, ev_vals0, ev_eL, ev_bm, ev_aug, pix_t, pix_l, pixq0, pixq1, atI_0, atI_1, atI_2, pp_ii, ps_ii, pa_ii, plt_ii, ple_ii, pgt_ii, pge_ii, peq_ii, pne_ii, pneg_i, List.length_cons, List.length_nil, Nat.reduceAdd, Nat.reduceSub, Nat.reduceLeDiff, sz, if_true, Bool.false_eq_true, if_false, Bool.not_true, Bool.not_false, leave_v, List.take_length, plen_t, plen_l, ptup_l, ptup_t, pint_i, pis_n, pis_i, pis_t, pisnt_n, pisnt_i, pisnt_t, Int.cast_ofNat_Int, ne_eq, not_true_eq_false, not_false_eq_true, decide_true, decide_false, ev_eNew, ev_nLst, List.cons_append, List.nil_append]
  rw [ev_seq]
  simp only [ev_for, it_rg1, ev_asg, ev_par, ev_if, ev_ret, ev_retN, ev_expr, ev_bin, ev_un, ev_ap, ev_cons, ev_nil, ev_varS, ev_var0, ev_c, ob_some, ev_gNm, ev_tOf, ev_asB, ev_asI, ev_tNot, ev_tAnd, ev_tOr, ev_eOf, ev_eIf, ev_chain, List.set_cons_succ, List.set_cons_zero, ev_then_nx, ev_then_rt, ev_next, ev_pTup, ev_valsC, ev_vals0, ev_eL, ev_bm, ev_aug, pix_t, pix_l, pixq0, pixq1, atI_0, atI_1, atI_2, pp_ii, ps_ii, pa_ii, plt_ii, ple_ii, pgt_ii, pge_ii, peq_ii, pne_ii, pneg_i, List.length_cons, List.length_nil, Nat.reduceAdd, Nat.reduceSub, Nat.reduceLeDiff, sz, if_true, Bool.false_eq_true, if_false, Bool.not_true, Bool.not_false, leave_v, List.take_length, plen_t, plen_l, ptup_l, ptup_t, pint_i, pis_n, pis_i, pis_t, pisnt_n, pisnt_i, pisnt_t, Int.cast_ofNat_Int, ne_eq, not_true_eq_false, not_false_eq_true, decide_true, decide_false, rg, run_iL, c4]
  rw [ev_seq]
  simp only [ev_asg, ev_par, ev_if, ev_ret, ev_retN, ev_expr, ev_bin, ev_un, ev_ap, ev_cons, ev_nil, ev_varS, ev_var0, ev_c, ob_some, ev_gNm, ev_tOf, ev_asB, ev_asI, ev_tNot, ev_tAnd, ev_tOr, ev_eOf, ev_eIf, ev_chain, List.set_cons_succ, List.set_cons_zero, ev_then_nx, ev_then_rt, ev_next, ev_pTup, ev_valsC, ev_vals0, ev_eL, ev_bm, ev_aug, pix_t, pix_l, pixq0, pixq1, atI_0, atI_1, atI_2, pp_ii, ps_ii, pa_ii, plt_ii, ple_ii, pgt_ii, pge_ii, peq_ii, pne_ii, pneg_i, List.length_cons, List.length_nil, Nat.reduceAdd, Nat.reduceSub, Nat.reduceLeDiff, sz, if_true, Bool.false_eq_true, if_false, Bool.not_true, Bool.not_false, leave_v, List.take_length, plen_t, plen_l, ptup_l, ptup_t, pint_i, pis_n, pis_i, pis_t, pisnt_n, pisnt_i, pisnt_t, Int.cast_ofNat_Int, ne_eq, not_true_eq_false, not_false_eq_true, decide_true, decide_false, tt]
  rw [ev_seq]
  simp only [ev_asg, ev_par, ev_if, ev_ret, ev_retN, ev_expr, ev_bin, ev_un, ev_ap, ev_cons, ev_nil, ev_varS, ev_var0, ev_c, ob_some, ev_gNm, ev_tOf, ev_asB, ev_asI, ev_tNot, ev_tAnd, ev_tOr, ev_eOf, ev_eIf, ev_chain, List.set_cons_succ, List.set_cons_zero, ev_then_nx, ev_then_rt, ev_next, ev_pTup, ev_valsC, ev_vals0, ev_eL, ev_bm, ev_aug, pix_t, pix_l, pixq0, pixq1, atI_0, atI_1, atI_2, pp_ii, ps_ii, pa_ii, plt_ii, ple_ii, pgt_ii, pge_ii, peq_ii, pne_ii, pneg_i, List.length_cons, List.length_nil, Nat.reduceAdd, Nat.reduceSub, Nat.reduceLeDiff, sz, if_true, Bool.false_eq_true, if_false, Bool.not_true, Bool.not_false, leave_v, List.take_length, plen_t, plen_l, ptup_l, ptup_t, pint_i, pis_n, pis_i, pis_t, pisnt_n, pisnt_i, pisnt_t, Int.cast_ofNat_Int, ne_eq, not_true_eq_false, not_false_eq_true, decide_true, decide_false, mul3, f1, hd1, g1, hd2]
  rw [ev_seq]
  have fl : sAsg (eIf (tOf (eAp m__law_more (aCons (eVar 6) (aCons (eVar 7) aNil)))) (eAp pTup (aCons (eVar 7) (aCons (eVar 6) aNil))) (eAp pTup (aCons (eVar 6) (aCons (eVar 7) aNil)))) (gTp 2 (gsCons (gNm 8) (gsCons (gNm 9) gsNil)))
      [some (.ref 0), some (.val (.int (hours : Nat))), some (.val (.int (n : Nat))), some (.val (encTs ts)), e4, e5, some (.val (encQ u)), some (.val (encQ v)), none, none, none, none, none, none, none, none, none, none, none, none, none, none, none, none] B =
      some (.nx [some (.ref 0), some (.val (.int (hours : Nat))), some (.val (.int (n : Nat))), some (.val (encTs ts)), e4, e5, some (.val (encQ u)), some (.val (encQ v)), some (.val (encQ x)), some (.val (encQ y)), none, none, none, none, none, none, none, none, none, none, none, none, none, none] B) := by
    rcases hxy2 with ⟨z, rfl, rfl⟩ | ⟨z, rfl, rfl⟩
    · simp only [ev_asg, ev_par, ev_if, ev_ret, ev_retN, ev_expr, ev_bin, ev_un, ev_ap, ev_cons, ev_nil, ev_varS, ev_var0, ev_c, ob_some, ev_gNm, ev_tOf, ev_asB, ev_asI, ev_tNot, ev_tAnd, ev_tOr, ev_eOf, ev_eIf, ev_chain, List.set_cons_succ, List.set_cons_zero, ev_then_nx, ev_then_rt, ev_next, ev_pTup, ev_valsC, ev_vals0, ev_eL, ev_bm, ev_aug, pix_t, pix_l, pixq0, pixq1, atI_0, atI_1, atI_2, pp_ii, ps_ii, pa_ii, plt_ii, ple_ii, pgt_ii, pge_ii, peq_ii, pne_ii, pneg_i, List.length_cons, List.length_nil, Nat.reduceAdd, Nat.reduceSub, Nat.reduceLeDiff, sz, if_true, Bool.false_eq_true, if_false, Bool.not_true, Bool.not_false, leave_v, List.take_length, plen_t, plen_l, ptup_l, ptup_t, pint_i, pis_n, pis_i, pis_t, pisnt_n, pisnt_i, pisnt_t, Int.cast_ofNat_Int, ne_eq, not_true_eq_false, not_false_eq_true, decide_true, decide_false, cm, z, ev_gTp, ev_gsC, ev_gsN, List.map_cons, List.map_nil]
    · simp only [ev_asg, ev_par, ev_if, ev_ret, ev_retN, ev_expr, ev_bin, ev_un, ev_ap, ev_cons, ev_nil, ev_varS, ev_var0, ev_c, ob_some, ev_gNm, ev_tOf, ev_asB, ev_asI, ev_tNot, ev_tAnd, ev_tOr, ev_eOf, ev_eIf, ev_chain, List.set_cons_succ, List.set_cons_zero, ev_then_nx, ev_then_rt, ev_next, ev_pTup, ev_valsC, ev_vals0, ev_eL, ev_bm, ev_aug, pix_t, pix_l, pixq0, pixq1, atI_0, atI_1, atI_2, pp_ii, ps_ii, pa_ii, plt_ii, ple_ii, pgt_ii, pge_ii, peq_ii, pne_ii, pneg_i, List.length_cons, List.length_nil, Nat.reduceAdd, Nat.reduceSub, Nat.reduceLeDiff, sz, if_true, Bool.false_eq_true, if_false, Bool.not_true, Bool.not_false, leave_v, List.take_length, plen_t, plen_l, ptup_l, ptup_t, pint_i, pis_n, pis_i, pis_t, pisnt_n, pisnt_i, pisnt_t, Int.cast_ofNat_Int, ne_eq, not_true_eq_false, not_false_eq_true, decide_true, decide_false, cm, z, ev_gTp, ev_gsC, ev_gsN, List.map_cons, List.map_nil]
  simp only [fl, ob_some, ev_then_nx]
  rw [ev_seq]
  simp only [ev_asg, ev_par, ev_if, ev_ret, ev_retN, ev_expr, ev_bin, ev_un, ev_ap, ev_cons, ev_nil, ev_varS, ev_var0, ev_c, ob_some, ev_gNm, ev_tOf, ev_asB, ev_asI, ev_tNot, ev_tAnd, ev_tOr, ev_eOf, ev_eIf, ev_chain, List.set_cons_succ, List.set_cons_zero, ev_then_nx, ev_then_rt, ev_next, ev_pTup, ev_valsC, ev_vals0, ev_eL, ev_bm, ev_aug, pix_t, pix_l, pixq0, pixq1, atI_0, atI_1, atI_2, pp_ii, ps_ii, pa_ii, plt_ii, ple_ii, pgt_ii, pge_ii, peq_ii, pne_ii, pneg_i, List.length_cons, List.length_nil, Nat.reduceAdd, Nat.reduceSub, Nat.reduceLeDiff, sz, if_true, Bool.false_eq_true, if_false, Bool.not_true, Bool.not_false, leave_v, List.take_length, plen_t, plen_l, ptup_l, ptup_t, pint_i, pis_n, pis_i, pis_t, pisnt_n, pisnt_i, pisnt_t, Int.cast_ofNat_Int, ne_eq, not_true_eq_false, not_false_eq_true, decide_true, decide_false, t0', w1, w2]
  rw [ev_seq]
  simp only [ev_asg, ev_par, ev_if, ev_ret, ev_retN, ev_expr, ev_bin, ev_un, ev_ap, ev_cons, ev_nil, ev_varS, ev_var0, ev_c, ob_some, ev_gNm, ev_tOf, ev_asB, ev_asI, ev_tNot, ev_tAnd, ev_tOr, ev_eOf, ev_eIf, ev_chain, List.set_cons_succ, List.set_cons_zero, ev_then_nx, ev_then_rt, ev_next, ev_pTup, ev_valsC, ev_vals0, ev_eL, ev_bm, ev_aug, pix_t, pix_l, pixq0, pixq1, atI_0, atI_1, atI_2, pp_ii, ps_ii, pa_ii, plt_ii, ple_ii, pgt_ii, pge_ii, peq_ii, pne_ii, pneg_i, List.length_cons, List.length_nil, Nat.reduceAdd, Nat.reduceSub, Nat.reduceLeDiff, sz, if_true, Bool.false_eq_true, if_false, Bool.not_true, Bool.not_false, leave_v, List.take_length, plen_t, plen_l, ptup_l, ptup_t, pint_i, pis_n, pis_i, pis_t, pisnt_n, pisnt_i, pisnt_t, Int.cast_ofNat_Int, ne_eq, not_true_eq_false, not_false_eq_true, decide_true, decide_false, t0', w3, w4, Int.zero_sub, z1, z2]
  rw [ev_seq]
  simp only [ev_asg, ev_par, ev_if, ev_ret, ev_retN, ev_expr, ev_bin, ev_un, ev_ap, ev_cons, ev_nil, ev_varS, ev_var0, ev_c, ob_some, ev_gNm, ev_tOf, ev_asB, ev_asI, ev_tNot, ev_tAnd, ev_tOr, ev_eOf, ev_eIf, ev_chain, List.set_cons_succ, List.set_cons_zero, ev_then_nx, ev_then_rt, ev_next, ev_pTup, ev_valsC, ev_vals0, ev_eL, ev_bm, ev_aug, pix_t, pix_l, pixq0, pixq1, atI_0, atI_1, atI_2, pp_ii, ps_ii, pa_ii, plt_ii, ple_ii, pgt_ii, pge_ii, peq_ii, pne_ii, pneg_i, List.length_cons, List.length_nil, Nat.reduceAdd, Nat.reduceSub, Nat.reduceLeDiff, sz, if_true, Bool.false_eq_true, if_false, Bool.not_true, Bool.not_false, leave_v, List.take_length, plen_t, plen_l, ptup_l, ptup_t, pint_i, pis_n, pis_i, pis_t, pisnt_n, pisnt_i, pisnt_t, Int.cast_ofNat_Int, ne_eq, not_true_eq_false, not_false_eq_true, decide_true, decide_false, t0', v1']
  rw [ev_seq]
  have pc : sAsg (eIf (tOf (eAp m__law_more (aCons (eAp pTup (aCons (eC (.int 1)) (aCons (eC (.int 2)) aNil))) (aCons (eAp m__law_worth (aCons (eBin pIdx (eVar 3) (eC (.int 1))) (aCons (eVar 12) aNil))) aNil)))) (eC (.int 1)) (eC (.int 0))) (gNm 13)
      [some (.ref 0), some (.val (.int (hours : Nat))), some (.val (.int (n : Nat))), some (.val (encTs ts)), e4, e5, some (.val (encQ u)), some (.val (encQ v)), some (.val (encQ x)), some (.val (encQ y)), some (.val (encQ (Wq (ts.getD 0 []) y))), some (.val (encQ (Wq (ts.getD 0 []) x))), some (.val (encQ (halfQ (ts.getD 0 [])))), none, none, none, none, none, none, none, none, none, none, none] B =
      some (.nx [some (.ref 0), some (.val (.int (hours : Nat))), some (.val (.int (n : Nat))), some (.val (encTs ts)), e4, e5, some (.val (encQ u)), some (.val (encQ v)), some (.val (encQ x)), some (.val (encQ y)), some (.val (encQ (Wq (ts.getD 0 []) y))), some (.val (encQ (Wq (ts.getD 0 []) x))), some (.val (encQ (halfQ (ts.getD 0 [])))), some (.val (.int (if Wq (ts.getD 1 []) (halfQ (ts.getD 0 [])) < 1 / ((2 : Nat) : Rat) then 1 else 0))), none, none, none, none, none, none, none, none, none, none] B) := by
    by_cases z : Wq (ts.getD 1 []) (halfQ (ts.getD 0 [])) < 1 / ((2 : Nat) : Rat)
    · simp only [ev_asg, ev_par, ev_if, ev_ret, ev_retN, ev_expr, ev_bin, ev_un, ev_ap, ev_cons, ev_nil, ev_varS, ev_var0, ev_c, ob_some, ev_gNm, ev_tOf, ev_asB, ev_asI, ev_tNot, ev_tAnd, ev_tOr, ev_eOf, ev_eIf, ev_chain, List.set_cons_succ, List.set_cons_zero, ev_then_nx, ev_then_rt, ev_next, ev_pTup, ev_valsC, ev_vals0, ev_eL, ev_bm, ev_aug, pix_t, pix_l, pixq0, pixq1, atI_0, atI_1, atI_2, pp_ii, ps_ii, pa_ii, plt_ii, ple_ii, pgt_ii, pge_ii, peq_ii, pne_ii, pneg_i, List.length_cons, List.length_nil, Nat.reduceAdd, Nat.reduceSub, Nat.reduceLeDiff, sz, if_true, Bool.false_eq_true, if_false, Bool.not_true, Bool.not_false, leave_v, List.take_length, plen_t, plen_l, ptup_l, ptup_t, pint_i, pis_n, pis_i, pis_t, pisnt_n, pisnt_i, pisnt_t, Int.cast_ofNat_Int, ne_eq, not_true_eq_false, not_false_eq_true, decide_true, decide_false, t1', v2, v3', z]
    · simp only [ev_asg, ev_par, ev_if, ev_ret, ev_retN, ev_expr, ev_bin, ev_un, ev_ap, ev_cons, ev_nil, ev_varS, ev_var0, ev_c, ob_some, ev_gNm, ev_tOf, ev_asB, ev_asI, ev_tNot, ev_tAnd, ev_tOr, ev_eOf, ev_eIf, ev_chain, List.set_cons_succ, List.set_cons_zero, ev_then_nx, ev_then_rt, ev_next, ev_pTup, ev_valsC, ev_vals0, ev_eL, ev_bm, ev_aug, pix_t, pix_l, pixq0, pixq1, atI_0, atI_1, atI_2, pp_ii, ps_ii, pa_ii, plt_ii, ple_ii, pgt_ii, pge_ii, peq_ii, pne_ii, pneg_i, List.length_cons, List.length_nil, Nat.reduceAdd, Nat.reduceSub, Nat.reduceLeDiff, sz, if_true, Bool.false_eq_true, if_false, Bool.not_true, Bool.not_false, leave_v, List.take_length, plen_t, plen_l, ptup_l, ptup_t, pint_i, pis_n, pis_i, pis_t, pisnt_n, pisnt_i, pisnt_t, Int.cast_ofNat_Int, ne_eq, not_true_eq_false, not_false_eq_true, decide_true, decide_false, t1', v2, v3', z]
  simp only [pc, ob_some, ev_then_nx]
  rw [ev_seq]
  simp only [ev_asg, ev_par, ev_if, ev_ret, ev_retN, ev_expr, ev_bin, ev_un, ev_ap, ev_cons, ev_nil, ev_varS, ev_var0, ev_c, ob_some, ev_gNm, ev_tOf, ev_asB, ev_asI, ev_tNot, ev_tAnd, ev_tOr, ev_eOf, ev_eIf, ev_chain, List.set_cons_succ, List.set_cons_zero, ev_then_nx, ev_then_rt, ev_next, ev_pTup, ev_valsC, ev_vals0, ev_eL, ev_bm, ev_aug, pix_t, pix_l, pixq0, pixq1, atI_0, atI_1, atI_2, pp_ii, ps_ii, pa_ii, plt_ii, ple_ii, pgt_ii, pge_ii, peq_ii, pne_ii, pneg_i, List.length_cons, List.length_nil, Nat.reduceAdd, Nat.reduceSub, Nat.reduceLeDiff, sz, if_true, Bool.false_eq_true, if_false, Bool.not_true, Bool.not_false, leave_v, List.take_length, plen_t, plen_l, ptup_l, ptup_t, pint_i, pis_n, pis_i, pis_t, pisnt_n, pisnt_i, pisnt_t, Int.cast_ofNat_Int, ne_eq, not_true_eq_false, not_false_eq_true, decide_true, decide_false, t0', t1', v4, z3, z4]
  rw [ev_seq]
  simp only [ev_par3, ev_asg, ev_par, ev_if, ev_ret, ev_retN, ev_expr, ev_bin, ev_un, ev_ap, ev_cons, ev_nil, ev_varS, ev_var0, ev_c, ob_some, ev_gNm, ev_tOf, ev_asB, ev_asI, ev_tNot, ev_tAnd, ev_tOr, ev_eOf, ev_eIf, ev_chain, List.set_cons_succ, List.set_cons_zero, ev_then_nx, ev_then_rt, ev_next, ev_pTup, ev_valsC, ev_vals0, ev_eL, ev_bm, ev_aug, pix_t, pix_l, pixq0, pixq1, atI_0, atI_1, atI_2, pp_ii, ps_ii, pa_ii, plt_ii, ple_ii, pgt_ii, pge_ii, peq_ii, pne_ii, pneg_i, List.length_cons, List.length_nil, Nat.reduceAdd, Nat.reduceSub, Nat.reduceLeDiff, sz, if_true, Bool.false_eq_true, if_false, Bool.not_true, Bool.not_false, leave_v, List.take_length, plen_t, plen_l, ptup_l, ptup_t, pint_i, pis_n, pis_i, pis_t, pisnt_n, pisnt_i, pisnt_t, Int.cast_ofNat_Int, ne_eq, not_true_eq_false, not_false_eq_true, decide_true, decide_false, ev_eNew, nr1 _ (rfl : eVar 2 [some (.ref 0), some (.val (.int (hours : Nat))), some (.val (.int (n : Nat))), some (.val (encTs ts)), e4, e5, some (.val (encQ u)), some (.val (encQ v)), some (.val (encQ x)), some (.val (encQ y)), some (.val (encQ (Wq (ts.getD 0 []) y))), some (.val (encQ (Wq (ts.getD 0 []) x))), some (.val (encQ (halfQ (ts.getD 0 [])))), some (.val (.int (if Wq (ts.getD 1 []) (halfQ (ts.getD 0 [])) < 1 / ((2 : Nat) : Rat) then 1 else 0))), none, none, none, none, none, none, none, none, none, none] B = _), ev_nLst]
  rw [ev_seq]
  simp only [L1, ob_some, ev_then_nx]
  rw [ev_seq]
  have ixL : atI (encI [i]) 0 = some (.int (i : Nat)) := atI_0
  simp only [ev_asg, ev_par, ev_if, ev_ret, ev_retN, ev_expr, ev_bin, ev_un, ev_ap, ev_cons, ev_nil, ev_varS, ev_var0, ev_c, ob_some, ev_gNm, ev_tOf, ev_asB, ev_asI, ev_tNot, ev_tAnd, ev_tOr, ev_eOf, ev_eIf, ev_chain, List.set_cons_succ, List.set_cons_zero, ev_then_nx, ev_then_rt, ev_next, ev_pTup, ev_valsC, ev_vals0, ev_eL, ev_bm, ev_aug, pix_t, pix_l, pixq0, pixq1, atI_0, atI_1, atI_2, pp_ii, ps_ii, pa_ii, plt_ii, ple_ii, pgt_ii, pge_ii, peq_ii, pne_ii, pneg_i, List.length_cons, List.length_nil, Nat.reduceAdd, Nat.reduceSub, Nat.reduceLeDiff, sz, if_true, Bool.false_eq_true, if_false, Bool.not_true, Bool.not_false, leave_v, List.take_length, plen_t, plen_l, ptup_l, ptup_t, pint_i, pis_n, pis_i, pis_t, pisnt_n, pisnt_i, pisnt_t, Int.cast_ofNat_Int, ne_eq, not_true_eq_false, not_false_eq_true, decide_true, decide_false, al, ixL, ap]
  rw [ev_seq]
  simp only [ev_asg, ev_par, ev_if, ev_ret, ev_retN, ev_expr, ev_bin, ev_un, ev_ap, ev_cons, ev_nil, ev_varS, ev_var0, ev_c, ob_some, ev_gNm, ev_tOf, ev_asB, ev_asI, ev_tNot, ev_tAnd, ev_tOr, ev_eOf, ev_eIf, ev_chain, List.set_cons_succ, List.set_cons_zero, ev_then_nx, ev_then_rt, ev_next, ev_pTup, ev_valsC, ev_vals0, ev_eL, ev_bm, ev_aug, pix_t, pix_l, pixq0, pixq1, atI_0, atI_1, atI_2, pp_ii, ps_ii, pa_ii, plt_ii, ple_ii, pgt_ii, pge_ii, peq_ii, pne_ii, pneg_i, List.length_cons, List.length_nil, Nat.reduceAdd, Nat.reduceSub, Nat.reduceLeDiff, sz, if_true, Bool.false_eq_true, if_false, Bool.not_true, Bool.not_false, leave_v, List.take_length, plen_t, plen_l, ptup_l, ptup_t, pint_i, pis_n, pis_i, pis_t, pisnt_n, pisnt_i, pisnt_t, Int.cast_ofNat_Int, ne_eq, not_true_eq_false, not_false_eq_true, decide_true, decide_false, w5]
  rw [ev_seq]
  simp only [ev_asg, ev_par, ev_if, ev_ret, ev_retN, ev_expr, ev_bin, ev_un, ev_ap, ev_cons, ev_nil, ev_varS, ev_var0, ev_c, ob_some, ev_gNm, ev_tOf, ev_asB, ev_asI, ev_tNot, ev_tAnd, ev_tOr, ev_eOf, ev_eIf, ev_chain, List.set_cons_succ, List.set_cons_zero, ev_then_nx, ev_then_rt, ev_next, ev_pTup, ev_valsC, ev_vals0, ev_eL, ev_bm, ev_aug, pix_t, pix_l, pixq0, pixq1, atI_0, atI_1, atI_2, pp_ii, ps_ii, pa_ii, plt_ii, ple_ii, pgt_ii, pge_ii, peq_ii, pne_ii, pneg_i, List.length_cons, List.length_nil, Nat.reduceAdd, Nat.reduceSub, Nat.reduceLeDiff, sz, if_true, Bool.false_eq_true, if_false, Bool.not_true, Bool.not_false, leave_v, List.take_length, plen_t, plen_l, ptup_l, ptup_t, pint_i, pis_n, pis_i, pis_t, pisnt_n, pisnt_i, pisnt_t, Int.cast_ofNat_Int, ne_eq, not_true_eq_false, not_false_eq_true, decide_true, decide_false, z5, tp, z6]
  rw [ev_seq]
  simp only [ev_asg, ev_par, ev_if, ev_ret, ev_retN, ev_expr, ev_bin, ev_un, ev_ap, ev_cons, ev_nil, ev_varS, ev_var0, ev_c, ob_some, ev_gNm, ev_tOf, ev_asB, ev_asI, ev_tNot, ev_tAnd, ev_tOr, ev_eOf, ev_eIf, ev_chain, List.set_cons_succ, List.set_cons_zero, ev_then_nx, ev_then_rt, ev_next, ev_pTup, ev_valsC, ev_vals0, ev_eL, ev_bm, ev_aug, pix_t, pix_l, pixq0, pixq1, atI_0, atI_1, atI_2, pp_ii, ps_ii, pa_ii, plt_ii, ple_ii, pgt_ii, pge_ii, peq_ii, pne_ii, pneg_i, List.length_cons, List.length_nil, Nat.reduceAdd, Nat.reduceSub, Nat.reduceLeDiff, sz, if_true, Bool.false_eq_true, if_false, Bool.not_true, Bool.not_false, leave_v, List.take_length, plen_t, plen_l, ptup_l, ptup_t, pint_i, pis_n, pis_i, pis_t, pisnt_n, pisnt_i, pisnt_t, Int.cast_ofNat_Int, ne_eq, not_true_eq_false, not_false_eq_true, decide_true, decide_false]
  rw [ev_seq]
  simp only [ev_for, it_an, ev_asg, ev_par, ev_if, ev_ret, ev_retN, ev_expr, ev_bin, ev_un, ev_ap, ev_cons, ev_nil, ev_varS, ev_var0, ev_c, ob_some, ev_gNm, ev_tOf, ev_asB, ev_asI, ev_tNot, ev_tAnd, ev_tOr, ev_eOf, ev_eIf, ev_chain, List.set_cons_succ, List.set_cons_zero, ev_then_nx, ev_then_rt, ev_next, ev_pTup, ev_valsC, ev_vals0, ev_eL, ev_bm, ev_aug, pix_t, pix_l, pixq0, pixq1, atI_0, atI_1, atI_2, pp_ii, ps_ii, pa_ii, plt_ii, ple_ii, pgt_ii, pge_ii, peq_ii, pne_ii, pneg_i, List.length_cons, List.length_nil, Nat.reduceAdd, Nat.reduceSub, Nat.reduceLeDiff, sz, if_true, Bool.false_eq_true, if_false, Bool.not_true, Bool.not_false, leave_v, List.take_length, plen_t, plen_l, ptup_l, ptup_t, pint_i, pis_n, pis_i, pis_t, pisnt_n, pisnt_i, pisnt_t, Int.cast_ofNat_Int, ne_eq, not_true_eq_false, not_false_eq_true, decide_true, decide_false, an1_t, run_iL, L2]
  rw [st, tk1]
end L34

set_option Elab.async false
set_option linter.all false
set_option maxRecDepth 100000
namespace L34
open PySem PySem.Spec PyProof.Rows L2 Ev Qa Cut
/-! seats, in plain Lean -/
/-- the first of those with the greatest votes by the divisor -/
def bst (s : Nat) (v row : List Nat) : List Nat → Nat → Nat
  | [], b => b
  | i :: l, b => if v.getD b 0 * (s * row.getD i 0 + 1) < v.getD i 0 * (s * row.getD b 0 + 1) then bst s v row l i else bst s v row l b
def give (s : Nat) (v row : List Nat) : List Nat :=
  let b := bst s v row (List.range v.length) 0
  row.set b (row.getD b 0 + 1)
def divs (s : Nat) (v : List Nat) : Nat → List Nat
  | 0 => List.replicate v.length 0
  | k + 1 => give s v (divs s v k)
theorem cross_trans {a b c p q r : Nat} (hq : 0 < q) (h1 : a * q ≤ b * p) (h2 : b * r ≤ c * q) : a * r ≤ c * p := by
  -- a / p ≤ b / q ≤ c / r
  have h3 : a * q * r ≤ b * p * r := Nat.mul_le_mul_right r h1
  have h4 : b * r * p ≤ c * q * p := Nat.mul_le_mul_right p h2
  have h5 : q * (a * r) ≤ q * (c * p) := by
    have e1 : q * (a * r) = a * q * r := by rw [Nat.mul_comm q, Nat.mul_assoc, Nat.mul_comm r, ← Nat.mul_assoc]
    have e2 : b * p * r = b * r * p := by rw [Nat.mul_assoc, Nat.mul_comm p, ← Nat.mul_assoc]
    have e3 : q * (c * p) = c * q * p := by rw [← Nat.mul_assoc, Nat.mul_comm q]
    rw [e1, e3]
    omega
  exact Nat.le_of_mul_le_mul_left h5 hq
theorem bst_ok (s : Nat) (v row : List Nat) : ∀ (l : List Nat) (b : Nat), (bst s v row l b = b ∨ bst s v row l b ∈ l) ∧
    v.getD b 0 * (s * row.getD (bst s v row l b) 0 + 1) ≤ v.getD (bst s v row l b) 0 * (s * row.getD b 0 + 1) ∧
    ∀ i ∈ l, v.getD i 0 * (s * row.getD (bst s v row l b) 0 + 1) ≤ v.getD (bst s v row l b) 0 * (s * row.getD i 0 + 1)
  | [], b => ⟨.inl rfl, Nat.le_refl _, fun i hi => by cases hi⟩
  | a :: l, b => by
    unfold bst
    split
    · rename_i h
      obtain ⟨h1, h2, h3⟩ := bst_ok s v row l a
      refine ⟨?_, ?_, fun i hi => ?_⟩
      · rcases h1 with z | z
        · exact .inr (by rw [z]; simp)
        · exact .inr (List.mem_cons_of_mem _ z)
      · exact cross_trans (q := s * row.getD a 0 + 1) (Nat.succ_pos _) (Nat.le_of_lt h) h2
      · rcases List.mem_cons.mp hi with z | z
        · rw [z]; exact h2
        · exact h3 i z
    · rename_i h
      obtain ⟨h1, h2, h3⟩ := bst_ok s v row l b
      refine ⟨?_, h2, fun i hi => ?_⟩
      · rcases h1 with z | z
        · exact .inl z
        · exact .inr (List.mem_cons_of_mem _ z)
      · rcases List.mem_cons.mp hi with z | z
        · rw [z]
          exact cross_trans (q := s * row.getD b 0 + 1) (Nat.succ_pos _) (by omega) h2
        · exact h3 i z
theorem getD_set (l : List Nat) (i j a : Nat) (h : i < l.length) : (l.set i a).getD j 0 = if j = i then a else l.getD j 0 := by
  rw [List.getD, List.getD]
  by_cases e : j = i
  · subst e
    rw [List.getElem?_set_self h, if_pos rfl]
    rfl
  · rw [List.getElem?_set_ne (fun z => e z.symm), if_neg e]
/-- no seat would rather go to another one -/
structure DI (s : Nat) (v row : List Nat) (k : Nat) : Prop where
  len : row.length = v.length
  sum : row.sum = k
  inv : ∀ i j, i < v.length → j < v.length → 0 < row.getD j 0 → v.getD i 0 * (s * (row.getD j 0 - 1) + 1) ≤ v.getD j 0 * (s * row.getD i 0 + 1)
theorem sum_set : ∀ (l : List Nat) (i : Nat), i < l.length → (l.set i (l.getD i 0 + 1)).sum = l.sum + 1
  | [], i, h => by simp at h
  | a :: l, 0, _ => by
    show (((a :: l).getD 0 0 + 1) :: l).sum = _
    rw [List.sum_cons, List.sum_cons]
    show a + 1 + l.sum = _
    omega
  | a :: l, i + 1, h => by
    have ih := sum_set l i (by simpa using h)
    show (a :: l.set i (l.getD i 0 + 1)).sum = _
    rw [List.sum_cons, ih, List.sum_cons]
    omega
theorem bst_lt {s : Nat} {v row : List Nat} (h : 0 < v.length) : bst s v row (List.range v.length) 0 < v.length := by
  rcases (bst_ok s v row (List.range v.length) 0).1 with z | z
  · rw [z]; exact h
  · exact List.mem_range.mp z
theorem give_ok {s : Nat} {v row : List Nat} {k : Nat} (h : 0 < v.length) (I : DI s v row k) : DI s v (give s v row) (k + 1) ∧ ∀ i, row.getD i 0 ≤ (give s v row).getD i 0 := by
  have hb := bst_lt (s := s) (row := row) h
  have hbr : bst s v row (List.range v.length) 0 < row.length := by rw [I.len]; exact hb
  have hg : ∀ j, (give s v row).getD j 0 = if j = bst s v row (List.range v.length) 0 then row.getD (bst s v row (List.range v.length) 0) 0 + 1 else row.getD j 0 := fun j => getD_set row _ j _ hbr
  have hm := (bst_ok s v row (List.range v.length) 0).2.2
  generalize bst s v row (List.range v.length) 0 = b at *
  have mono : ∀ i, row.getD i 0 ≤ (give s v row).getD i 0 := fun i => by
    rw [hg]
    split
    · rename_i z
      rw [z]
      omega
    · omega
  refine ⟨⟨?_, ?_, fun i j hi hj hp => ?_⟩, mono⟩
  · show (row.set _ _).length = _
    rw [List.length_set, I.len]
  · show (row.set _ _).sum = _
    have := bst_lt (s := s) (row := row) h
    rw [sum_set row _ (by rw [I.len]; exact this), I.sum]
  · have mi := mono i
    have h1 : v.getD j 0 * (s * row.getD i 0 + 1) ≤ v.getD j 0 * (s * (give s v row).getD i 0 + 1) := Nat.mul_le_mul_left _ (Nat.add_le_add_right (Nat.mul_le_mul_left _ mi) _)
    by_cases e : j = b
    · subst e
      have e1 : (give s v row).getD j 0 - 1 = row.getD j 0 := by rw [hg, if_pos rfl]; omega
      rw [e1]
      exact Nat.le_trans (hm i (List.mem_range.mpr hi)) h1
    · have e1 : (give s v row).getD j 0 = row.getD j 0 := by rw [hg, if_neg e]
      rw [e1] at hp ⊢
      exact Nat.le_trans (I.inv i j hi hj hp) h1
theorem zeros_getD (n i : Nat) : (List.replicate n 0).getD i 0 = 0 := by
  rw [List.getD, List.getElem?_replicate]
  split <;> rfl
theorem divs_ok {s : Nat} {v : List Nat} (h : 0 < v.length) : ∀ k, DI s v (divs s v k) k
  | 0 => ⟨by simp [divs], by simp [divs], fun i j _ _ hp => by
    have e : (divs s v 0).getD j 0 = 0 := zeros_getD _ _
    rw [e] at hp
    omega⟩
  | k + 1 => (give_ok h (divs_ok h k)).1
theorem divs_mono {s : Nat} {v : List Nat} (h : 0 < v.length) (k i : Nat) : (divs s v k).getD i 0 ≤ (divs s v (k + 1)).getD i 0 := (give_ok h (divs_ok h k)).2 i
/-- a house with more votes has no fewer seats -/
theorem divs_votes {s k : Nat} {v : List Nat} {i j : Nat} (h : 0 < v.length) (hi : i < v.length) (hj : j < v.length) (hv : v.getD j 0 < v.getD i 0) : ¬ (divs s v k).getD i 0 < (divs s v k).getD j 0 := fun hlt => by
  have := (divs_ok (s := s) h k).inv i j hi hj (by omega)
  have h1 : s * (divs s v k).getD i 0 + 1 ≤ s * ((divs s v k).getD j 0 - 1) + 1 := Nat.add_le_add_right (Nat.mul_le_mul_left _ (by omega)) _
  have h2 : v.getD i 0 * (s * (divs s v k).getD i 0 + 1) ≤ v.getD i 0 * (s * ((divs s v k).getD j 0 - 1) + 1) := Nat.mul_le_mul_left _ h1
  have h3 : v.getD j 0 * (s * (divs s v k).getD i 0 + 1) < v.getD i 0 * (s * (divs s v k).getD i 0 + 1) := Nat.mul_lt_mul_of_pos_right hv (Nat.succ_pos _)
  omega
theorem sum_lt_ex : ∀ (a b : List Nat), a.length = b.length → a.sum < b.sum → ∃ i, i < a.length ∧ a.getD i 0 < b.getD i 0
  | [], [], _, h => by simp at h
  | x :: a, y :: b, hl, h => by
    by_cases z : x < y
    · exact ⟨0, by simp, z⟩
    · rw [List.sum_cons, List.sum_cons] at h
      obtain ⟨i, h1, h2⟩ := sum_lt_ex a b (by simpa using hl) (by omega)
      exact ⟨i + 1, by simpa using h1, h2⟩
/-- no house has less than its share rounded down -/
theorem divs_quota {k : Nat} {v : List Nat} {i : Nat} (h : 0 < v.length) (hv : ∀ x ∈ v, 0 < x) (hi : i < v.length) : v.getD i 0 * k / v.sum ≤ (divs 1 v k).getD i 0 := by
  have I := divs_ok (s := 1) h k
  have hvp : ∀ j, j < v.length → 0 < v.getD j 0 := fun j hj => by
    rw [List.getD, List.getElem?_eq_getElem hj]
    exact hv _ (List.getElem_mem hj)
  have hle : ∀ (l : List Nat) (j : Nat), l.getD j 0 ≤ l.sum := by
    intro l
    induction l with
    | nil => intro j; simp
    | cons a l ih =>
      intro j
      rw [List.sum_cons]
      cases j with
      | zero => show a ≤ _; omega
      | succ j => have := ih j; show l.getD j 0 ≤ _; omega
  have hs : 0 < v.sum := Nat.lt_of_lt_of_le (hvp i hi) (hle v i)
  apply Classical.byContradiction
  intro hn
  have h1 : (divs 1 v k).getD i 0 + 1 ≤ v.getD i 0 * k / v.sum := by omega
  have h2 : ((divs 1 v k).getD i 0 + 1) * v.sum ≤ v.getD i 0 * k := by
    have := Nat.mul_le_mul_right v.sum h1
    have h3 := Nat.div_mul_le_self (v.getD i 0 * k) v.sum
    omega
  -- someone has more than its share
  obtain ⟨j, hj, hlt⟩ : ∃ j, j < v.length ∧ v.getD j 0 * k < (divs 1 v k).getD j 0 * v.sum := by
    have e1 : (v.map fun x => x * k).sum = v.sum * k := by
      have : ∀ l : List Nat, (l.map fun x => x * k).sum = l.sum * k := by
        intro l
        induction l with
        | nil => simp
        | cons a l ih => rw [List.map_cons, List.sum_cons, ih, List.sum_cons, Nat.add_mul]
      exact this v
    have e2 : ((divs 1 v k).map fun x => x * v.sum).sum = k * v.sum := by
      have : ∀ l : List Nat, (l.map fun x => x * v.sum).sum = l.sum * v.sum := by
        intro l
        induction l with
        | nil => simp
        | cons a l ih => rw [List.map_cons, List.sum_cons, ih, List.sum_cons, Nat.add_mul]
      rw [this, I.sum]
    apply Classical.byContradiction
    intro hno
    have hall : ∀ j, j < v.length → (divs 1 v k).getD j 0 * v.sum ≤ v.getD j 0 * k := fun j hj => by
      apply Classical.byContradiction
      intro z
      exact hno ⟨j, hj, by omega⟩
    -- then the sums differ
    have key : ∀ (a b : List Nat), a.length = b.length → (∀ j, j < a.length → a.getD j 0 ≤ b.getD j 0) → (∃ j, j < a.length ∧ a.getD j 0 < b.getD j 0) → a.sum < b.sum := by
      intro a
      induction a with
      | nil => intro b _ _ hx; obtain ⟨j, hj, _⟩ := hx; simp at hj
      | cons x a ih =>
        intro b hl hle hx
        cases b with
        | nil => simp at hl
        | cons y b =>
          rw [List.sum_cons, List.sum_cons]
          have h0 : x ≤ y := hle 0 (by simp)
          have hle' : ∀ j, j < a.length → a.getD j 0 ≤ b.getD j 0 := fun j hj => hle (j + 1) (by simpa using hj)
          by_cases z : x < y
          · have hw : a.sum ≤ b.sum := by
              have : ∀ (a b : List Nat), a.length = b.length → (∀ j, j < a.length → a.getD j 0 ≤ b.getD j 0) → a.sum ≤ b.sum := by
                intro a
                induction a with
                | nil => intro b _ _; simp
                | cons x a ih2 =>
                  intro b hl hle
                  cases b with
                  | nil => simp at hl
                  | cons y b =>
                    rw [List.sum_cons, List.sum_cons]
                    have := ih2 b (by simpa using hl) fun j hj => hle (j + 1) (by simpa using hj)
                    have h0 : x ≤ y := hle 0 (by simp)
                    omega
              exact this a b (by simpa using hl) hle'
            omega
          · obtain ⟨j, hj, hlt⟩ := hx
            cases j with
            | zero => exact absurd hlt z
            | succ j =>
              have := ih b (by simpa using hl) hle' ⟨j, by simpa using hj, hlt⟩
              omega
    have := key ((divs 1 v k).map fun x => x * v.sum) (v.map fun x => x * k) (by rw [List.length_map, List.length_map, I.len]) (fun j hj => ?_) ⟨i, ?_, ?_⟩
    · rw [e1, e2, Nat.mul_comm] at this
      omega
    · rw [List.length_map, I.len] at hj
      have g1 : ((divs 1 v k).map fun x => x * v.sum).getD j 0 = (divs 1 v k).getD j 0 * v.sum := by
        rw [List.getD, List.getD, List.getElem?_map, List.getElem?_eq_getElem (by rw [I.len]; exact hj)]
        rfl
      have g2 : (v.map fun x => x * k).getD j 0 = v.getD j 0 * k := by
        rw [List.getD, List.getD, List.getElem?_map, List.getElem?_eq_getElem hj]
        rfl
      rw [g1, g2]
      exact hall j hj
    · rw [List.length_map, I.len]
      exact hi
    · have g1 : ((divs 1 v k).map fun x => x * v.sum).getD i 0 = (divs 1 v k).getD i 0 * v.sum := by
        rw [List.getD, List.getD, List.getElem?_map, List.getElem?_eq_getElem (by rw [I.len]; exact hi)]
        rfl
      have g2 : (v.map fun x => x * k).getD i 0 = v.getD i 0 * k := by
        rw [List.getD, List.getD, List.getElem?_map, List.getElem?_eq_getElem hi]
        rfl
      rw [g1, g2]
      have : (divs 1 v k).getD i 0 * v.sum < ((divs 1 v k).getD i 0 + 1) * v.sum := Nat.mul_lt_mul_of_pos_right (Nat.lt_succ_self _) hs
      omega
  have hjp : 0 < (divs 1 v k).getD j 0 := by
    apply Classical.byContradiction
    intro z
    have : (divs 1 v k).getD j 0 = 0 := by omega
    rw [this] at hlt
    simp at hlt
  have h4 := I.inv i j hi hj hjp
  rw [Nat.one_mul, Nat.one_mul] at h4
  have e5 : (divs 1 v k).getD j 0 - 1 + 1 = (divs 1 v k).getD j 0 := by omega
  rw [e5] at h4
  -- v_i d_j ≤ v_j (d_i + 1), times the sum
  have h5 : v.getD i 0 * ((divs 1 v k).getD j 0 * v.sum) ≤ v.getD j 0 * (((divs 1 v k).getD i 0 + 1) * v.sum) := by
    rw [← Nat.mul_assoc, ← Nat.mul_assoc]
    exact Nat.mul_le_mul_right _ h4
  have h6 : v.getD j 0 * (((divs 1 v k).getD i 0 + 1) * v.sum) ≤ v.getD j 0 * (v.getD i 0 * k) := Nat.mul_le_mul_left _ h2
  have h7 : v.getD i 0 * (v.getD j 0 * k) < v.getD i 0 * ((divs 1 v k).getD j 0 * v.sum) := Nat.mul_lt_mul_of_pos_left hlt (hvp i hi)
  have e8 : v.getD j 0 * (v.getD i 0 * k) = v.getD i 0 * (v.getD j 0 * k) := by rw [← Nat.mul_assoc, ← Nat.mul_assoc, Nat.mul_comm (v.getD j 0)]
  omega
end L34

set_option Elab.async false
set_option linter.all false
set_option maxRecDepth 100000
namespace L34
open PySem PySem.Spec PyProof.Rows L2 Ev Qa Cut
/-! seats by greatest rests, in plain Lean -/
def flo (v : List Nat) (k : Nat) : List Nat := v.map fun x => x * k / v.sum
def rst (v : List Nat) (k i : Nat) : Nat := v.getD i 0 * k % v.sum
def leG (v : List Nat) (k : Nat) (i j : Nat) : Bool := decide (-((rst v k i : Nat) : Int) < -((rst v k j : Nat) : Int) ∨ (-((rst v k i : Nat) : Int) = -((rst v k j : Nat) : Int) ∧ ((i : Nat) : Int) ≤ ((j : Nat) : Int)))
def ordG (v : List Nat) (k : Nat) : List Nat := (List.range v.length).mergeSort (leG v k)
def addAll : List Nat → List Nat → List Nat
  | row, [] => row
  | row, i :: l => addAll (row.set i (row.getD i 0 + 1)) l
def gRow (v : List Nat) (k : Nat) : List Nat := addAll (flo v k) ((ordG v k).take (k - (flo v k).sum))
theorem addAll_len : ∀ (l row : List Nat), (addAll row l).length = row.length
  | [], row => rfl
  | i :: l, row => by rw [addAll, addAll_len l, List.length_set]
theorem addAll_get : ∀ (l row : List Nat) (j : Nat), l.Nodup → (∀ i ∈ l, i < row.length) → (addAll row l).getD j 0 = row.getD j 0 + if j ∈ l then 1 else 0
  | [], row, j, _, _ => by simp [addAll]
  | i :: l, row, j, nd, h => by
    rw [List.nodup_cons] at nd
    rw [addAll, addAll_get l _ j nd.2 (fun k hk => by rw [List.length_set]; exact h k (List.mem_cons_of_mem _ hk)), getD_set _ _ _ _ (h i (by simp))]
    by_cases e : j = i
    · subst e
      rw [if_pos rfl, if_neg nd.1, if_pos (by simp)]
    · rw [if_neg e]
      by_cases z : j ∈ l
      · rw [if_pos z, if_pos (by simp [z])]
      · rw [if_neg z, if_neg (by simp [z, e])]
theorem ordG_perm (v : List Nat) (k : Nat) : (ordG v k).Perm (List.range v.length) := List.mergeSort_perm _ _
theorem ordG_nodup (v : List Nat) (k : Nat) : (ordG v k).Nodup := (ordG_perm v k).nodup_iff.mpr List.nodup_range
theorem ordG_lt {v : List Nat} {k i : Nat} (h : i ∈ ordG v k) : i < v.length := List.mem_range.mp ((ordG_perm v k).mem_iff.mp h)
theorem ordG_sorted (v : List Nat) (k : Nat) : (ordG v k).Pairwise fun i j => rst v k j ≤ rst v k i := by
  have tr : ∀ a b c : Nat, leG v k a b = true → leG v k b c = true → leG v k a c = true := by
    intro a b c h1 h2
    unfold leG at *
    rw [decide_eq_true_eq] at *
    omega
  have tot : ∀ a b : Nat, (leG v k a b || leG v k b a) = true := by
    intro a b
    unfold leG
    rw [Bool.or_eq_true, decide_eq_true_eq, decide_eq_true_eq]
    omega
  have := List.pairwise_mergeSort tr tot (List.range v.length)
  exact this.imp fun {a b} h => by
    unfold leG at h
    rw [decide_eq_true_eq] at h
    omega
theorem sum_map_getD (f : Nat → Nat) : ∀ v : List Nat, (v.map f).sum = ((List.range v.length).map fun i => f (v.getD i 0)).sum := by
  intro v
  congr 1
  apply List.ext_getElem?
  intro i
  rw [List.getElem?_map, List.getElem?_map]
  by_cases h : i < v.length
  · rw [List.getElem?_range h, List.getElem?_eq_getElem h]
    have e : v.getD i 0 = v[i] := by
      rw [List.getD, List.getElem?_eq_getElem h]
      rfl
    show some (f v[i]) = some (f (v.getD i 0))
    rw [e]
  · rw [List.getElem?_eq_none (by omega), List.getElem?_eq_none (by rw [List.length_range]; omega)]
    rfl
theorem perm_sum {l l' : List Nat} (h : l.Perm l') : l.sum = l'.sum := h.sum_nat
section
variable {v : List Nat} {k : Nat}
theorem rests_sum (hs : 0 < v.sum) : ((List.range v.length).map fun i => rst v k i).sum = (k - (flo v k).sum) * v.sum ∧ (flo v k).sum ≤ k := by
  have e1 : ((List.range v.length).map fun i => rst v k i).sum = (v.map fun x => x * k % v.sum).sum := (sum_map_getD (fun x => x * k % v.sum) v).symm
  have e2 : ∀ (l : List Nat) (s : Nat), (l.map fun x => x * k / s).sum * s + (l.map fun x => x * k % s).sum = l.sum * k := by
    intro l s
    induction l with
    | nil => simp
    | cons a l ih =>
      simp only [List.map_cons, List.sum_cons]
      have := Nat.div_add_mod (a * k) s
      rw [Nat.add_mul, Nat.add_mul, Nat.mul_comm (a * k / s)]
      omega
  have h := e2 v v.sum
  have hf : flo v k = v.map fun x => x * k / v.sum := rfl
  rw [← hf] at h
  have hle : (flo v k).sum ≤ k := by
    have : (flo v k).sum * v.sum ≤ k * v.sum := by rw [Nat.mul_comm k]; omega
    exact Nat.le_of_mul_le_mul_right this hs
  refine ⟨?_, hle⟩
  rw [e1, Nat.sub_mul, Nat.mul_comm k]
  omega
/-- who gets one of the seats that are left has a rest -/
theorem took_rest (hs : 0 < v.sum) {i : Nat} (hi : i ∈ (ordG v k).take (k - (flo v k).sum)) : 0 < rst v k i := by
  apply Classical.byContradiction
  intro hz
  have hz : rst v k i = 0 := by omega
  obtain ⟨h1, h2⟩ := rests_sum (k := k) hs
  have hp := ordG_perm v k
  have hsum : ((ordG v k).map fun i => rst v k i).sum = (k - (flo v k).sum) * v.sum := by
    rw [← h1]
    exact perm_sum (hp.map _)
  have hsplit := List.take_append_drop (k - (flo v k).sum) (ordG v k)
  rw [← hsplit, List.map_append, List.sum_append] at hsum
  have hpw := ordG_sorted v k
  rw [← hsplit, List.pairwise_append] at hpw
  have hd : (((ordG v k).drop (k - (flo v k).sum)).map fun i => rst v k i).sum = 0 := by
    have : ∀ l : List Nat, (∀ j ∈ l, rst v k j = 0) → (l.map fun i => rst v k i).sum = 0 := by
      intro l
      induction l with
      | nil => intro _; rfl
      | cons a l ih =>
        intro h
        rw [List.map_cons, List.sum_cons, h a (by simp), ih fun j hj => h j (List.mem_cons_of_mem _ hj)]
    refine this _ fun j hj => ?_
    have := hpw.2.2 i hi j hj
    omega
  have ht : ∀ l : List Nat, (l.map fun i => rst v k i).sum ≤ l.length * (v.sum - 1) := by
    intro l
    induction l with
    | nil => simp
    | cons a l ih =>
      rw [List.map_cons, List.sum_cons, List.length_cons, Nat.succ_mul]
      have : rst v k a < v.sum := Nat.mod_lt _ hs
      omega
  have h3 := ht ((ordG v k).take (k - (flo v k).sum))
  have h4 : ((ordG v k).take (k - (flo v k).sum)).length ≤ k - (flo v k).sum := by
    rw [List.length_take]
    omega
  have h5 := Nat.mul_le_mul_right (v.sum - 1) h4
  have h6 : 0 < k - (flo v k).sum := by
    apply Classical.byContradiction
    intro z
    have : k - (flo v k).sum = 0 := by omega
    rw [this] at hi
    simp at hi
  have h7 : (k - (flo v k).sum) * (v.sum - 1) + (k - (flo v k).sum) = (k - (flo v k).sum) * v.sum := by
    obtain ⟨s, hs'⟩ : ∃ s, v.sum = s + 1 := ⟨v.sum - 1, by omega⟩
    rw [hs', Nat.add_sub_cancel, Nat.mul_succ]
  omega
theorem flo_get {i : Nat} (h : i < v.length) : (flo v k).getD i 0 = v.getD i 0 * k / v.sum := by
  unfold flo
  rw [List.getD, List.getD, List.getElem?_map, List.getElem?_eq_getElem h]
  rfl
theorem take_lt {i : Nat} (h : i ∈ (ordG v k).take (k - (flo v k).sum)) : i < v.length := ordG_lt (List.mem_of_mem_take h)
theorem gRow_get {i : Nat} (h : i < v.length) : (gRow v k).getD i 0 = v.getD i 0 * k / v.sum + if i ∈ (ordG v k).take (k - (flo v k).sum) then 1 else 0 := by
  unfold gRow
  rw [addAll_get _ _ _ ((ordG_nodup v k).sublist (List.take_sublist _ _)) (fun j hj => by
    show j < (flo v k).length
    unfold flo
    rw [List.length_map]
    exact take_lt hj), flo_get h]
theorem gRow_len : (gRow v k).length = v.length := by
  unfold gRow
  rw [addAll_len]
  unfold flo
  rw [List.length_map]
theorem gRow_bounds (hs : 0 < v.sum) {i : Nat} (h : i < v.length) : v.getD i 0 * k / v.sum ≤ (gRow v k).getD i 0 ∧ (gRow v k).getD i 0 ≤ (v.getD i 0 * k + v.sum - 1) / v.sum := by
  rw [gRow_get h]
  have h1 : v.getD i 0 * k / v.sum ≤ (v.getD i 0 * k + v.sum - 1) / v.sum := Nat.div_le_div_right (by omega)
  split
  · rename_i hi
    have hr := took_rest hs hi
    unfold rst at hr
    have h2 : v.getD i 0 * k / v.sum + 1 ≤ (v.getD i 0 * k + v.sum - 1) / v.sum := by
      rw [Nat.le_div_iff_mul_le hs, Nat.add_mul, Nat.one_mul]
      have := Nat.div_add_mod (v.getD i 0 * k) v.sum
      rw [Nat.mul_comm]
      omega
    omega
  · omega
end
end L34

set_option Elab.async false
set_option linter.all false
set_option maxRecDepth 100000
namespace L34
open PySem PySem.Spec PyProof.Rows L2 Ev Qa Cut
structure Vt (v : List Nat) : Prop where
  ne : 1 ≤ v.length
  len : v.length ≤ 8
  lo : ∀ x ∈ v, 1 ≤ x
  hi : ∀ x ∈ v, x ≤ 1000
theorem Vt.at_ {v : List Nat} (V : Vt v) {i : Nat} (h : i < v.length) : v[i]? = some (v.getD i 0) ∧ 1 ≤ v.getD i 0 ∧ v.getD i 0 ≤ 1000 := by
  have e := getD_some h
  have hm := List.mem_of_getElem? e
  exact ⟨e, V.lo _ hm, V.hi _ hm⟩
theorem Vt.sum {v : List Nat} (V : Vt v) : 0 < v.sum ∧ v.sum ≤ 8000 := by
  have h1 := sum_le (B := 1000) v V.hi
  have h2 := V.len
  refine ⟨?_, Nat.le_trans h1 (by omega)⟩
  have h3 := V.ne
  cases v with
  | nil => simp at h3
  | cons a l =>
    have := V.lo a (by simp)
    rw [List.sum_cons]
    omega
section
variable {m : M} {v : List Nat} {k : Nat}
theorem check_votes_ok (V : Vt v) (hk : k ≤ 60) : m_check_votes_and_seats [.val (encT v), .val (.int (k : Nat))] m = some (.val .none, m) := by
  have hc : ∀ e0 e1 e2, clpL (.nm 2) tTrue e_check_votes_and_seats1 [some (.val e0), some (.val e1), e2] (v.map fun a : Nat => PyData.int a) m = some (v.map fun _ => .bool true, m) := fun e0 e1 e2 =>
    clpL_all (fun a : Nat => PyData.int a) (fun _ => .bool true) v fun a ha => ⟨_, rfl, by
      have := V.lo a ha
      have := V.hi a ha
      have h1 : (1 : Int) ≤ a := by omega
      have h2 : (a : Int) ≤ 1000 := by omega
      have h3 : a ≤ 1000 := V.hi a ha
      have h4 : 1 ≤ a := V.lo a ha
      simp only [e_check_votes_and_seats1, ev_asg, ev_par, ev_if, ev_ret, ev_retN, ev_expr, ev_bin, ev_un, ev_ap, ev_cons, ev_nil, ev_varS, ev_var0, ev_c, ob_some, ev_gNm, ev_tOf, ev_asB, ev_asI, ev_tNot, ev_tAnd, ev_tOr, ev_eOf, ev_eIf, ev_chain, List.set_cons_succ, List.set_cons_zero, ev_then_nx, ev_then_rt, ev_next, ev_pTup, ev_valsC, ev_vals0, ev_eL, ev_bm, ev_aug, pix_t, pix_l, pixq0, pixq1, atI_0, atI_1, atI_2, pp_ii, ps_ii, pa_ii, plt_ii, ple_ii, pgt_ii, pge_ii, peq_ii, pne_ii, pneg_i, List.length_cons, List.length_nil, Nat.reduceAdd, Nat.reduceSub, Nat.reduceLeDiff, sz, if_true, Bool.false_eq_true, if_false, Bool.not_true, Bool.not_false, leave_v, List.take_length, plen_t, plen_l, ptup_l, ptup_t, pint_i, pis_n, pis_i, pis_t, pisnt_n, pisnt_i, pisnt_t, Int.cast_ofNat_Int, ne_eq, not_true_eq_false, not_false_eq_true, decide_true, decide_false, is_bet_i, h1, h2, and_self]⟩
  have hl : (v.map fun a : Nat => PyData.int a).length ≤ 16777216 := by
    rw [List.length_map]
    have := V.len
    omega
  have h1 : (1 : Int) ≤ v.length := by have := V.ne; omega
  have h2 : (v.length : Int) ≤ 8 := by have := V.len; omega
  have h3 : (k : Int) ≤ 60 := by omega
  have h4 : v.length ≤ 8 := V.len
  have h5 : 1 ≤ v.length := V.ne
  simp [m_check_votes_and_seats, bodyF, b_check_votes_and_seats, encT, encI, isA, runC_iL hl, wipeE, hc, pall_l v fun _ => true, h1, h2, h3, h4, h5]
/-- the seats that are left are given -/
theorem add_loop {m0 : M} {e0 e1 e2 e4 e6 : Option R} {n : Nat} : ∀ (l row : List Nat) (e5 : Option R), (∀ i ∈ l, i < n) → row.length = n →
    ∃ e5', loopL (gNm 5) l_greatest_rests3 (encI l) [e0, e1, e2, some (.ref m0.length), e4, e5, e6] (m0 ++ [.lst (encI row)]) = some (.nx [e0, e1, e2, some (.ref m0.length), e4, e5', e6] (m0 ++ [.lst (encI (addAll row l))]))
  | [], row, e5, _, _ => ⟨e5, rfl⟩
  | i :: l, row, e5, h, hl => by
    have hi : i < row.length := by rw [hl]; exact h i (by simp)
    obtain ⟨e5', ih⟩ := add_loop (m0 := m0) (e0 := e0) (e1 := e1) (e2 := e2) (e4 := e4) (e6 := e6) l (row.set i (row.getD i 0 + 1)) (some (.val (.int (i : Nat)))) (fun j hj => h j (List.mem_cons_of_mem _ hj)) (by rw [List.length_set]; exact hl)
    have h1 := pix_rN (m := m0 ++ [.lst (encI row)]) (get_L m0 _) (getD_some hi)
    have h2 := pset_rN (m := m0 ++ [.lst (encI row)]) (a := row.getD i 0 + 1) (get_L m0 _) hi
    rw [set_L] at h2
    have e3 : ((row.getD i 0 + 1 : Nat) : Int) = ((row.getD i 0 : Nat) : Int) + 1 := by push_cast; rfl
    rw [e3] at h2
    refine ⟨e5', ?_⟩
    have es : encI (i :: l) = .int (i : Nat) :: encI l := rfl
    rw [es, step_nx (env1 := [e0, e1, e2, some (.ref m0.length), e4, some (.val (.int (i : Nat))), e6]) (m1 := m0 ++ [.lst (encI row)]) (env2 := [e0, e1, e2, some (.ref m0.length), e4, some (.val (.int (i : Nat))), e6]) (m2 := m0 ++ [.lst (encI (row.set i (row.getD i 0 + 1)))]) rfl
      (by simp only [l_greatest_rests3, ev_augS, ev_asg, ev_par, ev_if, ev_ret, ev_retN, ev_expr, ev_bin, ev_un, ev_ap, ev_cons, ev_nil, ev_varS, ev_var0, ev_c, ob_some, ev_gNm, ev_tOf, ev_asB, ev_asI, ev_tNot, ev_tAnd, ev_tOr, ev_eOf, ev_eIf, ev_chain, List.set_cons_succ, List.set_cons_zero, ev_then_nx, ev_then_rt, ev_next, ev_pTup, ev_valsC, ev_vals0, ev_eL, ev_bm, ev_aug, pix_t, pix_l, pixq0, pixq1, atI_0, atI_1, atI_2, pp_ii, ps_ii, pa_ii, plt_ii, ple_ii, pgt_ii, pge_ii, peq_ii, pne_ii, pneg_i, List.length_cons, List.length_nil, Nat.reduceAdd, Nat.reduceSub, Nat.reduceLeDiff, sz, if_true, Bool.false_eq_true, if_false, Bool.not_true, Bool.not_false, leave_v, List.take_length, plen_t, plen_l, ptup_l, ptup_t, pint_i, pis_n, pis_i, pis_t, pisnt_n, pisnt_i, pisnt_t, Int.cast_ofNat_Int, ne_eq, not_true_eq_false, not_false_eq_true, decide_true, decide_false, h1, h2]), ih]
    rfl
theorem sort_seats {fk : D → M → Option (D × M)} (V : Vt v) (h : ∀ i, i < v.length → fk (.int (i : Nat)) m = some (.tuple [.int (-((rst v k i : Nat) : Int)), .int (i : Nat)], m)) : sortKF fk (rngD 0 v.length) m = some (.val (.list (encI (ordG v k))), m) := by
  have := sortKF_ii (fk := fk) (m := m) (fun i : Nat => PyData.int i) (fun i => -((rst v k i : Nat) : Int)) (fun i => ((i : Nat) : Int)) (List.range v.length) (fun i hi => h i (List.mem_range.mp hi)) (by rw [List.length_range]; have := V.len; omega)
  rw [range_enc]
  exact this
theorem greatest_ok (V : Vt v) (hk : k ≤ 60) : m_greatest_rests [.val (encT v), .val (.int (k : Nat))] m = some (.val (encT (gRow v k)), m) := by
  obtain ⟨s1, s2⟩ := V.sum
  have hl : (encI v).length ≤ 16777216 := by rw [encI_len]; have := V.len; omega
  have a1 : an1 (.val (encT v)) m = iL (encI v) m := rfl
  have hc : ∀ e3 e4 e5 e6, clpL (.nm 6) tTrue e_greatest_rests1 [some (.val (encT v)), some (.val (.int (k : Nat))), some (.val (.int (v.sum : Nat))), e3, e4, e5, e6] (encI v) m = some (encI (flo v k), m) := fun e3 e4 e5 e6 => by
    have := clpL_all (p := .nm 6) (te := e_greatest_rests1) (env := [some (.val (encT v)), some (.val (.int (k : Nat))), some (.val (.int (v.sum : Nat))), e3, e4, e5, e6]) (m := m) (fun a : Nat => PyData.int a) (fun a => .int (a * k / v.sum : Nat)) v fun a ha => ⟨_, rfl, by
      have := V.hi a ha
      simp only [e_greatest_rests1, ev_asg, ev_par, ev_if, ev_ret, ev_retN, ev_expr, ev_bin, ev_un, ev_ap, ev_cons, ev_nil, ev_varS, ev_var0, ev_c, ob_some, ev_gNm, ev_tOf, ev_asB, ev_asI, ev_tNot, ev_tAnd, ev_tOr, ev_eOf, ev_eIf, ev_chain, List.set_cons_succ, List.set_cons_zero, ev_then_nx, ev_then_rt, ev_next, ev_pTup, ev_valsC, ev_vals0, ev_eL, ev_bm, ev_aug, pix_t, pix_l, pixq0, pixq1, atI_0, atI_1, atI_2, pp_ii, ps_ii, pa_ii, plt_ii, ple_ii, pgt_ii, pge_ii, peq_ii, pne_ii, pneg_i, List.length_cons, List.length_nil, Nat.reduceAdd, Nat.reduceSub, Nat.reduceLeDiff, sz, if_true, Bool.false_eq_true, if_false, Bool.not_true, Bool.not_false, leave_v, List.take_length, plen_t, plen_l, ptup_l, ptup_t, pint_i, pis_n, pis_i, pis_t, pisnt_n, pisnt_i, pisnt_t, Int.cast_ofNat_Int, ne_eq, not_true_eq_false, not_false_eq_true, decide_true, decide_false, List.set, pmN (a := a) (b := k) (by omega) (by omega), pdN (a := a * k) s1 (by omega)]⟩
    rw [show encI v = v.map fun a : Nat => PyData.int a from rfl, this]
    unfold flo encI
    rw [List.map_map]
    rfl
  have hkey : ∀ i, i < v.length → keyF k_greatest_rests2 [false, false, false, false, false, true, false] [some (.val (encT v)), some (.val (.int (k : Nat))), some (.val (.int (v.sum : Nat))), some (.ref m.length), none, none, none] (.int (i : Nat)) (m ++ [.lst (encI (flo v k))]) = some (.tuple [.int (-((rst v k i : Nat) : Int)), .int (i : Nat)], m ++ [.lst (encI (flo v k))]) := fun i hi => by
    obtain ⟨g1, g2, g3⟩ := V.at_ hi
    simp only [keyF, mskL, k_greatest_rests2, ev_asg, ev_par, ev_if, ev_ret, ev_retN, ev_expr, ev_bin, ev_un, ev_ap, ev_cons, ev_nil, ev_varS, ev_var0, ev_c, ob_some, ev_gNm, ev_tOf, ev_asB, ev_asI, ev_tNot, ev_tAnd, ev_tOr, ev_eOf, ev_eIf, ev_chain, List.set_cons_succ, List.set_cons_zero, ev_then_nx, ev_then_rt, ev_next, ev_pTup, ev_valsC, ev_vals0, ev_eL, ev_bm, ev_aug, pix_t, pix_l, pixq0, pixq1, atI_0, atI_1, atI_2, pp_ii, ps_ii, pa_ii, plt_ii, ple_ii, pgt_ii, pge_ii, peq_ii, pne_ii, pneg_i, List.length_cons, List.length_nil, Nat.reduceAdd, Nat.reduceSub, Nat.reduceLeDiff, sz, if_true, Bool.false_eq_true, if_false, Bool.not_true, Bool.not_false, leave_v, List.take_length, plen_t, plen_l, ptup_l, ptup_t, pint_i, pis_n, pis_i, pis_t, pisnt_n, pisnt_i, pisnt_t, Int.cast_ofNat_Int, ne_eq, not_true_eq_false, not_false_eq_true, decide_true, decide_false, pix_T g1, pmN (a := v.getD i 0) (b := k) (by omega) (by omega), pmodN (a := v.getD i 0 * k) s1]
    rfl
  have hs := sort_seats (m := m ++ [.lst (encI (flo v k))]) V hkey
  obtain ⟨r1, r2⟩ := rests_sum (k := k) s1
  have pl := plen_T (l := v) (m := m ++ [.lst (encI (flo v k))])
  have ps := psum_rN (m := m ++ [.lst (encI (flo v k))]) (get_L m _)
  have e1 : ((k : Nat) : Int) - (((flo v k).sum : Nat) : Int) = ((k - (flo v k).sum : Nat) : Int) := by omega
  have sl : sl1 (.val (.list (encI (ordG v k)))) none (some ((k - (flo v k).sum : Nat) : Int)) (m ++ [.lst (encI (flo v k))]) = some (.val (.list (encI ((ordG v k).take (k - (flo v k).sum)))), m ++ [.lst (encI (flo v k))]) := by
    rw [sl1_l, cut_take, encI_take]
  have hfl : (flo v k).length = v.length := by unfold flo; rw [List.length_map]
  obtain ⟨e5', hloop⟩ := add_loop (m0 := m) (e0 := some (.val (encT v))) (e1 := some (.val (.int (k : Nat)))) (e2 := some (.val (.int (v.sum : Nat)))) (e4 := some (.val (.list (encI (ordG v k))))) (e6 := none) (n := v.length) ((ordG v k).take (k - (flo v k).sum)) (flo v k) none (fun i hi => take_lt hi) hfl
  have tt := ptup_r (m := m ++ [.lst (encI (gRow v k))]) (get_L m _)
  have tk : (m ++ [Ob.lst (encI (gRow v k))]).take m.length = m := by simp
  simp only [m_greatest_rests, bodyF, List.length_cons, List.length_nil, Nat.reduceAdd, Nat.reduceSub, List.map_cons, List.map_nil, List.replicate, List.cons_append, List.nil_append, List.append_nil, b_greatest_rests]
  rw [ev_seq]
  simp only [ev_asg, ev_par, ev_if, ev_ret, ev_retN, ev_expr, ev_bin, ev_un, ev_ap, ev_cons, ev_nil, ev_varS, ev_var0, ev_c, ob_some, ev_gNm, ev_tOf, ev_asB, ev_asI, ev_tNot, ev_tAnd, ev_tOr, ev_eOf, ev_eIf, ev_chain, List.set_cons_succ, List.set_cons_zero, ev_then_nx, ev_then_rt, ev_next, ev_pTup, ev_valsC, ev_vals0, ev_eL, ev_bm, ev_aug, pix_t, pix_l, pixq0, pixq1, atI_0, atI_1, atI_2, pp_ii, ps_ii, pa_ii, plt_ii, ple_ii, pgt_ii, pge_ii, peq_ii, pne_ii, pneg_i, List.length_cons, List.length_nil, Nat.reduceAdd, Nat.reduceSub, Nat.reduceLeDiff, sz, if_true, Bool.false_eq_true, if_false, Bool.not_true, Bool.not_false, leave_v, List.take_length, plen_t, plen_l, ptup_l, ptup_t, pint_i, pis_n, pis_i, pis_t, pisnt_n, pisnt_i, pisnt_t, Int.cast_ofNat_Int, ne_eq, not_true_eq_false, not_false_eq_true, decide_true, decide_false, check_votes_ok V hk]
  rw [ev_seq]
  simp only [ev_asg, ev_par, ev_if, ev_ret, ev_retN, ev_expr, ev_bin, ev_un, ev_ap, ev_cons, ev_nil, ev_varS, ev_var0, ev_c, ob_some, ev_gNm, ev_tOf, ev_asB, ev_asI, ev_tNot, ev_tAnd, ev_tOr, ev_eOf, ev_eIf, ev_chain, List.set_cons_succ, List.set_cons_zero, ev_then_nx, ev_then_rt, ev_next, ev_pTup, ev_valsC, ev_vals0, ev_eL, ev_bm, ev_aug, pix_t, pix_l, pixq0, pixq1, atI_0, atI_1, atI_2, pp_ii, ps_ii, pa_ii, plt_ii, ple_ii, pgt_ii, pge_ii, peq_ii, pne_ii, pneg_i, List.length_cons, List.length_nil, Nat.reduceAdd, Nat.reduceSub, Nat.reduceLeDiff, sz, if_true, Bool.false_eq_true, if_false, Bool.not_true, Bool.not_false, leave_v, List.take_length, plen_t, plen_l, ptup_l, ptup_t, pint_i, pis_n, pis_i, pis_t, pisnt_n, pisnt_i, pisnt_t, Int.cast_ofNat_Int, ne_eq, not_true_eq_false, not_false_eq_true, decide_true, decide_false, psum_T]
  rw [ev_seq]
  simp only [ev_asg, ev_par, ev_if, ev_ret, ev_retN, ev_expr, ev_bin, ev_un, ev_ap, ev_cons, ev_nil, ev_varS, ev_var0, ev_c, ob_some, ev_gNm, ev_tOf, ev_asB, ev_asI, ev_tNot, ev_tAnd, ev_tOr, ev_eOf, ev_eIf, ev_chain, List.set_cons_succ, List.set_cons_zero, ev_then_nx, ev_then_rt, ev_next, ev_pTup, ev_valsC, ev_vals0, ev_eL, ev_bm, ev_aug, pix_t, pix_l, pixq0, pixq1, atI_0, atI_1, atI_2, pp_ii, ps_ii, pa_ii, plt_ii, ple_ii, pgt_ii, pge_ii, peq_ii, pne_ii, pneg_i, List.length_cons, List.length_nil, Nat.reduceAdd, Nat.reduceSub, Nat.reduceLeDiff, sz, if_true, Bool.false_eq_true, if_false, Bool.not_true, Bool.not_false, leave_v, List.take_length, plen_t, plen_l, ptup_l, ptup_t, pint_i, pis_n, pis_i, pis_t, pisnt_n, pisnt_i, pisnt_t, Int.cast_ofNat_Int, ne_eq, not_true_eq_false, not_false_eq_true, decide_true, decide_false, ev_eNew, ev_comp, it_an, a1, runC_iL hl, wipeE, List.set, hc]
  rw [ev_seq]
  simp only [ev_asg, ev_par, ev_if, ev_ret, ev_retN, ev_expr, ev_bin, ev_un, ev_ap, ev_cons, ev_nil, ev_varS, ev_var0, ev_c, ob_some, ev_gNm, ev_tOf, ev_asB, ev_asI, ev_tNot, ev_tAnd, ev_tOr, ev_eOf, ev_eIf, ev_chain, List.set_cons_succ, List.set_cons_zero, ev_then_nx, ev_then_rt, ev_next, ev_pTup, ev_valsC, ev_vals0, ev_eL, ev_bm, ev_aug, pix_t, pix_l, pixq0, pixq1, atI_0, atI_1, atI_2, pp_ii, ps_ii, pa_ii, plt_ii, ple_ii, pgt_ii, pge_ii, peq_ii, pne_ii, pneg_i, List.length_cons, List.length_nil, Nat.reduceAdd, Nat.reduceSub, Nat.reduceLeDiff, sz, if_true, Bool.false_eq_true, if_false, Bool.not_true, Bool.not_false, leave_v, List.take_length, plen_t, plen_l, ptup_l, ptup_t, pint_i, pis_n, pis_i, pis_t, pisnt_n, pisnt_i, pisnt_t, Int.cast_ofNat_Int, ne_eq, not_true_eq_false, not_false_eq_true, decide_true, decide_false, ev_sortKR, pl, bds1, rgOk0 (show v.length ≤ 1000000 by have := V.len; omega), Int.sub_zero, Int.toNat_natCast, hs]
  rw [ev_seq]
  simp only [ev_for, it_an, ev_asg, ev_par, ev_if, ev_ret, ev_retN, ev_expr, ev_bin, ev_un, ev_ap, ev_cons, ev_nil, ev_varS, ev_var0, ev_c, ob_some, ev_gNm, ev_tOf, ev_asB, ev_asI, ev_tNot, ev_tAnd, ev_tOr, ev_eOf, ev_eIf, ev_chain, List.set_cons_succ, List.set_cons_zero, ev_then_nx, ev_then_rt, ev_next, ev_pTup, ev_valsC, ev_vals0, ev_eL, ev_bm, ev_aug, pix_t, pix_l, pixq0, pixq1, atI_0, atI_1, atI_2, pp_ii, ps_ii, pa_ii, plt_ii, ple_ii, pgt_ii, pge_ii, peq_ii, pne_ii, pneg_i, List.length_cons, List.length_nil, Nat.reduceAdd, Nat.reduceSub, Nat.reduceLeDiff, sz, if_true, Bool.false_eq_true, if_false, Bool.not_true, Bool.not_false, leave_v, List.take_length, plen_t, plen_l, ptup_l, ptup_t, pint_i, pis_n, pis_i, pis_t, pisnt_n, pisnt_i, pisnt_t, Int.cast_ofNat_Int, ne_eq, not_true_eq_false, not_false_eq_true, decide_true, decide_false, ev_sl, ev_oNone, ev_oSome, ps, e1, sl, an1_l, run_iL, hloop]
  have eg : addAll (flo v k) ((ordG v k).take (k - (flo v k).sum)) = gRow v k := rfl
  simp only [eg, ev_asg, ev_par, ev_if, ev_ret, ev_retN, ev_expr, ev_bin, ev_un, ev_ap, ev_cons, ev_nil, ev_varS, ev_var0, ev_c, ob_some, ev_gNm, ev_tOf, ev_asB, ev_asI, ev_tNot, ev_tAnd, ev_tOr, ev_eOf, ev_eIf, ev_chain, List.set_cons_succ, List.set_cons_zero, ev_then_nx, ev_then_rt, ev_next, ev_pTup, ev_valsC, ev_vals0, ev_eL, ev_bm, ev_aug, pix_t, pix_l, pixq0, pixq1, atI_0, atI_1, atI_2, pp_ii, ps_ii, pa_ii, plt_ii, ple_ii, pgt_ii, pge_ii, peq_ii, pne_ii, pneg_i, List.length_cons, List.length_nil, Nat.reduceAdd, Nat.reduceSub, Nat.reduceLeDiff, sz, if_true, Bool.false_eq_true, if_false, Bool.not_true, Bool.not_false, leave_v, List.take_length, plen_t, plen_l, ptup_l, ptup_t, pint_i, pis_n, pis_i, pis_t, pisnt_n, pisnt_i, pisnt_t, Int.cast_ofNat_Int, ne_eq, not_true_eq_false, not_false_eq_true, decide_true, decide_false, tt, tk]
  rfl
end
end L34

set_option Elab.async false
set_option linter.all false
set_option maxRecDepth 100000
namespace L34
open PySem PySem.Spec PyProof.Rows L2 Ev Qa Cut
theorem le_sum : ∀ (l : List Nat) (i : Nat), l.getD i 0 ≤ l.sum
  | [], i => by simp
  | a :: l, 0 => by
    rw [List.sum_cons]
    show a ≤ _
    omega
  | a :: l, i + 1 => by
    have := le_sum l i
    rw [List.sum_cons]
    show l.getD i 0 ≤ _
    omega
section
variable {v : List Nat} {k s : Nat} {m0 : M}
theorem quo {v row : List Nat} {i j : Nat} {m : M} (V : Vt v) (hi : i < v.length) (hr : row.sum ≤ 100) (hs : s ≤ 2) : v.getD i 0 < 1000000000000000000 ∧ s * row.getD j 0 < 1000000000 ∧ s < 100 ∧ row.getD j 0 < 1000000 := by
  obtain ⟨g1, g2, g3⟩ := V.at_ hi
  have := le_sum row j
  have h2 : s * row.getD j 0 ≤ 2 * row.getD j 0 := Nat.mul_le_mul_right _ hs
  omega
theorem dl1 (V : Vt v) (hs : s ≤ 2) {row : List Nat} (hr : row.sum ≤ 100) (hl : row.length = v.length) {e1 e4 : Option R} : ∀ (l : List Nat) (b : Nat) (e6 : Option R), (∀ i ∈ l, i < v.length) → b < v.length →
    ∃ e6', loopL (gNm 6) l__law_divisors1 (encI l) [some (.val (encT v)), e1, some (.val (.int (s : Nat))), some (.ref m0.length), e4, some (.val (.int (b : Nat))), e6] (m0 ++ [.lst (encI row)]) =
      some (.nx [some (.val (encT v)), e1, some (.val (.int (s : Nat))), some (.ref m0.length), e4, some (.val (.int (bst s v row l b : Nat))), e6'] (m0 ++ [.lst (encI row)]))
  | [], b, e6, _, _ => ⟨e6, rfl⟩
  | i :: l, b, e6, h, hb => by
    have hi : i < v.length := h i (by simp)
    obtain ⟨a1, a2, a3, a4⟩ := quo (j := b) (m := m0) V hi hr hs
    obtain ⟨b1, b2, b3, b4⟩ := quo (j := i) (m := m0) V hb hr hs
    have r1 := pix_rN (m := m0 ++ [.lst (encI row)]) (get_L m0 _) (getD_some (l := row) (i := b) (by omega))
    have r2 := pix_rN (m := m0 ++ [.lst (encI row)]) (get_L m0 _) (getD_some (l := row) (i := i) (by omega))
    have m1 := pmN (a := s) (b := row.getD b 0) (m := m0 ++ [.lst (encI row)]) (by omega) (by omega)
    have m2 := pmN (a := s) (b := row.getD i 0) (m := m0 ++ [.lst (encI row)]) (by omega) (by omega)
    have p1 : (1 : Int) + ((s * row.getD b 0 : Nat) : Int) = ((s * row.getD b 0 + 1 : Nat) : Int) := by push_cast; omega
    have p2 : (1 : Int) + ((s * row.getD i 0 : Nat) : Int) = ((s * row.getD i 0 + 1 : Nat) : Int) := by push_cast; omega
    have m3 := pmN (a := v.getD i 0) (b := s * row.getD b 0 + 1) (m := m0 ++ [.lst (encI row)]) a1 (by omega)
    have m4 := pmN (a := v.getD b 0) (b := s * row.getD i 0 + 1) (m := m0 ++ [.lst (encI row)]) b1 (by omega)
    have es : encI (i :: l) = .int (i : Nat) :: encI l := rfl
    have t1 := pix_T (m := m0 ++ [.lst (encI row)]) (V.at_ hi).1
    have t2 := pix_T (m := m0 ++ [.lst (encI row)]) (V.at_ hb).1
    by_cases hlt : v.getD b 0 * (s * row.getD i 0 + 1) < v.getD i 0 * (s * row.getD b 0 + 1)
    · have hlt' : ((v.getD b 0 * (s * row.getD i 0 + 1) : Nat) : Int) < ((v.getD i 0 * (s * row.getD b 0 + 1) : Nat) : Int) := by omega
      obtain ⟨e6', ih⟩ := dl1 V hs hr hl (e1 := e1) (e4 := e4) l i (some (.val (.int (i : Nat)))) (fun j hj => h j (List.mem_cons_of_mem _ hj)) hi
      refine ⟨e6', ?_⟩
      rw [es, step_nx (env1 := [some (.val (encT v)), e1, some (.val (.int (s : Nat))), some (.ref m0.length), e4, some (.val (.int (b : Nat))), some (.val (.int (i : Nat)))]) (m1 := m0 ++ [.lst (encI row)])
        (env2 := [some (.val (encT v)), e1, some (.val (.int (s : Nat))), some (.ref m0.length), e4, some (.val (.int (i : Nat))), some (.val (.int (i : Nat)))]) (m2 := m0 ++ [.lst (encI row)]) rfl
        (by simp only [l__law_divisors1, ev_asg, ev_par, ev_if, ev_ret, ev_retN, ev_expr, ev_bin, ev_un, ev_ap, ev_cons, ev_nil, ev_varS, ev_var0, ev_c, ob_some, ev_gNm, ev_tOf, ev_asB, ev_asI, ev_tNot, ev_tAnd, ev_tOr, ev_eOf, ev_eIf, ev_chain, List.set_cons_succ, List.set_cons_zero, ev_then_nx, ev_then_rt, ev_next, ev_pTup, ev_valsC, ev_vals0, ev_eL, ev_bm, ev_aug, pix_t, pix_l, pixq0, pixq1, atI_0, atI_1, atI_2, pp_ii, ps_ii, pa_ii, plt_ii, ple_ii, pgt_ii, pge_ii, peq_ii, pne_ii, pneg_i, List.length_cons, List.length_nil, Nat.reduceAdd, Nat.reduceSub, Nat.reduceLeDiff, sz, if_true, Bool.false_eq_true, if_false, Bool.not_true, Bool.not_false, leave_v, List.take_length, plen_t, plen_l, ptup_l, ptup_t, pint_i, pis_n, pis_i, pis_t, pisnt_n, pisnt_i, pisnt_t, Int.cast_ofNat_Int, ne_eq, not_true_eq_false, not_false_eq_true, decide_true, decide_false, t1, t2, r1, r2, m1, m2, p1, p2, m3, m4, hlt']), ih]
      rw [bst, if_pos hlt]
    · have hlt' : ¬ ((v.getD b 0 * (s * row.getD i 0 + 1) : Nat) : Int) < ((v.getD i 0 * (s * row.getD b 0 + 1) : Nat) : Int) := by omega
      obtain ⟨e6', ih⟩ := dl1 V hs hr hl (e1 := e1) (e4 := e4) l b (some (.val (.int (i : Nat)))) (fun j hj => h j (List.mem_cons_of_mem _ hj)) hb
      refine ⟨e6', ?_⟩
      rw [es, step_nx (env1 := [some (.val (encT v)), e1, some (.val (.int (s : Nat))), some (.ref m0.length), e4, some (.val (.int (b : Nat))), some (.val (.int (i : Nat)))]) (m1 := m0 ++ [.lst (encI row)])
        (env2 := [some (.val (encT v)), e1, some (.val (.int (s : Nat))), some (.ref m0.length), e4, some (.val (.int (b : Nat))), some (.val (.int (i : Nat)))]) (m2 := m0 ++ [.lst (encI row)]) rfl
        (by simp only [l__law_divisors1, ev_asg, ev_par, ev_if, ev_ret, ev_retN, ev_expr, ev_bin, ev_un, ev_ap, ev_cons, ev_nil, ev_varS, ev_var0, ev_c, ob_some, ev_gNm, ev_tOf, ev_asB, ev_asI, ev_tNot, ev_tAnd, ev_tOr, ev_eOf, ev_eIf, ev_chain, List.set_cons_succ, List.set_cons_zero, ev_then_nx, ev_then_rt, ev_next, ev_pTup, ev_valsC, ev_vals0, ev_eL, ev_bm, ev_aug, pix_t, pix_l, pixq0, pixq1, atI_0, atI_1, atI_2, pp_ii, ps_ii, pa_ii, plt_ii, ple_ii, pgt_ii, pge_ii, peq_ii, pne_ii, pneg_i, List.length_cons, List.length_nil, Nat.reduceAdd, Nat.reduceSub, Nat.reduceLeDiff, sz, if_true, Bool.false_eq_true, if_false, Bool.not_true, Bool.not_false, leave_v, List.take_length, plen_t, plen_l, ptup_l, ptup_t, pint_i, pis_n, pis_i, pis_t, pisnt_n, pisnt_i, pisnt_t, Int.cast_ofNat_Int, ne_eq, not_true_eq_false, not_false_eq_true, decide_true, decide_false, t1, t2, r1, r2, m1, m2, p1, p2, m3, m4, hlt']), ih]
      rw [bst, if_neg hlt]
/-- the program's -/
theorem dp1 (V : Vt v) (hs : s ≤ 2) {row : List Nat} (hr : row.sum ≤ 100) (hl : row.length = v.length) {e1 e4 : Option R} : ∀ (l : List Nat) (b : Nat) (e6 : Option R), (∀ i ∈ l, i < v.length) → b < v.length →
    ∃ e6', loopL (gNm 6) l_by_divisors1 (encI l) [some (.val (encT v)), e1, some (.val (.int (s : Nat))), some (.ref m0.length), e4, some (.val (.int (b : Nat))), e6] (m0 ++ [.lst (encI row)]) =
      some (.nx [some (.val (encT v)), e1, some (.val (.int (s : Nat))), some (.ref m0.length), e4, some (.val (.int (bst s v row l b : Nat))), e6'] (m0 ++ [.lst (encI row)]))
  | [], b, e6, _, _ => ⟨e6, rfl⟩
  | i :: l, b, e6, h, hb => by
    have hi : i < v.length := h i (by simp)
    obtain ⟨a1, a2, a3, a4⟩ := quo (j := b) (m := m0) V hi hr hs
    obtain ⟨b1, b2, b3, b4⟩ := quo (j := i) (m := m0) V hb hr hs
    have r1 := pix_rN (m := m0 ++ [.lst (encI row)]) (get_L m0 _) (getD_some (l := row) (i := b) (by omega))
    have r2 := pix_rN (m := m0 ++ [.lst (encI row)]) (get_L m0 _) (getD_some (l := row) (i := i) (by omega))
    have m1 := pmN (a := s) (b := row.getD b 0) (m := m0 ++ [.lst (encI row)]) (by omega) (by omega)
    have m2 := pmN (a := s) (b := row.getD i 0) (m := m0 ++ [.lst (encI row)]) (by omega) (by omega)
    have p1 : ((s * row.getD b 0 : Nat) : Int) + (1 : Int) = ((s * row.getD b 0 + 1 : Nat) : Int) := by push_cast; rfl
    have p2 : ((s * row.getD i 0 : Nat) : Int) + (1 : Int) = ((s * row.getD i 0 + 1 : Nat) : Int) := by push_cast; rfl
    have m3 := pmN (a := v.getD i 0) (b := s * row.getD b 0 + 1) (m := m0 ++ [.lst (encI row)]) a1 (by omega)
    have m4 := pmN (a := v.getD b 0) (b := s * row.getD i 0 + 1) (m := m0 ++ [.lst (encI row)]) b1 (by omega)
    have es : encI (i :: l) = .int (i : Nat) :: encI l := rfl
    have t1 := pix_T (m := m0 ++ [.lst (encI row)]) (V.at_ hi).1
    have t2 := pix_T (m := m0 ++ [.lst (encI row)]) (V.at_ hb).1
    by_cases hlt : v.getD b 0 * (s * row.getD i 0 + 1) < v.getD i 0 * (s * row.getD b 0 + 1)
    · have hlt' : ((v.getD b 0 * (s * row.getD i 0 + 1) : Nat) : Int) < ((v.getD i 0 * (s * row.getD b 0 + 1) : Nat) : Int) := by omega
      obtain ⟨e6', ih⟩ := dp1 V hs hr hl (e1 := e1) (e4 := e4) l i (some (.val (.int (i : Nat)))) (fun j hj => h j (List.mem_cons_of_mem _ hj)) hi
      refine ⟨e6', ?_⟩
      rw [es, step_nx (env1 := [some (.val (encT v)), e1, some (.val (.int (s : Nat))), some (.ref m0.length), e4, some (.val (.int (b : Nat))), some (.val (.int (i : Nat)))]) (m1 := m0 ++ [.lst (encI row)])
        (env2 := [some (.val (encT v)), e1, some (.val (.int (s : Nat))), some (.ref m0.length), e4, some (.val (.int (i : Nat))), some (.val (.int (i : Nat)))]) (m2 := m0 ++ [.lst (encI row)]) rfl
        (by simp only [l_by_divisors1, ev_asg, ev_par, ev_if, ev_ret, ev_retN, ev_expr, ev_bin, ev_un, ev_ap, ev_cons, ev_nil, ev_varS, ev_var0, ev_c, ob_some, ev_gNm, ev_tOf, ev_asB, ev_asI, ev_tNot, ev_tAnd, ev_tOr, ev_eOf, ev_eIf, ev_chain, List.set_cons_succ, List.set_cons_zero, ev_then_nx, ev_then_rt, ev_next, ev_pTup, ev_valsC, ev_vals0, ev_eL, ev_bm, ev_aug, pix_t, pix_l, pixq0, pixq1, atI_0, atI_1, atI_2, pp_ii, ps_ii, pa_ii, plt_ii, ple_ii, pgt_ii, pge_ii, peq_ii, pne_ii, pneg_i, List.length_cons, List.length_nil, Nat.reduceAdd, Nat.reduceSub, Nat.reduceLeDiff, sz, if_true, Bool.false_eq_true, if_false, Bool.not_true, Bool.not_false, leave_v, List.take_length, plen_t, plen_l, ptup_l, ptup_t, pint_i, pis_n, pis_i, pis_t, pisnt_n, pisnt_i, pisnt_t, Int.cast_ofNat_Int, ne_eq, not_true_eq_false, not_false_eq_true, decide_true, decide_false, t1, t2, r1, r2, m1, m2, p1, p2, m3, m4, hlt']), ih]
      rw [bst, if_pos hlt]
    · have hlt' : ¬ ((v.getD b 0 * (s * row.getD i 0 + 1) : Nat) : Int) < ((v.getD i 0 * (s * row.getD b 0 + 1) : Nat) : Int) := by omega
      obtain ⟨e6', ih⟩ := dp1 V hs hr hl (e1 := e1) (e4 := e4) l b (some (.val (.int (i : Nat)))) (fun j hj => h j (List.mem_cons_of_mem _ hj)) hb
      refine ⟨e6', ?_⟩
      rw [es, step_nx (env1 := [some (.val (encT v)), e1, some (.val (.int (s : Nat))), some (.ref m0.length), e4, some (.val (.int (b : Nat))), some (.val (.int (i : Nat)))]) (m1 := m0 ++ [.lst (encI row)])
        (env2 := [some (.val (encT v)), e1, some (.val (.int (s : Nat))), some (.ref m0.length), e4, some (.val (.int (b : Nat))), some (.val (.int (i : Nat)))]) (m2 := m0 ++ [.lst (encI row)]) rfl
        (by simp only [l_by_divisors1, ev_asg, ev_par, ev_if, ev_ret, ev_retN, ev_expr, ev_bin, ev_un, ev_ap, ev_cons, ev_nil, ev_varS, ev_var0, ev_c, ob_some, ev_gNm, ev_tOf, ev_asB, ev_asI, ev_tNot, ev_tAnd, ev_tOr, ev_eOf, ev_eIf, ev_chain, List.set_cons_succ, List.set_cons_zero, ev_then_nx, ev_then_rt, ev_next, ev_pTup, ev_valsC, ev_vals0, ev_eL, ev_bm, ev_aug, pix_t, pix_l, pixq0, pixq1, atI_0, atI_1, atI_2, pp_ii, ps_ii, pa_ii, plt_ii, ple_ii, pgt_ii, pge_ii, peq_ii, pne_ii, pneg_i, List.length_cons, List.length_nil, Nat.reduceAdd, Nat.reduceSub, Nat.reduceLeDiff, sz, if_true, Bool.false_eq_true, if_false, Bool.not_true, Bool.not_false, leave_v, List.take_length, plen_t, plen_l, ptup_l, ptup_t, pint_i, pis_n, pis_i, pis_t, pisnt_n, pisnt_i, pisnt_t, Int.cast_ofNat_Int, ne_eq, not_true_eq_false, not_false_eq_true, decide_true, decide_false, t1, t2, r1, r2, m1, m2, p1, p2, m3, m4, hlt']), ih]
      rw [bst, if_neg hlt]
theorem range_enc2 (n : Nat) : (List.range n).map (fun j : Nat => PyData.int j) = encI (List.range n) := rfl
theorem dl2 (V : Vt v) (hs : s ≤ 2) {e1 : Option R} : ∀ (l : List D) (k : Nat) (e4 e5 e6 : Option R), k + l.length ≤ 100 →
    ∃ e4' e5' e6', loopL (gNm 4) l__law_divisors2 l [some (.val (encT v)), e1, some (.val (.int (s : Nat))), some (.ref m0.length), e4, e5, e6] (m0 ++ [.lst (encI (divs s v k))]) =
      some (.nx [some (.val (encT v)), e1, some (.val (.int (s : Nat))), some (.ref m0.length), e4', e5', e6'] (m0 ++ [.lst (encI (divs s v (k + l.length)))]))
  | [], k, e4, e5, e6, _ => ⟨e4, e5, e6, rfl⟩
  | d :: l, k, e4, e5, e6, h => by
    rw [List.length_cons] at h
    have hv : 0 < v.length := V.ne
    have I := divs_ok (s := s) hv k
    have hb := bst_lt (s := s) (row := divs s v k) hv
    obtain ⟨e6', h1⟩ := dl1 (m0 := m0) (s := s) V hs (row := divs s v k) (by rw [I.sum]; omega) I.len (e1 := e1) (e4 := some (.val d)) (List.range v.length) 0 e6 (fun i hi => List.mem_range.mp hi) hv
    have hbr : bst s v (divs s v k) (List.range v.length) 0 < (divs s v k).length := by rw [I.len]; exact hb
    have r1 := pix_rN (m := m0 ++ [.lst (encI (divs s v k))]) (get_L m0 _) (getD_some hbr)
    have r2 := pset_rN (m := m0 ++ [.lst (encI (divs s v k))]) (a := (divs s v k).getD (bst s v (divs s v k) (List.range v.length) 0) 0 + 1) (get_L m0 _) hbr
    rw [set_L] at r2
    have p1 : (((divs s v k).getD (bst s v (divs s v k) (List.range v.length) 0) 0 : Nat) : Int) + (1 : Int) = (((divs s v k).getD (bst s v (divs s v k) (List.range v.length) 0) 0 + 1 : Nat) : Int) := by push_cast; rfl
    have rg := rg1_nat (m := m0 ++ [.lst (encI (divs s v k))]) (n := v.length) (by have := V.len; omega)
    rw [range_enc2] at rg
    have z0 : ((0 : Nat) : Int) = 0 := rfl
    rw [z0] at h1
    obtain ⟨e4', e5', e6'', ih⟩ := dl2 V hs (e1 := e1) l (k + 1) (some (.val d)) (some (.val (.int (bst s v (divs s v k) (List.range v.length) 0 : Nat)))) e6' (by omega)
    refine ⟨e4', e5', e6'', ?_⟩
    have hb2 : l__law_divisors2 [some (.val (encT v)), e1, some (.val (.int (s : Nat))), some (.ref m0.length), some (.val d), e5, e6] (m0 ++ [.lst (encI (divs s v k))]) =
        some (.nx [some (.val (encT v)), e1, some (.val (.int (s : Nat))), some (.ref m0.length), some (.val d), some (.val (.int (bst s v (divs s v k) (List.range v.length) 0 : Nat))), e6'] (m0 ++ [.lst (encI (divs s v (k + 1)))])) := by
      simp only [l__law_divisors2]
      rw [ev_seq]
      simp only [ev_asg, ev_par, ev_if, ev_ret, ev_retN, ev_expr, ev_bin, ev_un, ev_ap, ev_cons, ev_nil, ev_varS, ev_var0, ev_c, ob_some, ev_gNm, ev_tOf, ev_asB, ev_asI, ev_tNot, ev_tAnd, ev_tOr, ev_eOf, ev_eIf, ev_chain, List.set_cons_succ, List.set_cons_zero, ev_then_nx, ev_then_rt, ev_next, ev_pTup, ev_valsC, ev_vals0, ev_eL, ev_bm, ev_aug, pix_t, pix_l, pixq0, pixq1, atI_0, atI_1, atI_2, pp_ii, ps_ii, pa_ii, plt_ii, ple_ii, pgt_ii, pge_ii, peq_ii, pne_ii, pneg_i, List.length_cons, List.length_nil, Nat.reduceAdd, Nat.reduceSub, Nat.reduceLeDiff, sz, if_true, Bool.false_eq_true, if_false, Bool.not_true, Bool.not_false, leave_v, List.take_length, plen_t, plen_l, ptup_l, ptup_t, pint_i, pis_n, pis_i, pis_t, pisnt_n, pisnt_i, pisnt_t, Int.cast_ofNat_Int, ne_eq, not_true_eq_false, not_false_eq_true, decide_true, decide_false]
      rw [ev_seq]
      simp only [ev_for, it_rg1, ev_asg, ev_par, ev_if, ev_ret, ev_retN, ev_expr, ev_bin, ev_un, ev_ap, ev_cons, ev_nil, ev_varS, ev_var0, ev_c, ob_some, ev_gNm, ev_tOf, ev_asB, ev_asI, ev_tNot, ev_tAnd, ev_tOr, ev_eOf, ev_eIf, ev_chain, List.set_cons_succ, List.set_cons_zero, ev_then_nx, ev_then_rt, ev_next, ev_pTup, ev_valsC, ev_vals0, ev_eL, ev_bm, ev_aug, pix_t, pix_l, pixq0, pixq1, atI_0, atI_1, atI_2, pp_ii, ps_ii, pa_ii, plt_ii, ple_ii, pgt_ii, pge_ii, peq_ii, pne_ii, pneg_i, List.length_cons, List.length_nil, Nat.reduceAdd, Nat.reduceSub, Nat.reduceLeDiff, sz, if_true, Bool.false_eq_true, if_false, Bool.not_true, Bool.not_false, leave_v, List.take_length, plen_t, plen_l, ptup_l, ptup_t, pint_i, pis_n, pis_i, pis_t, pisnt_n, pisnt_i, pisnt_t, Int.cast_ofNat_Int, ne_eq, not_true_eq_false, not_false_eq_true, decide_true, decide_false, plen_T, rg, run_iL, h1, r1, p1, ev_sub, r2]
      rfl
    have hg : gNm 4 (.val d) [some (.val (encT v)), e1, some (.val (.int (s : Nat))), some (.ref m0.length), e4, e5, e6] (m0 ++ [.lst (encI (divs s v k))]) = some ([some (.val (encT v)), e1, some (.val (.int (s : Nat))), some (.ref m0.length), some (.val d), e5, e6], m0 ++ [.lst (encI (divs s v k))]) := by rw [ev_gNm]; rfl
    rw [step_nx hg hb2, ih, List.length_cons, show k + 1 + l.length = k + (l.length + 1) by omega]
theorem bst_skip {row : List Nat} (hv : 0 < v.length) : bst s v row (List.range v.length) 0 = bst s v row (List.range' 1 (v.length - 1)) 0 := by
  have e : List.range v.length = 0 :: List.range' 1 (v.length - 1) := by
    obtain ⟨n, hn⟩ : ∃ n, v.length = n + 1 := ⟨v.length - 1, by omega⟩
    rw [hn, List.range_eq_range', List.range'_succ]
    rfl
  rw [e, bst, if_neg (Nat.lt_irrefl _)]
theorem dp2 (V : Vt v) (hs : s ≤ 2) {e1 : Option R} : ∀ (l : List D) (k : Nat) (e4 e5 e6 : Option R), k + l.length ≤ 100 →
    ∃ e4' e5' e6', loopL (gNm 4) l_by_divisors2 l [some (.val (encT v)), e1, some (.val (.int (s : Nat))), some (.ref m0.length), e4, e5, e6] (m0 ++ [.lst (encI (divs s v k))]) =
      some (.nx [some (.val (encT v)), e1, some (.val (.int (s : Nat))), some (.ref m0.length), e4', e5', e6'] (m0 ++ [.lst (encI (divs s v (k + l.length)))]))
  | [], k, e4, e5, e6, _ => ⟨e4, e5, e6, rfl⟩
  | d :: l, k, e4, e5, e6, h => by
    rw [List.length_cons] at h
    have hv : 0 < v.length := V.ne
    have I := divs_ok (s := s) hv k
    have hb := bst_lt (s := s) (row := divs s v k) hv
    obtain ⟨e6', h1⟩ := dp1 (m0 := m0) (s := s) V hs (row := divs s v k) (by rw [I.sum]; omega) I.len (e1 := e1) (e4 := some (.val d)) (List.range' 1 (v.length - 1)) 0 e6 (fun i hi => by
      rw [List.mem_range'_1] at hi
      omega) hv
    rw [← bst_skip hv] at h1
    have hbr : bst s v (divs s v k) (List.range v.length) 0 < (divs s v k).length := by rw [I.len]; exact hb
    have r1 := pix_rN (m := m0 ++ [.lst (encI (divs s v k))]) (get_L m0 _) (getD_some hbr)
    have r2 := pset_rN (m := m0 ++ [.lst (encI (divs s v k))]) (a := (divs s v k).getD (bst s v (divs s v k) (List.range v.length) 0) 0 + 1) (get_L m0 _) hbr
    rw [set_L] at r2
    have p1 : (((divs s v k).getD (bst s v (divs s v k) (List.range v.length) 0) 0 + 1 : Nat) : Int) = (((divs s v k).getD (bst s v (divs s v k) (List.range v.length) 0) 0 : Nat) : Int) + (1 : Int) := by push_cast; rfl
    rw [p1] at r2
    have rg := rg2_nat (m := m0 ++ [.lst (encI (divs s v k))]) (a := 1) (b := v.length) (i := 1) (j := (v.length : Nat)) rfl rfl (by decide) (by have := V.len; omega)
    have rg' : rg2 [.val (.int 1), .val (.int ((v.length : Nat) : Int))] (m0 ++ [.lst (encI (divs s v k))]) = iL (encI (List.range' 1 (v.length - 1))) (m0 ++ [.lst (encI (divs s v k))]) := rg
    have z0 : ((0 : Nat) : Int) = 0 := rfl
    rw [z0] at h1
    obtain ⟨e4', e5', e6'', ih⟩ := dp2 V hs (e1 := e1) l (k + 1) (some (.val d)) (some (.val (.int (bst s v (divs s v k) (List.range v.length) 0 : Nat)))) e6' (by omega)
    refine ⟨e4', e5', e6'', ?_⟩
    have hb2 : l_by_divisors2 [some (.val (encT v)), e1, some (.val (.int (s : Nat))), some (.ref m0.length), some (.val d), e5, e6] (m0 ++ [.lst (encI (divs s v k))]) =
        some (.nx [some (.val (encT v)), e1, some (.val (.int (s : Nat))), some (.ref m0.length), some (.val d), some (.val (.int (bst s v (divs s v k) (List.range v.length) 0 : Nat))), e6'] (m0 ++ [.lst (encI (divs s v (k + 1)))])) := by
      simp only [l_by_divisors2]
      rw [ev_seq]
      simp only [ev_asg, ev_par, ev_if, ev_ret, ev_retN, ev_expr, ev_bin, ev_un, ev_ap, ev_cons, ev_nil, ev_varS, ev_var0, ev_c, ob_some, ev_gNm, ev_tOf, ev_asB, ev_asI, ev_tNot, ev_tAnd, ev_tOr, ev_eOf, ev_eIf, ev_chain, List.set_cons_succ, List.set_cons_zero, ev_then_nx, ev_then_rt, ev_next, ev_pTup, ev_valsC, ev_vals0, ev_eL, ev_bm, ev_aug, pix_t, pix_l, pixq0, pixq1, atI_0, atI_1, atI_2, pp_ii, ps_ii, pa_ii, plt_ii, ple_ii, pgt_ii, pge_ii, peq_ii, pne_ii, pneg_i, List.length_cons, List.length_nil, Nat.reduceAdd, Nat.reduceSub, Nat.reduceLeDiff, sz, if_true, Bool.false_eq_true, if_false, Bool.not_true, Bool.not_false, leave_v, List.take_length, plen_t, plen_l, ptup_l, ptup_t, pint_i, pis_n, pis_i, pis_t, pisnt_n, pisnt_i, pisnt_t, Int.cast_ofNat_Int, ne_eq, not_true_eq_false, not_false_eq_true, decide_true, decide_false]
      rw [ev_seq]
      simp only [ev_for, it_rg2, ev_asg, ev_par, ev_if, ev_ret, ev_retN, ev_expr, ev_bin, ev_un, ev_ap, ev_cons, ev_nil, ev_varS, ev_var0, ev_c, ob_some, ev_gNm, ev_tOf, ev_asB, ev_asI, ev_tNot, ev_tAnd, ev_tOr, ev_eOf, ev_eIf, ev_chain, List.set_cons_succ, List.set_cons_zero, ev_then_nx, ev_then_rt, ev_next, ev_pTup, ev_valsC, ev_vals0, ev_eL, ev_bm, ev_aug, pix_t, pix_l, pixq0, pixq1, atI_0, atI_1, atI_2, pp_ii, ps_ii, pa_ii, plt_ii, ple_ii, pgt_ii, pge_ii, peq_ii, pne_ii, pneg_i, List.length_cons, List.length_nil, Nat.reduceAdd, Nat.reduceSub, Nat.reduceLeDiff, sz, if_true, Bool.false_eq_true, if_false, Bool.not_true, Bool.not_false, leave_v, List.take_length, plen_t, plen_l, ptup_l, ptup_t, pint_i, pis_n, pis_i, pis_t, pisnt_n, pisnt_i, pisnt_t, Int.cast_ofNat_Int, ne_eq, not_true_eq_false, not_false_eq_true, decide_true, decide_false, plen_T, rg', run_iL, h1, ev_augS, r1, r2]
      rfl
    have hg : gNm 4 (.val d) [some (.val (encT v)), e1, some (.val (.int (s : Nat))), some (.ref m0.length), e4, e5, e6] (m0 ++ [.lst (encI (divs s v k))]) = some ([some (.val (encT v)), e1, some (.val (.int (s : Nat))), some (.ref m0.length), some (.val d), e5, e6], m0 ++ [.lst (encI (divs s v k))]) := by rw [ev_gNm]; rfl
    rw [step_nx hg hb2, ih, List.length_cons, show k + 1 + l.length = k + (l.length + 1) by omega]
theorem law_div_ok (V : Vt v) (hs : s ≤ 2) (hk : k ≤ 100) : m__law_divisors [.val (encT v), .val (.int (k : Nat)), .val (.int (s : Nat))] m0 = some (.val (.list (encI (divs s v k))), m0) := by
  have hl8 := V.len
  obtain ⟨e4', e5', e6', h⟩ := dl2 (m0 := m0) (s := s) V hs (e1 := some (.val (.int (k : Nat)))) (encI (List.range k)) 0 none none none (by rw [encI_len, List.length_range]; omega)
  rw [encI_len, List.length_range, Nat.zero_add] at h
  have z : divs s v 0 = List.replicate v.length 0 := rfl
  rw [z] at h
  have rg := rg1_nat (m := m0 ++ [.lst (encI (List.replicate v.length 0))]) (n := k) (by omega)
  rw [range_enc2] at rg
  have rz := rp_zeros (n := v.length) (m := m0) (by omega)
  have lv : leave m0.length (.ref m0.length) (m0 ++ [.lst (encI (divs s v k))]) = some (.val (.list (encI (divs s v k))), m0) := by
    unfold leave
    simp only [Nat.lt_irrefl, if_false, get_L]
    simp
  simp only [m__law_divisors, bodyF, List.length_cons, List.length_nil, Nat.reduceAdd, Nat.reduceSub, List.map_cons, List.map_nil, List.replicate, List.cons_append, List.nil_append, List.append_nil, b__law_divisors]
  rw [ev_seq]
  simp only [ev_asg, ev_par, ev_if, ev_ret, ev_retN, ev_expr, ev_bin, ev_un, ev_ap, ev_cons, ev_nil, ev_varS, ev_var0, ev_c, ob_some, ev_gNm, ev_tOf, ev_asB, ev_asI, ev_tNot, ev_tAnd, ev_tOr, ev_eOf, ev_eIf, ev_chain, List.set_cons_succ, List.set_cons_zero, ev_then_nx, ev_then_rt, ev_next, ev_pTup, ev_valsC, ev_vals0, ev_eL, ev_bm, ev_aug, pix_t, pix_l, pixq0, pixq1, atI_0, atI_1, atI_2, pp_ii, ps_ii, pa_ii, plt_ii, ple_ii, pgt_ii, pge_ii, peq_ii, pne_ii, pneg_i, List.length_cons, List.length_nil, Nat.reduceAdd, Nat.reduceSub, Nat.reduceLeDiff, sz, if_true, Bool.false_eq_true, if_false, Bool.not_true, Bool.not_false, leave_v, List.take_length, plen_t, plen_l, ptup_l, ptup_t, pint_i, pis_n, pis_i, pis_t, pisnt_n, pisnt_i, pisnt_t, Int.cast_ofNat_Int, ne_eq, not_true_eq_false, not_false_eq_true, decide_true, decide_false, ev_eNew, ev_rep, ev_nLst, plen_T, rz]
  rw [ev_seq]
  simp only [ev_for, it_rg1, ev_asg, ev_par, ev_if, ev_ret, ev_retN, ev_expr, ev_bin, ev_un, ev_ap, ev_cons, ev_nil, ev_varS, ev_var0, ev_c, ob_some, ev_gNm, ev_tOf, ev_asB, ev_asI, ev_tNot, ev_tAnd, ev_tOr, ev_eOf, ev_eIf, ev_chain, List.set_cons_succ, List.set_cons_zero, ev_then_nx, ev_then_rt, ev_next, ev_pTup, ev_valsC, ev_vals0, ev_eL, ev_bm, ev_aug, pix_t, pix_l, pixq0, pixq1, atI_0, atI_1, atI_2, pp_ii, ps_ii, pa_ii, plt_ii, ple_ii, pgt_ii, pge_ii, peq_ii, pne_ii, pneg_i, List.length_cons, List.length_nil, Nat.reduceAdd, Nat.reduceSub, Nat.reduceLeDiff, sz, if_true, Bool.false_eq_true, if_false, Bool.not_true, Bool.not_false, leave_v, List.take_length, plen_t, plen_l, ptup_l, ptup_t, pint_i, pis_n, pis_i, pis_t, pisnt_n, pisnt_i, pisnt_t, Int.cast_ofNat_Int, ne_eq, not_true_eq_false, not_false_eq_true, decide_true, decide_false, rg, run_iL, h, lv]
theorem by_div_ok (V : Vt v) (hs1 : 1 ≤ s) (hs : s ≤ 2) (hk : k ≤ 60) : m_by_divisors [.val (encT v), .val (.int (k : Nat)), .val (.int (s : Nat))] m0 = some (.val (encT (divs s v k)), m0) := by
  have hl8 := V.len
  obtain ⟨e4', e5', e6', h⟩ := dp2 (m0 := m0) (s := s) V hs (e1 := some (.val (.int (k : Nat)))) (encI (List.range k)) 0 none none none (by rw [encI_len, List.length_range]; omega)
  rw [encI_len, List.length_range, Nat.zero_add] at h
  have z : divs s v 0 = List.replicate v.length 0 := rfl
  rw [z] at h
  have rg := rg1_nat (m := m0 ++ [.lst (encI (List.replicate v.length 0))]) (n := k) (by omega)
  rw [range_enc2] at rg
  have rz := rp_zeros (n := v.length) (m := m0) (by omega)
  have h1 : (1 : Int) ≤ (s : Int) ∧ (s : Int) ≤ 2 := by omega
  have tt := ptup_r (m := m0 ++ [.lst (encI (divs s v k))]) (get_L m0 _)
  have tk : (m0 ++ [Ob.lst (encI (divs s v k))]).take m0.length = m0 := by simp
  simp only [m_by_divisors, bodyF, List.length_cons, List.length_nil, Nat.reduceAdd, Nat.reduceSub, List.map_cons, List.map_nil, List.replicate, List.cons_append, List.nil_append, List.append_nil, b_by_divisors]
  rw [ev_seq]
  simp only [ev_asg, ev_par, ev_if, ev_ret, ev_retN, ev_expr, ev_bin, ev_un, ev_ap, ev_cons, ev_nil, ev_varS, ev_var0, ev_c, ob_some, ev_gNm, ev_tOf, ev_asB, ev_asI, ev_tNot, ev_tAnd, ev_tOr, ev_eOf, ev_eIf, ev_chain, List.set_cons_succ, List.set_cons_zero, ev_then_nx, ev_then_rt, ev_next, ev_pTup, ev_valsC, ev_vals0, ev_eL, ev_bm, ev_aug, pix_t, pix_l, pixq0, pixq1, atI_0, atI_1, atI_2, pp_ii, ps_ii, pa_ii, plt_ii, ple_ii, pgt_ii, pge_ii, peq_ii, pne_ii, pneg_i, List.length_cons, List.length_nil, Nat.reduceAdd, Nat.reduceSub, Nat.reduceLeDiff, sz, if_true, Bool.false_eq_true, if_false, Bool.not_true, Bool.not_false, leave_v, List.take_length, plen_t, plen_l, ptup_l, ptup_t, pint_i, pis_n, pis_i, pis_t, pisnt_n, pisnt_i, pisnt_t, Int.cast_ofNat_Int, ne_eq, not_true_eq_false, not_false_eq_true, decide_true, decide_false, check_votes_ok V hk]
  rw [ev_seq]
  simp only [ev_asg, ev_par, ev_if, ev_ret, ev_retN, ev_expr, ev_bin, ev_un, ev_ap, ev_cons, ev_nil, ev_varS, ev_var0, ev_c, ob_some, ev_gNm, ev_tOf, ev_asB, ev_asI, ev_tNot, ev_tAnd, ev_tOr, ev_eOf, ev_eIf, ev_chain, List.set_cons_succ, List.set_cons_zero, ev_then_nx, ev_then_rt, ev_next, ev_pTup, ev_valsC, ev_vals0, ev_eL, ev_bm, ev_aug, pix_t, pix_l, pixq0, pixq1, atI_0, atI_1, atI_2, pp_ii, ps_ii, pa_ii, plt_ii, ple_ii, pgt_ii, pge_ii, peq_ii, pne_ii, pneg_i, List.length_cons, List.length_nil, Nat.reduceAdd, Nat.reduceSub, Nat.reduceLeDiff, sz, if_true, Bool.false_eq_true, if_false, Bool.not_true, Bool.not_false, leave_v, List.take_length, plen_t, plen_l, ptup_l, ptup_t, pint_i, pis_n, pis_i, pis_t, pisnt_n, pisnt_i, pisnt_t, Int.cast_ofNat_Int, ne_eq, not_true_eq_false, not_false_eq_true, decide_true, decide_false, is_bet_i, h1, and_self]
  rw [ev_seq]
  simp only [ev_asg, ev_par, ev_if, ev_ret, ev_retN, ev_expr, ev_bin, ev_un, ev_ap, ev_cons, ev_nil, ev_varS, ev_var0, ev_c, ob_some, ev_gNm, ev_tOf, ev_asB, ev_asI, ev_tNot, ev_tAnd, ev_tOr, ev_eOf, ev_eIf, ev_chain, List.set_cons_succ, List.set_cons_zero, ev_then_nx, ev_then_rt, ev_next, ev_pTup, ev_valsC, ev_vals0, ev_eL, ev_bm, ev_aug, pix_t, pix_l, pixq0, pixq1, atI_0, atI_1, atI_2, pp_ii, ps_ii, pa_ii, plt_ii, ple_ii, pgt_ii, pge_ii, peq_ii, pne_ii, pneg_i, List.length_cons, List.length_nil, Nat.reduceAdd, Nat.reduceSub, Nat.reduceLeDiff, sz, if_true, Bool.false_eq_true, if_false, Bool.not_true, Bool.not_false, leave_v, List.take_length, plen_t, plen_l, ptup_l, ptup_t, pint_i, pis_n, pis_i, pis_t, pisnt_n, pisnt_i, pisnt_t, Int.cast_ofNat_Int, ne_eq, not_true_eq_false, not_false_eq_true, decide_true, decide_false, ev_eNew, ev_rep, ev_nLst, plen_T, rz]
  rw [ev_seq]
  simp only [ev_for, it_rg1, ev_asg, ev_par, ev_if, ev_ret, ev_retN, ev_expr, ev_bin, ev_un, ev_ap, ev_cons, ev_nil, ev_varS, ev_var0, ev_c, ob_some, ev_gNm, ev_tOf, ev_asB, ev_asI, ev_tNot, ev_tAnd, ev_tOr, ev_eOf, ev_eIf, ev_chain, List.set_cons_succ, List.set_cons_zero, ev_then_nx, ev_then_rt, ev_next, ev_pTup, ev_valsC, ev_vals0, ev_eL, ev_bm, ev_aug, pix_t, pix_l, pixq0, pixq1, atI_0, atI_1, atI_2, pp_ii, ps_ii, pa_ii, plt_ii, ple_ii, pgt_ii, pge_ii, peq_ii, pne_ii, pneg_i, List.length_cons, List.length_nil, Nat.reduceAdd, Nat.reduceSub, Nat.reduceLeDiff, sz, if_true, Bool.false_eq_true, if_false, Bool.not_true, Bool.not_false, leave_v, List.take_length, plen_t, plen_l, ptup_l, ptup_t, pint_i, pis_n, pis_i, pis_t, pisnt_n, pisnt_i, pisnt_t, Int.cast_ofNat_Int, ne_eq, not_true_eq_false, not_false_eq_true, decide_true, decide_false, rg, run_iL, h, tt, tk]
  rfl
end
end L34

set_option Elab.async false
set_option linter.all false
set_option maxRecDepth 100000
namespace L34
open PySem PySem.Spec PyProof.Rows L2 Ev Qa Cut
section
variable {m : M} {v : List Nat} {k : Nat} {m0 : M} {e4 e5 e6 e7 e8 e9 e10 e11 : Option R}
theorem votes_draw {rest : M} (hm : Bx rest m) {env : Sl} (he : ∀ (d : D) (m : M), eVar 0 (env.set 6 (some (.val d))) m = some (.ref 0, m)) (n : Nat) :
    ∃ r m', clpL (.nm 6) tTrue e__law_seats1 env ((List.range n).map fun j : Nat => PyData.int j) m = some (encI r, m') ∧ r.length = n ∧ (∀ a ∈ r, 1 ≤ a ∧ a < 41) ∧ Bx rest m' := by
  obtain ⟨ds, m', h1, h2, h3, h4⟩ := clpL_inv (p := .nm 6) (te := e__law_seats1) (env := env) (fun m => Bx rest m) (fun d => ∃ a : Nat, d = .int a ∧ 1 ≤ a ∧ a < 41) ((List.range n).map fun j : Nat => PyData.int j) m hm fun d _ m hm => by
    obtain ⟨a, m', g1, g2, g3⟩ := drawN hm (k := 40) (by decide) (by decide)
    have g1' : m__law_draw [.ref 0, .val (.int 40)] m = some (.val (.int (a : Int)), m') := g1
    have e1 : (1 : Int) + (a : Int) = ((1 + a : Nat) : Int) := by push_cast; rfl
    refine ⟨_, .int ((1 + a : Nat) : Int), m', rfl, ?_, ⟨1 + a, rfl, by omega, by omega⟩, g3⟩
    simp only [e__law_seats1, ev_asg, ev_par, ev_if, ev_ret, ev_retN, ev_expr, ev_bin, ev_un, ev_ap, ev_cons, ev_nil, ev_varS, ev_var0, ev_c, ob_some, ev_gNm, ev_tOf, ev_asB, ev_asI, ev_tNot, ev_tAnd, ev_tOr, ev_eOf, ev_eIf, ev_chain, List.set_cons_succ, List.set_cons_zero, ev_then_nx, ev_then_rt, ev_next, ev_pTup, ev_valsC, ev_vals0, ev_eL, ev_bm, ev_aug, pix_t, pix_l, pixq0, pixq1, atI_0, atI_1, atI_2, pp_ii, ps_ii, pa_ii, plt_ii, ple_ii, pgt_ii, pge_ii, peq_ii, pne_ii, pneg_i, List.length_cons, List.length_nil, Nat.reduceAdd, Nat.reduceSub, Nat.reduceLeDiff, sz, if_true, Bool.false_eq_true, if_false, Bool.not_true, Bool.not_false, leave_v, List.take_length, plen_t, plen_l, ptup_l, ptup_t, pint_i, pis_n, pis_i, pis_t, pisnt_n, pisnt_i, pisnt_t, Int.cast_ofNat_Int, ne_eq, not_true_eq_false, not_false_eq_true, decide_true, decide_false, he, g1', e1]
  obtain ⟨r, hr, h5⟩ : ∃ r : List Nat, ds = encI r ∧ ∀ a ∈ r, 1 ≤ a ∧ a < 41 := by
    clear h1 h2
    induction ds with
    | nil => exact ⟨[], rfl, fun a ha => by cases ha⟩
    | cons d ds ih =>
      obtain ⟨a, q1, q2⟩ := h3 d (by simp)
      obtain ⟨r, q3, q4⟩ := ih fun e he => h3 e (List.mem_cons_of_mem _ he)
      refine ⟨a :: r, by rw [q1, q3]; rfl, fun b hb => ?_⟩
      rcases List.mem_cons.mp hb with z | z
      · rw [z]; exact q2
      · exact q4 b z
  subst hr
  refine ⟨r, m', h1, ?_, h5, h4⟩
  rw [encI_len, List.length_map, List.length_range] at h2
  exact h2
theorem ladd_loop {n : Nat} : ∀ (l row : List Nat) (e6 : Option R), (∀ i ∈ l, i < n) → row.length = n →
    ∃ e6', loopL (gNm 6) l__law_seats5 (encI l) [some (.ref 0), some (.val (encT v)), some (.val (.int (k : Nat))), some (.val (.int (v.sum : Nat))), some (.ref m0.length), e5, e6, e7, e8, e9, e10, e11] (m0 ++ [.lst (encI row)]) = some (.nx [some (.ref 0), some (.val (encT v)), some (.val (.int (k : Nat))), some (.val (.int (v.sum : Nat))), some (.ref m0.length), e5, e6', e7, e8, e9, e10, e11] (m0 ++ [.lst (encI (addAll row l))]))
  | [], row, e6, _, _ => ⟨e6, rfl⟩
  | i :: l, row, e6, h, hl => by
    have hi : i < row.length := by rw [hl]; exact h i (by simp)
    obtain ⟨e6', ih⟩ := ladd_loop l (row.set i (row.getD i 0 + 1)) (some (.val (.int (i : Nat)))) (fun j hj => h j (List.mem_cons_of_mem _ hj)) (by rw [List.length_set]; exact hl)
    have h1 := pix_rN (m := m0 ++ [.lst (encI row)]) (get_L m0 _) (getD_some hi)
    have h2 := pset_rN (m := m0 ++ [.lst (encI row)]) (a := row.getD i 0 + 1) (get_L m0 _) hi
    rw [set_L] at h2
    have e3 : ((row.getD i 0 + 1 : Nat) : Int) = ((row.getD i 0 : Nat) : Int) + 1 := by push_cast; rfl
    rw [e3] at h2
    refine ⟨e6', ?_⟩
    have es : encI (i :: l) = .int (i : Nat) :: encI l := rfl
    rw [es, step_nx (env1 := [some (.ref 0), some (.val (encT v)), some (.val (.int (k : Nat))), some (.val (.int (v.sum : Nat))), some (.ref m0.length), e5, some (.val (.int (i : Nat))), e7, e8, e9, e10, e11]) (m1 := m0 ++ [.lst (encI row)]) (env2 := [some (.ref 0), some (.val (encT v)), some (.val (.int (k : Nat))), some (.val (.int (v.sum : Nat))), some (.ref m0.length), e5, some (.val (.int (i : Nat))), e7, e8, e9, e10, e11]) (m2 := m0 ++ [.lst (encI (row.set i (row.getD i 0 + 1)))]) rfl
      (by simp only [l__law_seats5, ev_sub, ev_asg, ev_par, ev_if, ev_ret, ev_retN, ev_expr, ev_bin, ev_un, ev_ap, ev_cons, ev_nil, ev_varS, ev_var0, ev_c, ob_some, ev_gNm, ev_tOf, ev_asB, ev_asI, ev_tNot, ev_tAnd, ev_tOr, ev_eOf, ev_eIf, ev_chain, List.set_cons_succ, List.set_cons_zero, ev_then_nx, ev_then_rt, ev_next, ev_pTup, ev_valsC, ev_vals0, ev_eL, ev_bm, ev_aug, pix_t, pix_l, pixq0, pixq1, atI_0, atI_1, atI_2, pp_ii, ps_ii, pa_ii, plt_ii, ple_ii, pgt_ii, pge_ii, peq_ii, pne_ii, pneg_i, List.length_cons, List.length_nil, Nat.reduceAdd, Nat.reduceSub, Nat.reduceLeDiff, sz, if_true, Bool.false_eq_true, if_false, Bool.not_true, Bool.not_false, leave_v, List.take_length, plen_t, plen_l, ptup_l, ptup_t, pint_i, pis_n, pis_i, pis_t, pisnt_n, pisnt_i, pisnt_t, Int.cast_ofNat_Int, ne_eq, not_true_eq_false, not_false_eq_true, decide_true, decide_false, h1, h2]), ih]
    rfl
/-- the row is between the shares -/
theorem between_loop (V : Vt v) (hk : k ≤ 60) (hm : m[1]? = some (.lst (encI (gRow v k)))) : ∀ (l : List Nat) (e6 : Option R), (∀ i ∈ l, i < v.length) →
    ∃ e6', loopL (gNm 6) l__law_seats6 (encI l) [some (.ref 0), some (.val (encT v)), some (.val (.int (k : Nat))), some (.val (.int (v.sum : Nat))), some (.ref 1), e5, e6, e7, e8, e9, e10, e11] m = some (.nx [some (.ref 0), some (.val (encT v)), some (.val (.int (k : Nat))), some (.val (.int (v.sum : Nat))), some (.ref 1), e5, e6', e7, e8, e9, e10, e11] m)
  | [], e6, _ => ⟨e6, rfl⟩
  | i :: l, e6, h => by
    have hi : i < v.length := h i (by simp)
    obtain ⟨s1, s2⟩ := V.sum
    obtain ⟨g1, g2, g3⟩ := V.at_ hi
    obtain ⟨b1, b2⟩ := gRow_bounds (k := k) s1 hi
    have r1 := pix_rN hm (getD_some (l := gRow v k) (i := i) (by rw [gRow_len]; exact hi))
    have hxk : v.getD i 0 * k ≤ 1000 * 60 := Nat.mul_le_mul g3 hk
    have m1 := pmN (a := v.getD i 0) (b := k) (m := m) (by omega) (by omega)
    have d1 := pdN (a := v.getD i 0 * k) (b := v.sum) (m := m) s1 (by omega)
    have e1 : ((v.getD i 0 * k : Nat) : Int) + ((v.sum : Nat) : Int) - 1 = ((v.getD i 0 * k + v.sum - 1 : Nat) : Int) := by omega
    have d2 := pdN (a := v.getD i 0 * k + v.sum - 1) (b := v.sum) (m := m) s1 (by omega)
    have c1 : ((v.getD i 0 * k / v.sum : Nat) : Int) ≤ (((gRow v k).getD i 0 : Nat) : Int) := by omega
    have c2 : (((gRow v k).getD i 0 : Nat) : Int) ≤ (((v.getD i 0 * k + v.sum - 1) / v.sum : Nat) : Int) := by omega
    obtain ⟨e6', ih⟩ := between_loop V hk hm l (some (.val (.int (i : Nat)))) (fun j hj => h j (List.mem_cons_of_mem _ hj))
    refine ⟨e6', ?_⟩
    have es : encI (i :: l) = .int (i : Nat) :: encI l := rfl
    rw [es, step_nx (env1 := [some (.ref 0), some (.val (encT v)), some (.val (.int (k : Nat))), some (.val (.int (v.sum : Nat))), some (.ref 1), e5, some (.val (.int (i : Nat))), e7, e8, e9, e10, e11]) (m1 := m) (env2 := [some (.ref 0), some (.val (encT v)), some (.val (.int (k : Nat))), some (.val (.int (v.sum : Nat))), some (.ref 1), e5, some (.val (.int (i : Nat))), e7, e8, e9, e10, e11]) (m2 := m) rfl
      (by simp only [l__law_seats6, ev_asg, ev_par, ev_if, ev_ret, ev_retN, ev_expr, ev_bin, ev_un, ev_ap, ev_cons, ev_nil, ev_varS, ev_var0, ev_c, ob_some, ev_gNm, ev_tOf, ev_asB, ev_asI, ev_tNot, ev_tAnd, ev_tOr, ev_eOf, ev_eIf, ev_chain, List.set_cons_succ, List.set_cons_zero, ev_then_nx, ev_then_rt, ev_next, ev_pTup, ev_valsC, ev_vals0, ev_eL, ev_bm, ev_aug, pix_t, pix_l, pixq0, pixq1, atI_0, atI_1, atI_2, pp_ii, ps_ii, pa_ii, plt_ii, ple_ii, pgt_ii, pge_ii, peq_ii, pne_ii, pneg_i, List.length_cons, List.length_nil, Nat.reduceAdd, Nat.reduceSub, Nat.reduceLeDiff, sz, if_true, Bool.false_eq_true, if_false, Bool.not_true, Bool.not_false, leave_v, List.take_length, plen_t, plen_l, ptup_l, ptup_t, pint_i, pis_n, pis_i, pis_t, pisnt_n, pisnt_i, pisnt_t, Int.cast_ofNat_Int, ne_eq, not_true_eq_false, not_false_eq_true, decide_true, decide_false, pix_T g1, m1, d1, r1, e1, d2, c1, c2]), ih]
theorem any_false {α : Type} {l : List α} {f : α → Bool} (h : ∀ a ∈ l, f a = false) : l.any f = false := by
  rw [List.any_eq_false]
  intro a ha
  rw [h a ha]
  exact Bool.false_ne_true
/-- what is asked of each house by divisors -/
theorem house_loop {s : Nat} (V : Vt v) (hk : k ≤ 60) (hs : s = 1 ∨ s = 2) : ∀ (l : List Nat) (e6 : Option R), (∀ i ∈ l, i < v.length) →
    ∃ e6', loopL (gNm 6) l__law_seats9 (encI l) [some (.ref 0), some (.val (encT v)), some (.val (.int (k : Nat))), some (.val (.int (v.sum : Nat))), e4, e5, e6, some (.val (.int (s : Nat))), some (.val (.list (encI (divs s v k)))), e9, e10, e11] m = some (.nx [some (.ref 0), some (.val (encT v)), some (.val (.int (k : Nat))), some (.val (.int (v.sum : Nat))), e4, e5, e6', some (.val (.int (s : Nat))), some (.val (.list (encI (divs s v k)))), e9, e10, e11] m)
  | [], e6, _ => ⟨e6, rfl⟩
  | i :: l, e6, h => by
    have hi : i < v.length := h i (by simp)
    have hv : 0 < v.length := V.ne
    have hv8 := V.len
    obtain ⟨s1, s2⟩ := V.sum
    obtain ⟨g1, g2, g3⟩ := V.at_ hi
    have I := divs_ok (s := s) hv k
    have hxk : v.getD i 0 * k ≤ 1000 * 60 := Nat.mul_le_mul g3 hk
    have m1 := pmN (a := v.getD i 0) (b := k) (m := m) (by omega) (by omega)
    have d1 := pdN (a := v.getD i 0 * k) (b := v.sum) (m := m) s1 (by omega)
    have ix : ∀ j, j < v.length → atI (encI (divs s v k)) ((j : Nat) : Int) = some (.int ((divs s v k).getD j 0 : Nat)) := fun j hj => at_nat (encI_get (getD_some (by rw [I.len]; exact hj)))
    have hc : ∀ e7, clpL (.nm 11) tTrue e__law_seats8 [some (.ref 0), some (.val (encT v)), some (.val (.int (k : Nat))), some (.val (.int (v.sum : Nat))), e4, e5, some (.val (.int (i : Nat))), e7, some (.val (.list (encI (divs s v k)))), e9, e10, none] (encI (List.range v.length)) m = some ((List.range v.length).map fun _ => PyData.bool false, m) := fun e7 =>
      clpL_all (fun j : Nat => PyData.int j) (fun _ => .bool false) (List.range v.length) fun j hj => ⟨_, rfl, by
        have hj' := List.mem_range.mp hj
        obtain ⟨q1, q2, q3⟩ := V.at_ hj'
        by_cases z : v.getD j 0 < v.getD i 0
        · have z' : ((v.getD j 0 : Nat) : Int) < ((v.getD i 0 : Nat) : Int) := by omega
          have nz := divs_votes (s := s) (k := k) hv hi hj' z
          have nz' : ¬ (((divs s v k).getD i 0 : Nat) : Int) < (((divs s v k).getD j 0 : Nat) : Int) := by omega
          simp only [e__law_seats8, ev_asg, ev_par, ev_if, ev_ret, ev_retN, ev_expr, ev_bin, ev_un, ev_ap, ev_cons, ev_nil, ev_varS, ev_var0, ev_c, ob_some, ev_gNm, ev_tOf, ev_asB, ev_asI, ev_tNot, ev_tAnd, ev_tOr, ev_eOf, ev_eIf, ev_chain, List.set_cons_succ, List.set_cons_zero, ev_then_nx, ev_then_rt, ev_next, ev_pTup, ev_valsC, ev_vals0, ev_eL, ev_bm, ev_aug, pix_t, pix_l, pixq0, pixq1, atI_0, atI_1, atI_2, pp_ii, ps_ii, pa_ii, plt_ii, ple_ii, pgt_ii, pge_ii, peq_ii, pne_ii, pneg_i, List.length_cons, List.length_nil, Nat.reduceAdd, Nat.reduceSub, Nat.reduceLeDiff, sz, if_true, Bool.false_eq_true, if_false, Bool.not_true, Bool.not_false, leave_v, List.take_length, plen_t, plen_l, ptup_l, ptup_t, pint_i, pis_n, pis_i, pis_t, pisnt_n, pisnt_i, pisnt_t, Int.cast_ofNat_Int, ne_eq, not_true_eq_false, not_false_eq_true, decide_true, decide_false, List.set, pix_T g1, pix_T q1, z', ix i hi, ix j hj', nz']
        · have z' : ¬ ((v.getD j 0 : Nat) : Int) < ((v.getD i 0 : Nat) : Int) := by omega
          simp only [e__law_seats8, ev_asg, ev_par, ev_if, ev_ret, ev_retN, ev_expr, ev_bin, ev_un, ev_ap, ev_cons, ev_nil, ev_varS, ev_var0, ev_c, ob_some, ev_gNm, ev_tOf, ev_asB, ev_asI, ev_tNot, ev_tAnd, ev_tOr, ev_eOf, ev_eIf, ev_chain, List.set_cons_succ, List.set_cons_zero, ev_then_nx, ev_then_rt, ev_next, ev_pTup, ev_valsC, ev_vals0, ev_eL, ev_bm, ev_aug, pix_t, pix_l, pixq0, pixq1, atI_0, atI_1, atI_2, pp_ii, ps_ii, pa_ii, plt_ii, ple_ii, pgt_ii, pge_ii, peq_ii, pne_ii, pneg_i, List.length_cons, List.length_nil, Nat.reduceAdd, Nat.reduceSub, Nat.reduceLeDiff, sz, if_true, Bool.false_eq_true, if_false, Bool.not_true, Bool.not_false, leave_v, List.take_length, plen_t, plen_l, ptup_l, ptup_t, pint_i, pis_n, pis_i, pis_t, pisnt_n, pisnt_i, pisnt_t, Int.cast_ofNat_Int, ne_eq, not_true_eq_false, not_false_eq_true, decide_true, decide_false, List.set, pix_T g1, pix_T q1, z']⟩
    have hany : pAny [.val (.list ((List.range v.length).map fun _ => PyData.bool false))] m = some (.val (.bool false), m) := by
      rw [pany_l (List.range v.length) (fun _ => false), any_false fun _ _ => rfl]
    have rg := rg1_nat (m := m) (n := v.length) (by omega)
    rw [range_enc2] at rg
    have hll : (encI (List.range v.length)).length ≤ 16777216 := by rw [encI_len, List.length_range]; omega
    obtain ⟨e6', ih⟩ := house_loop V hk hs l (some (.val (.int (i : Nat)))) (fun j hj => h j (List.mem_cons_of_mem _ hj))
    refine ⟨e6', ?_⟩
    have es : encI (i :: l) = .int (i : Nat) :: encI l := rfl
    have hb : l__law_seats9 [some (.ref 0), some (.val (encT v)), some (.val (.int (k : Nat))), some (.val (.int (v.sum : Nat))), e4, e5, some (.val (.int (i : Nat))), some (.val (.int (s : Nat))), some (.val (.list (encI (divs s v k)))), e9, e10, e11] m = some (.nx [some (.ref 0), some (.val (encT v)), some (.val (.int (k : Nat))), some (.val (.int (v.sum : Nat))), e4, e5, some (.val (.int (i : Nat))), some (.val (.int (s : Nat))), some (.val (.list (encI (divs s v k)))), e9, e10, e11] m) := by
      rcases hs with rfl | rfl
      · have hq := divs_quota (k := k) hv (fun x hx => V.lo x hx) hi
        have nq : ¬ (((divs 1 v k).getD i 0 : Nat) : Int) < ((v.getD i 0 * k / v.sum : Nat) : Int) := by omega
        have e1 : ((1 : Nat) : Int) = 1 := rfl
        simp only [l__law_seats9, ev_asg, ev_par, ev_if, ev_ret, ev_retN, ev_expr, ev_bin, ev_un, ev_ap, ev_cons, ev_nil, ev_varS, ev_var0, ev_c, ob_some, ev_gNm, ev_tOf, ev_asB, ev_asI, ev_tNot, ev_tAnd, ev_tOr, ev_eOf, ev_eIf, ev_chain, List.set_cons_succ, List.set_cons_zero, ev_then_nx, ev_then_rt, ev_next, ev_pTup, ev_valsC, ev_vals0, ev_eL, ev_bm, ev_aug, pix_t, pix_l, pixq0, pixq1, atI_0, atI_1, atI_2, pp_ii, ps_ii, pa_ii, plt_ii, ple_ii, pgt_ii, pge_ii, peq_ii, pne_ii, pneg_i, List.length_cons, List.length_nil, Nat.reduceAdd, Nat.reduceSub, Nat.reduceLeDiff, sz, if_true, Bool.false_eq_true, if_false, Bool.not_true, Bool.not_false, leave_v, List.take_length, plen_t, plen_l, ptup_l, ptup_t, pint_i, pis_n, pis_i, pis_t, pisnt_n, pisnt_i, pisnt_t, Int.cast_ofNat_Int, ne_eq, not_true_eq_false, not_false_eq_true, decide_true, decide_false, e1, ix i hi, pix_T g1, m1, d1, nq, ev_comp, it_rg1, plen_T, rg, runC_iL hll, wipeE, List.set, hc, hany]
      · have e1 : ((2 : Nat) : Int) = 2 := rfl
        simp only [l__law_seats9, ev_asg, ev_par, ev_if, ev_ret, ev_retN, ev_expr, ev_bin, ev_un, ev_ap, ev_cons, ev_nil, ev_varS, ev_var0, ev_c, ob_some, ev_gNm, ev_tOf, ev_asB, ev_asI, ev_tNot, ev_tAnd, ev_tOr, ev_eOf, ev_eIf, ev_chain, List.set_cons_succ, List.set_cons_zero, ev_then_nx, ev_then_rt, ev_next, ev_pTup, ev_valsC, ev_vals0, ev_eL, ev_bm, ev_aug, pix_t, pix_l, pixq0, pixq1, atI_0, atI_1, atI_2, pp_ii, ps_ii, pa_ii, plt_ii, ple_ii, pgt_ii, pge_ii, peq_ii, pne_ii, pneg_i, List.length_cons, List.length_nil, Nat.reduceAdd, Nat.reduceSub, Nat.reduceLeDiff, sz, if_true, Bool.false_eq_true, if_false, Bool.not_true, Bool.not_false, leave_v, List.take_length, plen_t, plen_l, ptup_l, ptup_t, pint_i, pis_n, pis_i, pis_t, pisnt_n, pisnt_i, pisnt_t, Int.cast_ofNat_Int, ne_eq, not_true_eq_false, not_false_eq_true, decide_true, decide_false, e1, show ¬ ((2 : Int) = 1) by decide, ev_comp, it_rg1, plen_T, rg, runC_iL hll, wipeE, List.set, hc, hany]
    have hg : gNm 6 (.val (.int (i : Nat))) [some (.ref 0), some (.val (encT v)), some (.val (.int (k : Nat))), some (.val (.int (v.sum : Nat))), e4, e5, e6, some (.val (.int (s : Nat))), some (.val (.list (encI (divs s v k)))), e9, e10, e11] m = some ([some (.ref 0), some (.val (encT v)), some (.val (.int (k : Nat))), some (.val (.int (v.sum : Nat))), e4, e5, some (.val (.int (i : Nat))), some (.val (.int (s : Nat))), some (.val (.list (encI (divs s v k)))), e9, e10, e11], m) := by rw [ev_gNm]; rfl
    rw [es, step_nx hg hb, ih]
end
end L34

set_option Elab.async false
set_option linter.all false
set_option maxRecDepth 100000
namespace L34
open PySem PySem.Spec PyProof.Rows L2 Ev Qa Cut
theorem sh_T {l : List Nat} (h : ∀ a ∈ l, a < 1000000) (hl : l.length ≤ 100) : Sh 8200 1 (encT l) := (Sh.tup (sh_encI fun a ha => by have := h a ha; omega)).up (by omega) (by decide)
section
variable {m : M} {v : List Nat} {k : Nat} {e4 e5 e6 e7 e8 e9 e10 e11 : Option R}
theorem divs_small {s : Nat} (V : Vt v) (hk : k ≤ 60) : Sh 8200 1 (encT (divs s v k)) := by
  have I := divs_ok (s := s) V.ne k
  refine sh_T (fun a ha => ?_) (by rw [I.len]; have := V.len; omega)
  obtain ⟨i, hi, e⟩ := List.mem_iff_getElem.mp ha
  have h1 := le_sum (divs s v k) i
  have h2 : (divs s v k).getD i 0 = a := by
    rw [List.getD, List.getElem?_eq_getElem hi, e]
    rfl
  rw [I.sum] at h1
  omega
/-- one step of divisors -/
theorem step_ok {s : Nat} (V : Vt v) (hk : k ≤ 50) (hs : s = 1 ∨ s = 2) {e6 e7 e8 e9 : Option R} : ∃ e6' e8' e9', l__law_seats10 [some (.ref 0), some (.val (encT v)), some (.val (.int (k : Nat))), some (.val (.int (v.sum : Nat))), e4, e5, e6, some (.val (.int (s : Nat))), e8, e9, e10, e11] m = some (.nx [some (.ref 0), some (.val (encT v)), some (.val (.int (k : Nat))), some (.val (.int (v.sum : Nat))), e4, e5, e6', some (.val (.int (s : Nat))), e8', e9', e10, e11] m) := by
  have hv : 0 < v.length := V.ne
  have hv8 := V.len
  have hs1 : 1 ≤ s := by omega
  have hs2 : s ≤ 2 := by omega
  have d1 := law_div_ok (m0 := m) (s := s) (k := k) V hs2 (by omega)
  have d2 := law_div_ok (m0 := m) (s := s) (k := k + 1) V hs2 (by omega)
  have e1 : ((k : Nat) : Int) + 1 = ((k + 1 : Nat) : Int) := by push_cast; rfl
  have d3 := by_div_ok (m0 := m) (s := s) (k := k) V hs1 hs2 (by omega)
  have I := divs_ok (s := s) hv k
  have I' := divs_ok (s := s) hv (k + 1)
  have sh := divs_small (s := s) V (show k ≤ 60 by omega)
  have z1 := sh.repr (m := m) (by decide) (by decide)
  have z2 := pNe_shown (m := m) sh.sm
  have eT : PyData.tuple (encI (divs s v k)) = encT (divs s v k) := rfl
  have rg := rg1_nat (m := m) (n := v.length) (by omega)
  rw [range_enc2] at rg
  have hll : (encI (List.range v.length)).length ≤ 16777216 := by rw [encI_len, List.length_range]; omega
  have hc : clpL (.nm 6) tTrue e__law_seats7 [some (.ref 0), some (.val (encT v)), some (.val (.int (k : Nat))), some (.val (.int (v.sum : Nat))), e4, e5, none, some (.val (.int (s : Nat))), some (.val (.list (encI (divs s v k)))), some (.val (.list (encI (divs s v (k + 1))))), e10, e11] (encI (List.range v.length)) m = some ((List.range v.length).map fun _ => PyData.bool false, m) :=
    clpL_all (fun j : Nat => PyData.int j) (fun _ => .bool false) (List.range v.length) fun j hj => ⟨_, rfl, by
      have hj' := List.mem_range.mp hj
      have i1 : atI (encI (divs s v k)) ((j : Nat) : Int) = some (.int ((divs s v k).getD j 0 : Nat)) := at_nat (encI_get (getD_some (by rw [I.len]; exact hj')))
      have i2 : atI (encI (divs s v (k + 1))) ((j : Nat) : Int) = some (.int ((divs s v (k + 1)).getD j 0 : Nat)) := at_nat (encI_get (getD_some (by rw [I'.len]; exact hj')))
      have hmono := divs_mono (s := s) hv k j
      have nz : ¬ (((divs s v (k + 1)).getD j 0 : Nat) : Int) < (((divs s v k).getD j 0 : Nat) : Int) := by omega
      simp only [e__law_seats7, ev_asg, ev_par, ev_if, ev_ret, ev_retN, ev_expr, ev_bin, ev_un, ev_ap, ev_cons, ev_nil, ev_varS, ev_var0, ev_c, ob_some, ev_gNm, ev_tOf, ev_asB, ev_asI, ev_tNot, ev_tAnd, ev_tOr, ev_eOf, ev_eIf, ev_chain, List.set_cons_succ, List.set_cons_zero, ev_then_nx, ev_then_rt, ev_next, ev_pTup, ev_valsC, ev_vals0, ev_eL, ev_bm, ev_aug, pix_t, pix_l, pixq0, pixq1, atI_0, atI_1, atI_2, pp_ii, ps_ii, pa_ii, plt_ii, ple_ii, pgt_ii, pge_ii, peq_ii, pne_ii, pneg_i, List.length_cons, List.length_nil, Nat.reduceAdd, Nat.reduceSub, Nat.reduceLeDiff, sz, if_true, Bool.false_eq_true, if_false, Bool.not_true, Bool.not_false, leave_v, List.take_length, plen_t, plen_l, ptup_l, ptup_t, pint_i, pis_n, pis_i, pis_t, pisnt_n, pisnt_i, pisnt_t, Int.cast_ofNat_Int, ne_eq, not_true_eq_false, not_false_eq_true, decide_true, decide_false, List.set, i1, i2, nz]⟩
  have hany : pAny [.val (.list ((List.range v.length).map fun _ => PyData.bool false))] m = some (.val (.bool false), m) := by
    rw [pany_l (List.range v.length) (fun _ => false), any_false fun _ _ => rfl]
  obtain ⟨e6', hl⟩ := house_loop (m := m) (s := s) V (show k ≤ 60 by omega) hs (e4 := e4) (e5 := e5) (e9 := some (.val (.list (encI (divs s v (k + 1)))))) (e10 := e10) (e11 := e11) (List.range v.length) e6 (fun i hi => List.mem_range.mp hi)
  refine ⟨e6', some (.val (.list (encI (divs s v k)))), some (.val (.list (encI (divs s v (k + 1))))), ?_⟩
  simp only [l__law_seats10]
  rw [ev_seq]
  simp only [ev_parG, ev_asg, ev_par, ev_if, ev_ret, ev_retN, ev_expr, ev_bin, ev_un, ev_ap, ev_cons, ev_nil, ev_varS, ev_var0, ev_c, ob_some, ev_gNm, ev_tOf, ev_asB, ev_asI, ev_tNot, ev_tAnd, ev_tOr, ev_eOf, ev_eIf, ev_chain, List.set_cons_succ, List.set_cons_zero, ev_then_nx, ev_then_rt, ev_next, ev_pTup, ev_valsC, ev_vals0, ev_eL, ev_bm, ev_aug, pix_t, pix_l, pixq0, pixq1, atI_0, atI_1, atI_2, pp_ii, ps_ii, pa_ii, plt_ii, ple_ii, pgt_ii, pge_ii, peq_ii, pne_ii, pneg_i, List.length_cons, List.length_nil, Nat.reduceAdd, Nat.reduceSub, Nat.reduceLeDiff, sz, if_true, Bool.false_eq_true, if_false, Bool.not_true, Bool.not_false, leave_v, List.take_length, plen_t, plen_l, ptup_l, ptup_t, pint_i, pis_n, pis_i, pis_t, pisnt_n, pisnt_i, pisnt_t, Int.cast_ofNat_Int, ne_eq, not_true_eq_false, not_false_eq_true, decide_true, decide_false, d1, e1, d2, setAll]
  rw [ev_seq]
  simp only [ev_asg, ev_par, ev_if, ev_ret, ev_retN, ev_expr, ev_bin, ev_un, ev_ap, ev_cons, ev_nil, ev_varS, ev_var0, ev_c, ob_some, ev_gNm, ev_tOf, ev_asB, ev_asI, ev_tNot, ev_tAnd, ev_tOr, ev_eOf, ev_eIf, ev_chain, List.set_cons_succ, List.set_cons_zero, ev_then_nx, ev_then_rt, ev_next, ev_pTup, ev_valsC, ev_vals0, ev_eL, ev_bm, ev_aug, pix_t, pix_l, pixq0, pixq1, atI_0, atI_1, atI_2, pp_ii, ps_ii, pa_ii, plt_ii, ple_ii, pgt_ii, pge_ii, peq_ii, pne_ii, pneg_i, List.length_cons, List.length_nil, Nat.reduceAdd, Nat.reduceSub, Nat.reduceLeDiff, sz, if_true, Bool.false_eq_true, if_false, Bool.not_true, Bool.not_false, leave_v, List.take_length, plen_t, plen_l, ptup_l, ptup_t, pint_i, pis_n, pis_i, pis_t, pisnt_n, pisnt_i, pisnt_t, Int.cast_ofNat_Int, ne_eq, not_true_eq_false, not_false_eq_true, decide_true, decide_false, d3, z1, eT, z2, ev_comp, it_rg1, plen_T, rg, runC_iL hll, wipeE, List.set, hc, hany]
  simp only [ev_for, it_rg1, ev_asg, ev_par, ev_if, ev_ret, ev_retN, ev_expr, ev_bin, ev_un, ev_ap, ev_cons, ev_nil, ev_varS, ev_var0, ev_c, ob_some, ev_gNm, ev_tOf, ev_asB, ev_asI, ev_tNot, ev_tAnd, ev_tOr, ev_eOf, ev_eIf, ev_chain, List.set_cons_succ, List.set_cons_zero, ev_then_nx, ev_then_rt, ev_next, ev_pTup, ev_valsC, ev_vals0, ev_eL, ev_bm, ev_aug, pix_t, pix_l, pixq0, pixq1, atI_0, atI_1, atI_2, pp_ii, ps_ii, pa_ii, plt_ii, ple_ii, pgt_ii, pge_ii, peq_ii, pne_ii, pneg_i, List.length_cons, List.length_nil, Nat.reduceAdd, Nat.reduceSub, Nat.reduceLeDiff, sz, if_true, Bool.false_eq_true, if_false, Bool.not_true, Bool.not_false, leave_v, List.take_length, plen_t, plen_l, ptup_l, ptup_t, pint_i, pis_n, pis_i, pis_t, pisnt_n, pisnt_i, pisnt_t, Int.cast_ofNat_Int, ne_eq, not_true_eq_false, not_false_eq_true, decide_true, decide_false, plen_T, rg, run_iL, hl]
end
theorem seats {m : M} (h : Bx [] m) : ∃ m', m__law_seats [.ref 0] m = some (.val (.bool true), m') := by
  have st : m.length = 1 := by
    obtain ⟨x, y, rfl, _⟩ := h
    rfl
  obtain ⟨dn, m1, a1, a2, a3⟩ := drawN h (k := 5) (by decide) (by decide)
  have a1' : m__law_draw [.ref 0, .val (.int 5)] m = some (.val (.int (dn : Int)), m1) := a1
  have en : (1 : Int) + (dn : Int) = ((1 + dn : Nat) : Int) := by push_cast; rfl
  have rg0 := rg1_nat (m := m1) (n := 1 + dn) (by omega)
  have hl0 : ((List.range (1 + dn)).map fun j : Nat => PyData.int j).length ≤ 16777216 := by
    rw [List.length_map, List.length_range]
    omega
  obtain ⟨v, m2, b1, b2, b3, b4⟩ := votes_draw (rest := []) a3 (env := [some (.ref 0), none, none, none, none, none, none, none, none, none, none, none]) (fun d m => rfl) (1 + dn)
  have V : Vt v := ⟨by omega, by omega, fun x hx => (b3 x hx).1, fun x hx => by have := (b3 x hx).2; omega⟩
  obtain ⟨k, m3, c1, c2, c3⟩ := drawN b4 (k := 15) (by decide) (by decide)
  have c1' : m__law_draw [.ref 0, .val (.int 15)] m2 = some (.val (.int (k : Int)), m3) := c1
  obtain ⟨x3, y3, rfl, hB3⟩ := id c3
  generalize hM : [Ob.lst [.int x3, .int y3]] = B at *
  have hBl : B.length = 1 := by rw [← hM]; rfl
  obtain ⟨s1, s2⟩ := V.sum
  have hk60 : k ≤ 60 := by omega
  have hv8 := V.len
  have eT : PyData.tuple (encI v) = encT v := rfl
  have hlv : (encI v).length ≤ 16777216 := by rw [encI_len]; omega
  have an : ∀ mm : M, an1 (.val (encT v)) mm = iL (encI v) mm := fun mm => rfl
  have hc1 : clpL (.nm 10) tTrue e__law_seats2 [some (.ref 0), some (.val (encT v)), some (.val (.int (k : Nat))), some (.val (.int (v.sum : Nat))), none, none, none, none, none, none, none, none] (encI v) B = some (encI (flo v k), B) := by
    have := clpL_all (p := .nm 10) (te := e__law_seats2) (env := [some (.ref 0), some (.val (encT v)), some (.val (.int (k : Nat))), some (.val (.int (v.sum : Nat))), none, none, none, none, none, none, none, none]) (m := B) (fun a : Nat => PyData.int a) (fun a => .int (a * k / v.sum : Nat)) v fun a ha => ⟨_, rfl, by
      have := V.hi a ha
      have h2 : a * k ≤ 1000 * 60 := Nat.mul_le_mul this hk60
      simp only [e__law_seats2, ev_asg, ev_par, ev_if, ev_ret, ev_retN, ev_expr, ev_bin, ev_un, ev_ap, ev_cons, ev_nil, ev_varS, ev_var0, ev_c, ob_some, ev_gNm, ev_tOf, ev_asB, ev_asI, ev_tNot, ev_tAnd, ev_tOr, ev_eOf, ev_eIf, ev_chain, List.set_cons_succ, List.set_cons_zero, ev_then_nx, ev_then_rt, ev_next, ev_pTup, ev_valsC, ev_vals0, ev_eL, ev_bm, ev_aug, pix_t, pix_l, pixq0, pixq1, atI_0, atI_1, atI_2, pp_ii, ps_ii, pa_ii, plt_ii, ple_ii, pgt_ii, pge_ii, peq_ii, pne_ii, pneg_i, List.length_cons, List.length_nil, Nat.reduceAdd, Nat.reduceSub, Nat.reduceLeDiff, sz, if_true, Bool.false_eq_true, if_false, Bool.not_true, Bool.not_false, leave_v, List.take_length, plen_t, plen_l, ptup_l, ptup_t, pint_i, pis_n, pis_i, pis_t, pisnt_n, pisnt_i, pisnt_t, Int.cast_ofNat_Int, ne_eq, not_true_eq_false, not_false_eq_true, decide_true, decide_false, List.set, pmN (a := a) (b := k) (by omega) (by omega), pdN (a := a * k) s1 (by omega)]⟩
    rw [show encI v = v.map fun a : Nat => PyData.int a from rfl, this]
    unfold flo encI
    rw [List.map_map]
    rfl
  have hc2 : clpL (.nm 10) tTrue e__law_seats3 [some (.ref 0), some (.val (encT v)), some (.val (.int (k : Nat))), some (.val (.int (v.sum : Nat))), some (.ref 1), none, none, none, none, none, none, none] (encI v) (B ++ [Ob.lst (encI (flo v k))]) = some (encI (v.map fun a => a * k % v.sum), B ++ [Ob.lst (encI (flo v k))]) := by
    have := clpL_all (p := .nm 10) (te := e__law_seats3) (env := [some (.ref 0), some (.val (encT v)), some (.val (.int (k : Nat))), some (.val (.int (v.sum : Nat))), some (.ref 1), none, none, none, none, none, none, none]) (m := B ++ [Ob.lst (encI (flo v k))]) (fun a : Nat => PyData.int a) (fun a => .int (a * k % v.sum : Nat)) v fun a ha => ⟨_, rfl, by
      have := V.hi a ha
      have h2 : a * k ≤ 1000 * 60 := Nat.mul_le_mul this hk60
      simp only [e__law_seats3, ev_asg, ev_par, ev_if, ev_ret, ev_retN, ev_expr, ev_bin, ev_un, ev_ap, ev_cons, ev_nil, ev_varS, ev_var0, ev_c, ob_some, ev_gNm, ev_tOf, ev_asB, ev_asI, ev_tNot, ev_tAnd, ev_tOr, ev_eOf, ev_eIf, ev_chain, List.set_cons_succ, List.set_cons_zero, ev_then_nx, ev_then_rt, ev_next, ev_pTup, ev_valsC, ev_vals0, ev_eL, ev_bm, ev_aug, pix_t, pix_l, pixq0, pixq1, atI_0, atI_1, atI_2, pp_ii, ps_ii, pa_ii, plt_ii, ple_ii, pgt_ii, pge_ii, peq_ii, pne_ii, pneg_i, List.length_cons, List.length_nil, Nat.reduceAdd, Nat.reduceSub, Nat.reduceLeDiff, sz, if_true, Bool.false_eq_true, if_false, Bool.not_true, Bool.not_false, leave_v, List.take_length, plen_t, plen_l, ptup_l, ptup_t, pint_i, pis_n, pis_i, pis_t, pisnt_n, pisnt_i, pisnt_t, Int.cast_ofNat_Int, ne_eq, not_true_eq_false, not_false_eq_true, decide_true, decide_false, List.set, pmN (a := a) (b := k) (by omega) (by omega), pmodN (a := a * k) s1]⟩
    rw [show encI v = v.map fun a : Nat => PyData.int a from rfl, this]
    unfold encI
    rw [List.map_map]
    rfl
  have gB := get_L B (Ob.lst (encI (flo v k)))
  rw [hBl] at gB
  have gG := get_L B (Ob.lst (encI (gRow v k)))
  rw [hBl] at gG
  have hkey : ∀ i, i < v.length → keyF k__law_seats4 [false, false, false, false, false, false, true, false, false, false, false, false] [some (.ref 0), some (.val (encT v)), some (.val (.int (k : Nat))), some (.val (.int (v.sum : Nat))), some (.ref 1), some (.val (.list (encI (v.map fun a => a * k % v.sum)))), none, none, none, none, none, none] (.int (i : Nat)) (B ++ [Ob.lst (encI (flo v k))]) = some (.tuple [.int (-((rst v k i : Nat) : Int)), .int (i : Nat)], B ++ [Ob.lst (encI (flo v k))]) := fun i hi => by
    have ix : atI (encI (v.map fun a => a * k % v.sum)) ((i : Nat) : Int) = some (.int (rst v k i : Nat)) := by
      refine at_nat (encI_get ?_)
      rw [List.getElem?_map, getD_some hi]
      rfl
    simp only [keyF, mskL, k__law_seats4, ev_asg, ev_par, ev_if, ev_ret, ev_retN, ev_expr, ev_bin, ev_un, ev_ap, ev_cons, ev_nil, ev_varS, ev_var0, ev_c, ob_some, ev_gNm, ev_tOf, ev_asB, ev_asI, ev_tNot, ev_tAnd, ev_tOr, ev_eOf, ev_eIf, ev_chain, List.set_cons_succ, List.set_cons_zero, ev_then_nx, ev_then_rt, ev_next, ev_pTup, ev_valsC, ev_vals0, ev_eL, ev_bm, ev_aug, pix_t, pix_l, pixq0, pixq1, atI_0, atI_1, atI_2, pp_ii, ps_ii, pa_ii, plt_ii, ple_ii, pgt_ii, pge_ii, peq_ii, pne_ii, pneg_i, List.length_cons, List.length_nil, Nat.reduceAdd, Nat.reduceSub, Nat.reduceLeDiff, sz, if_true, Bool.false_eq_true, if_false, Bool.not_true, Bool.not_false, leave_v, List.take_length, plen_t, plen_l, ptup_l, ptup_t, pint_i, pis_n, pis_i, pis_t, pisnt_n, pisnt_i, pisnt_t, Int.cast_ofNat_Int, ne_eq, not_true_eq_false, not_false_eq_true, decide_true, decide_false, ix, Int.zero_sub]
  have hs := sort_seats (m := B ++ [Ob.lst (encI (flo v k))]) V hkey
  obtain ⟨r1, r2⟩ := rests_sum (k := k) s1
  have ps := psum_rN (m := B ++ [Ob.lst (encI (flo v k))]) gB
  have e1 : ((k : Nat) : Int) - (((flo v k).sum : Nat) : Int) = ((k - (flo v k).sum : Nat) : Int) := by omega
  have sl : sl1 (.val (.list (encI (ordG v k)))) none (some ((k - (flo v k).sum : Nat) : Int)) (B ++ [Ob.lst (encI (flo v k))]) = some (.val (.list (encI ((ordG v k).take (k - (flo v k).sum)))), B ++ [Ob.lst (encI (flo v k))]) := by
    rw [sl1_l, cut_take, encI_take]
  have hfl : (flo v k).length = v.length := by unfold flo; rw [List.length_map]
  obtain ⟨e6', hloop⟩ := ladd_loop (m0 := B) (v := v) (k := k) (e5 := some (.val (.list (encI (v.map fun a => a * k % v.sum))))) (e7 := none) (e8 := none) (e9 := none) (e10 := none) (e11 := none) (n := v.length) ((ordG v k).take (k - (flo v k).sum)) (flo v k) none (fun i hi => take_lt hi) hfl
  rw [hBl] at hloop
  have eg : addAll (flo v k) ((ordG v k).take (k - (flo v k).sum)) = gRow v k := rfl
  rw [eg] at hloop
  have w1 := greatest_ok (m := B ++ [Ob.lst (encI (gRow v k))]) V hk60
  have tt := ptup_r (m := B ++ [Ob.lst (encI (gRow v k))]) gG
  have eT2 : PyData.tuple (encI (gRow v k)) = encT (gRow v k) := rfl
  rw [eT2] at tt
  have shg : Sh 8200 1 (encT (gRow v k)) := by
    refine sh_T (fun a ha => ?_) (by rw [gRow_len]; omega)
    obtain ⟨i, hi, e⟩ := List.mem_iff_getElem.mp ha
    have hi' : i < v.length := by rw [gRow_len] at hi; exact hi
    have h1 := (gRow_bounds (k := k) s1 hi').2
    have h2 : (gRow v k).getD i 0 = a := by
      rw [List.getD, List.getElem?_eq_getElem hi, e]
      rfl
    rw [h2] at h1
    have h3 := Nat.div_le_self (v.getD i 0 * k + v.sum - 1) v.sum
    have h4 : v.getD i 0 * k ≤ 1000 * 60 := Nat.mul_le_mul (V.at_ hi').2.2 hk60
    omega
  have z1 := shg.repr (m := B ++ [Ob.lst (encI (gRow v k))]) (by decide) (by decide)
  have z2 := pNe_shown (m := B ++ [Ob.lst (encI (gRow v k))]) shg.sm
  have rgB := rg1_nat (m := B ++ [Ob.lst (encI (gRow v k))]) (n := v.length) (by omega)
  rw [range_enc2] at rgB
  obtain ⟨e62, hbt⟩ := between_loop (m := B ++ [Ob.lst (encI (gRow v k))]) V hk60 gG (e5 := some (.val (.list (encI (v.map fun a => a * k % v.sum))))) (e7 := none) (e8 := none) (e9 := none) (e10 := none) (e11 := none) (List.range v.length) e6' (fun i hi => List.mem_range.mp hi)
  obtain ⟨f6, f8, f9, hst1⟩ := step_ok (m := B ++ [Ob.lst (encI (gRow v k))]) (s := 1) (k := k) V (by omega) (.inl rfl) (e4 := some (.ref 1)) (e5 := some (.val (.list (encI (v.map fun a => a * k % v.sum))))) (e6 := e62) (e7 := none) (e8 := none) (e9 := none) (e10 := none) (e11 := none)
  obtain ⟨g6, g8, g9, hst2⟩ := step_ok (m := B ++ [Ob.lst (encI (gRow v k))]) (s := 2) (k := k) V (by omega) (.inr rfl) (e4 := some (.ref 1)) (e5 := some (.val (.list (encI (v.map fun a => a * k % v.sum))))) (e6 := f6) (e7 := none) (e8 := f8) (e9 := f9) (e10 := none) (e11 := none)
  have pl1 := plen_T (l := v) (m := B ++ [Ob.lst (encI (flo v k))])
  have hsteps : ∃ env, loopL (gNm 7) l__law_seats10 [.int 1, .int 2] [some (.ref 0), some (.val (encT v)), some (.val (.int (k : Nat))), some (.val (.int (v.sum : Nat))), some (.ref 1), some (.val (.list (encI (v.map fun a => a * k % v.sum)))), e62, none, none, none, none, none] (B ++ [Ob.lst (encI (gRow v k))]) = some (.nx env (B ++ [Ob.lst (encI (gRow v k))])) := by
    refine ⟨[some (.ref 0), some (.val (encT v)), some (.val (.int (k : Nat))), some (.val (.int (v.sum : Nat))), some (.ref 1), some (.val (.list (encI (v.map fun a => a * k % v.sum)))), g6, some (.val (.int ((2 : Nat) : Int))), g8, g9, none, none], ?_⟩
    rw [step_nx (env1 := [some (.ref 0), some (.val (encT v)), some (.val (.int (k : Nat))), some (.val (.int (v.sum : Nat))), some (.ref 1), some (.val (.list (encI (v.map fun a => a * k % v.sum)))), e62, some (.val (.int ((1 : Nat) : Int))), none, none, none, none]) rfl hst1,
      step_nx (env1 := [some (.ref 0), some (.val (encT v)), some (.val (.int (k : Nat))), some (.val (.int (v.sum : Nat))), some (.ref 1), some (.val (.list (encI (v.map fun a => a * k % v.sum)))), f6, some (.val (.int ((2 : Nat) : Int))), f8, f9, none, none]) rfl hst2]
    rfl
  obtain ⟨env, hsteps⟩ := hsteps
  have an2 : an1 (.val (.tuple [.int 1, .int 2])) (B ++ [Ob.lst (encI (gRow v k))]) = iL [.int 1, .int 2] (B ++ [Ob.lst (encI (gRow v k))]) := rfl
  refine ⟨(B ++ [Ob.lst (encI (gRow v k))]).take 1, ?_⟩
  simp only [m__law_seats, bodyF, List.length_cons, List.length_nil, Nat.reduceAdd, Nat.reduceSub, List.map_cons, List.map_nil, List.replicate, List.cons_append, List.nil_append, List.append_nil, b__law_seats]
  rw [ev_seq]
  simp only [ev_asg, ev_par, ev_if, ev_ret, ev_retN, ev_expr, ev_bin, ev_un, ev_ap, ev_cons, ev_nil, ev_varS, ev_var0, ev_c, ob_some, ev_gNm, ev_tOf, ev_asB, ev_asI, ev_tNot, ev_tAnd, ev_tOr, ev_eOf, ev_eIf, ev_chain, List.set_cons_succ, List.set_cons_zero, ev_then_nx, ev_then_rt, ev_next, ev_pTup, ev_valsC, ev_vals0, ev_eL, ev_bm, ev_aug, pix_t, pix_l, pixq0, pixq1, atI_0, atI_1, atI_2, pp_ii, ps_ii, pa_ii, plt_ii, ple_ii, pgt_ii, pge_ii, peq_ii, pne_ii, pneg_i, List.length_cons, List.length_nil, Nat.reduceAdd, Nat.reduceSub, Nat.reduceLeDiff, sz, if_true, Bool.false_eq_true, if_false, Bool.not_true, Bool.not_false, leave_v, List.take_length, plen_t, plen_l, ptup_l, ptup_t, pint_i, pis_n, pis_i, pis_t, pisnt_n, pisnt_i, pisnt_t, Int.cast_ofNat_Int, ne_eq, not_true_eq_false, not_false_eq_true, decide_true, decide_false, ev_comp, it_rg1, a1', en, rg0, runC_iL hl0, wipeE, List.set, b1, eT]
  rw [ev_seq]
  simp only [ev_parG, ev_asg, ev_par, ev_if, ev_ret, ev_retN, ev_expr, ev_bin, ev_un, ev_ap, ev_cons, ev_nil, ev_varS, ev_var0, ev_c, ob_some, ev_gNm, ev_tOf, ev_asB, ev_asI, ev_tNot, ev_tAnd, ev_tOr, ev_eOf, ev_eIf, ev_chain, List.set_cons_succ, List.set_cons_zero, ev_then_nx, ev_then_rt, ev_next, ev_pTup, ev_valsC, ev_vals0, ev_eL, ev_bm, ev_aug, pix_t, pix_l, pixq0, pixq1, atI_0, atI_1, atI_2, pp_ii, ps_ii, pa_ii, plt_ii, ple_ii, pgt_ii, pge_ii, peq_ii, pne_ii, pneg_i, List.length_cons, List.length_nil, Nat.reduceAdd, Nat.reduceSub, Nat.reduceLeDiff, sz, if_true, Bool.false_eq_true, if_false, Bool.not_true, Bool.not_false, leave_v, List.take_length, plen_t, plen_l, ptup_l, ptup_t, pint_i, pis_n, pis_i, pis_t, pisnt_n, pisnt_i, pisnt_t, Int.cast_ofNat_Int, ne_eq, not_true_eq_false, not_false_eq_true, decide_true, decide_false, c1', psum_T, setAll]
  rw [ev_seq]
  simp only [ev_asg, ev_par, ev_if, ev_ret, ev_retN, ev_expr, ev_bin, ev_un, ev_ap, ev_cons, ev_nil, ev_varS, ev_var0, ev_c, ob_some, ev_gNm, ev_tOf, ev_asB, ev_asI, ev_tNot, ev_tAnd, ev_tOr, ev_eOf, ev_eIf, ev_chain, List.set_cons_succ, List.set_cons_zero, ev_then_nx, ev_then_rt, ev_next, ev_pTup, ev_valsC, ev_vals0, ev_eL, ev_bm, ev_aug, pix_t, pix_l, pixq0, pixq1, atI_0, atI_1, atI_2, pp_ii, ps_ii, pa_ii, plt_ii, ple_ii, pgt_ii, pge_ii, peq_ii, pne_ii, pneg_i, List.length_cons, List.length_nil, Nat.reduceAdd, Nat.reduceSub, Nat.reduceLeDiff, sz, if_true, Bool.false_eq_true, if_false, Bool.not_true, Bool.not_false, leave_v, List.take_length, plen_t, plen_l, ptup_l, ptup_t, pint_i, pis_n, pis_i, pis_t, pisnt_n, pisnt_i, pisnt_t, Int.cast_ofNat_Int, ne_eq, not_true_eq_false, not_false_eq_true, decide_true, decide_false, ev_eNew, ev_comp, it_an, an, runC_iL hlv, wipeE, List.set, hc1, hBl]
  rw [ev_seq]
  simp only [ev_asg, ev_par, ev_if, ev_ret, ev_retN, ev_expr, ev_bin, ev_un, ev_ap, ev_cons, ev_nil, ev_varS, ev_var0, ev_c, ob_some, ev_gNm, ev_tOf, ev_asB, ev_asI, ev_tNot, ev_tAnd, ev_tOr, ev_eOf, ev_eIf, ev_chain, List.set_cons_succ, List.set_cons_zero, ev_then_nx, ev_then_rt, ev_next, ev_pTup, ev_valsC, ev_vals0, ev_eL, ev_bm, ev_aug, pix_t, pix_l, pixq0, pixq1, atI_0, atI_1, atI_2, pp_ii, ps_ii, pa_ii, plt_ii, ple_ii, pgt_ii, pge_ii, peq_ii, pne_ii, pneg_i, List.length_cons, List.length_nil, Nat.reduceAdd, Nat.reduceSub, Nat.reduceLeDiff, sz, if_true, Bool.false_eq_true, if_false, Bool.not_true, Bool.not_false, leave_v, List.take_length, plen_t, plen_l, ptup_l, ptup_t, pint_i, pis_n, pis_i, pis_t, pisnt_n, pisnt_i, pisnt_t, Int.cast_ofNat_Int, ne_eq, not_true_eq_false, not_false_eq_true, decide_true, decide_false, ev_comp, it_an, an, runC_iL hlv, wipeE, List.set, hc2]
  rw [ev_seq]
  simp only [ev_for, it_an, ev_asg, ev_par, ev_if, ev_ret, ev_retN, ev_expr, ev_bin, ev_un, ev_ap, ev_cons, ev_nil, ev_varS, ev_var0, ev_c, ob_some, ev_gNm, ev_tOf, ev_asB, ev_asI, ev_tNot, ev_tAnd, ev_tOr, ev_eOf, ev_eIf, ev_chain, List.set_cons_succ, List.set_cons_zero, ev_then_nx, ev_then_rt, ev_next, ev_pTup, ev_valsC, ev_vals0, ev_eL, ev_bm, ev_aug, pix_t, pix_l, pixq0, pixq1, atI_0, atI_1, atI_2, pp_ii, ps_ii, pa_ii, plt_ii, ple_ii, pgt_ii, pge_ii, peq_ii, pne_ii, pneg_i, List.length_cons, List.length_nil, Nat.reduceAdd, Nat.reduceSub, Nat.reduceLeDiff, sz, if_true, Bool.false_eq_true, if_false, Bool.not_true, Bool.not_false, leave_v, List.take_length, plen_t, plen_l, ptup_l, ptup_t, pint_i, pis_n, pis_i, pis_t, pisnt_n, pisnt_i, pisnt_t, Int.cast_ofNat_Int, ne_eq, not_true_eq_false, not_false_eq_true, decide_true, decide_false, ev_sl, ev_sortKR, pl1, bds1, rgOk0 (show v.length ≤ 1000000 by omega), Int.sub_zero, Int.toNat_natCast, hs, ev_oNone, ev_oSome, ps, e1, sl, an1_l, run_iL, hloop]
  rw [ev_seq]
  simp only [ev_asg, ev_par, ev_if, ev_ret, ev_retN, ev_expr, ev_bin, ev_un, ev_ap, ev_cons, ev_nil, ev_varS, ev_var0, ev_c, ob_some, ev_gNm, ev_tOf, ev_asB, ev_asI, ev_tNot, ev_tAnd, ev_tOr, ev_eOf, ev_eIf, ev_chain, List.set_cons_succ, List.set_cons_zero, ev_then_nx, ev_then_rt, ev_next, ev_pTup, ev_valsC, ev_vals0, ev_eL, ev_bm, ev_aug, pix_t, pix_l, pixq0, pixq1, atI_0, atI_1, atI_2, pp_ii, ps_ii, pa_ii, plt_ii, ple_ii, pgt_ii, pge_ii, peq_ii, pne_ii, pneg_i, List.length_cons, List.length_nil, Nat.reduceAdd, Nat.reduceSub, Nat.reduceLeDiff, sz, if_true, Bool.false_eq_true, if_false, Bool.not_true, Bool.not_false, leave_v, List.take_length, plen_t, plen_l, ptup_l, ptup_t, pint_i, pis_n, pis_i, pis_t, pisnt_n, pisnt_i, pisnt_t, Int.cast_ofNat_Int, ne_eq, not_true_eq_false, not_false_eq_true, decide_true, decide_false, w1, z1, tt, z2]
  rw [ev_seq]
  simp only [ev_for, it_rg1, ev_asg, ev_par, ev_if, ev_ret, ev_retN, ev_expr, ev_bin, ev_un, ev_ap, ev_cons, ev_nil, ev_varS, ev_var0, ev_c, ob_some, ev_gNm, ev_tOf, ev_asB, ev_asI, ev_tNot, ev_tAnd, ev_tOr, ev_eOf, ev_eIf, ev_chain, List.set_cons_succ, List.set_cons_zero, ev_then_nx, ev_then_rt, ev_next, ev_pTup, ev_valsC, ev_vals0, ev_eL, ev_bm, ev_aug, pix_t, pix_l, pixq0, pixq1, atI_0, atI_1, atI_2, pp_ii, ps_ii, pa_ii, plt_ii, ple_ii, pgt_ii, pge_ii, peq_ii, pne_ii, pneg_i, List.length_cons, List.length_nil, Nat.reduceAdd, Nat.reduceSub, Nat.reduceLeDiff, sz, if_true, Bool.false_eq_true, if_false, Bool.not_true, Bool.not_false, leave_v, List.take_length, plen_t, plen_l, ptup_l, ptup_t, pint_i, pis_n, pis_i, pis_t, pisnt_n, pisnt_i, pisnt_t, Int.cast_ofNat_Int, ne_eq, not_true_eq_false, not_false_eq_true, decide_true, decide_false, plen_T, rgB, run_iL, hbt]
  rw [ev_seq]
  simp only [ev_for, it_an, ev_asg, ev_par, ev_if, ev_ret, ev_retN, ev_expr, ev_bin, ev_un, ev_ap, ev_cons, ev_nil, ev_varS, ev_var0, ev_c, ob_some, ev_gNm, ev_tOf, ev_asB, ev_asI, ev_tNot, ev_tAnd, ev_tOr, ev_eOf, ev_eIf, ev_chain, List.set_cons_succ, List.set_cons_zero, ev_then_nx, ev_then_rt, ev_next, ev_pTup, ev_valsC, ev_vals0, ev_eL, ev_bm, ev_aug, pix_t, pix_l, pixq0, pixq1, atI_0, atI_1, atI_2, pp_ii, ps_ii, pa_ii, plt_ii, ple_ii, pgt_ii, pge_ii, peq_ii, pne_ii, pneg_i, List.length_cons, List.length_nil, Nat.reduceAdd, Nat.reduceSub, Nat.reduceLeDiff, sz, if_true, Bool.false_eq_true, if_false, Bool.not_true, Bool.not_false, leave_v, List.take_length, plen_t, plen_l, ptup_l, ptup_t, pint_i, pis_n, pis_i, pis_t, pisnt_n, pisnt_i, pisnt_t, Int.cast_ofNat_Int, ne_eq, not_true_eq_false, not_false_eq_true, decide_true, decide_false, an2, run_iL, hsteps, st]
theorem law_true (ns : List Int) (_ : ns.length ≤ 63) : ∃ m, m_law [.val (.list (ns.map .int))] [] = some (.val (.bool true), m) := by
  obtain ⟨c, hc⟩ : ∃ c : Int, m__law_cell [.val (.list (ns.map .int)), .val (.int 0)] [] = some (.val (.int c), []) := by
    by_cases h : 0 < ns.length
    · obtain ⟨a, l, rfl⟩ : ∃ a l, ns = a :: l := by
        cases ns with
        | nil => simp at h
        | cons a l => exact ⟨a, l, rfl⟩
      refine ⟨a, ?_⟩
      have h2 : (0 : Int) < (((a :: l).length : Nat) : Int) := by omega
      simp only [m__law_cell, bodyF, b__law_cell]
      simp
    · refine ⟨0, ?_⟩
      have : ns = [] := by
        cases ns with
        | nil => rfl
        | cons a l => simp at h
      subst this
      simp [m__law_cell, bodyF, b__law_cell]
  have hs : ∃ m, m__law_stream [.val (.list (ns.map .int)), .val (.int 0)] [] = some (.ref 0, m) ∧ Bx [] m := by
    have e : ∀ i : Int, pMod (.val (.int i)) (.val (.int 1000003)) [] = some (.val (.int (i % 1000003)), []) := fun i => pmd_ii (by decide)
    refine ⟨[Ob.lst [.int (if c < 0 then -c else c), .int ((if c < 0 then -c else c) % 1000003 + 7)]], ?_, ⟨_, _, rfl, ?_, ?_, ?_⟩⟩
    · simp [m__law_stream, bodyK, b__law_stream, hc, e]
    · split <;> omega
    · have := Int.emod_nonneg (if c < 0 then -c else c) (show (1000003 : Int) ≠ 0 by decide)
      omega
    · have := Int.emod_lt_of_pos (if c < 0 then -c else c) (show (0 : Int) < 1000003 by decide)
      omega
  obtain ⟨m, hs, hB⟩ := hs
  obtain ⟨m1, t1, h1⟩ := cutting hB
  obtain ⟨m2, t2⟩ := seats h1
  refine ⟨[], ?_⟩
  simp [m_law, bodyF, b_law, hs, t1, t2]
end L34

open PySem PySem.W PyProof.Rows in
set_option maxRecDepth 100000 in
set_option maxHeartbeats 0 in
theorem PySem.Challenge.cw_allnights_k34_whole_cutting_and_seats_holds : PySem.Challenge.rw_allnights_k34_whole_cutting_and_seats.Holds := by
  w_on; o_law; k_head; (case hw => w_witness2)
  k_fill
  refine Ev.law_end (l := PySem.Challenge.rw_allnights_k34_whole_cutting_and_seats) (k := 14) (F := L34.m_law) (x := "script") rfl rfl ⟨rfl, by decide, by decide⟩ ?F L34.law_true
  case F =>
    intro w mg fa h Y G hmg
    have KX := PySem.W.km_in_of Y
    have hT := PySem.W.km_tabs_of Y
    refine' L34.fin KX hmg (Ev.hasCode KX G (fun _ _ _ _ _ _ us hl => match us, hl with | [_, _], _ => rfl) ?a_greatest_rests ?l_greatest_rests ?c_greatest_rests ?nf_greatest_rests ?nc_greatest_rests) ?lc_greatest_rests ?hp_greatest_rests ?hd_greatest_rests ?tT_greatest_rests (Ev.hasCode KX G (fun _ _ _ _ _ _ us hl => match us, hl with | [_], _ => rfl) ?a__law_seats ?l__law_seats ?c__law_seats ?nf__law_seats ?nc__law_seats) ?lc__law_seats ?hp__law_seats ?hd__law_seats ?tT__law_seats ?nd ?d__law_cell ?d__law_stream ?d__law_lowest ?d__law_plus ?d__law_times ?d__law_worth ?d__law_more ?d__law_time ?d_is_integer ?d_is_between ?d_check_taste ?d_common_checks ?d_fraction ?d_times ?d_plus ?d_minus ?d_less ?d_time_for ?d_worth_to ?d_from_left ?d__law_draw ?d_common_cycles ?d_check_times ?d_worth_of ?d_cut_and_choose ?d__law_cutting ?d_check_votes_and_seats ?d__law_divisors ?d_by_divisors ?d_law ?k_MOST_HOURS ?k_MOST_HOUSES_cutting ?k_MOST_HOUSES_seats ?k_MOST_SEATS ?k_MOST_TASTE ?k_MOST_VOTES ?z_abs ?z_all ?z_any ?z_bool ?z_enumerate ?z_int ?z_isinstance ?z_len ?z_list ?z_range ?z_repr ?z_sorted ?z_sum ?z_tuple
    (case a_greatest_rests => k_is)
    (case l_greatest_rests => k_is)
    (case c_greatest_rests => k_is)
    (case lc_greatest_rests => k_is)
    (case hp_greatest_rests => rfl)
    (case hd_greatest_rests => kernel_rfl)
    (case tT_greatest_rests => exact hT _ (by decide))
    (case a__law_seats => k_is)
    (case l__law_seats => k_is)
    (case c__law_seats => k_is)
    (case lc__law_seats => k_is)
    (case hp__law_seats => rfl)
    (case hd__law_seats => kernel_rfl)
    (case tT__law_seats => exact hT _ (by decide))
    (case nf_greatest_rests => rfl)
    (case nc_greatest_rests => rfl)
    (case nf__law_seats => rfl)
    (case nc__law_seats => rfl)
    (case nd => decide)
    case d__law_cell =>
      refine' Ev.HasCode.def_ (Ev.hasCode KX G (fun _ _ _ _ _ _ us hl => match us, hl with | [_, _], _ => rfl) ?a ?l ?c ?nf ?nc)
      (case a => k_is)
      (case l => k_is)
      (case c => k_is)
      (case nf => rfl)
      (case nc => rfl)
    case d__law_stream =>
      refine' Ev.HasCode.def_ (Ev.hasCode KX G (fun _ _ _ _ _ _ us hl => match us, hl with | [_, _], _ => rfl) ?a ?l ?c ?nf ?nc)
      (case a => k_is)
      (case l => k_is)
      (case c => k_is)
      (case nf => rfl)
      (case nc => rfl)
    case d__law_lowest =>
      refine' Ev.HasCode.def_ (Ev.hasCode KX G (fun _ _ _ _ _ _ us hl => match us, hl with | [_, _], _ => rfl) ?a ?l ?c ?nf ?nc)
      (case a => k_is)
      (case l => k_is)
      (case c => k_is)
      (case nf => rfl)
      (case nc => rfl)
    case d__law_plus =>
      refine' Ev.HasCode.def_ (Ev.hasCode KX G (fun _ _ _ _ _ _ us hl => match us, hl with | [_, _], _ => rfl) ?a ?l ?c ?nf ?nc)
      (case a => k_is)
      (case l => k_is)
      (case c => k_is)
      (case nf => rfl)
      (case nc => rfl)
    case d__law_times =>
      refine' Ev.HasCode.def_ (Ev.hasCode KX G (fun _ _ _ _ _ _ us hl => match us, hl with | [_, _], _ => rfl) ?a ?l ?c ?nf ?nc)
      (case a => k_is)
      (case l => k_is)
      (case c => k_is)
      (case nf => rfl)
      (case nc => rfl)
    case d__law_worth =>
      refine' Ev.HasCode.def_ (Ev.hasCode KX G (fun _ _ _ _ _ _ us hl => match us, hl with | [_, _], _ => rfl) ?a ?l ?c ?nf ?nc)
      (case a => k_is)
      (case l => k_is)
      (case c => k_is)
      (case nf => rfl)
      (case nc => rfl)
    case d__law_more =>
      refine' Ev.HasCode.def_ (Ev.hasCode KX G (fun _ _ _ _ _ _ us hl => match us, hl with | [_, _], _ => rfl) ?a ?l ?c ?nf ?nc)
      (case a => k_is)
      (case l => k_is)
      (case c => k_is)
      (case nf => rfl)
      (case nc => rfl)
    case d__law_time =>
      refine' Ev.HasCode.def_ (Ev.hasCode KX G (fun _ _ _ _ _ _ us hl => match us, hl with | [_, _, _], _ => rfl) ?a ?l ?c ?nf ?nc)
      (case a => k_is)
      (case l => k_is)
      (case c => k_is)
      (case nf => rfl)
      (case nc => rfl)
    case d_is_integer =>
      refine' Ev.HasCode.def_ (Ev.hasCode KX G (fun _ _ _ _ _ _ us hl => match us, hl with | [_], _ => rfl) ?a ?l ?c ?nf ?nc)
      (case a => k_is)
      (case l => k_is)
      (case c => k_is)
      (case nf => rfl)
      (case nc => rfl)
    case d_is_between =>
      refine' Ev.HasCode.def_ (Ev.hasCode KX G (fun _ _ _ _ _ _ us hl => match us, hl with | [_, _, _], _ => rfl) ?a ?l ?c ?nf ?nc)
      (case a => k_is)
      (case l => k_is)
      (case c => k_is)
      (case nf => rfl)
      (case nc => rfl)
    case d_check_taste =>
      refine' Ev.HasCode.def_ (Ev.hasCode KX G (fun _ _ _ _ _ _ us hl => match us, hl with | [_], _ => rfl) ?a ?l ?c ?nf ?nc)
      (case a => k_is)
      (case l => k_is)
      (case c => k_is)
      (case nf => rfl)
      (case nc => rfl)
    case d_common_checks =>
      refine' Ev.HasCode.def_ (Ev.hasCode KX G (fun _ _ _ _ _ _ us hl => match us, hl with | [_, _], _ => rfl) ?a ?l ?c ?nf ?nc)
      (case a => k_is)
      (case l => k_is)
      (case c => k_is)
      (case nf => rfl)
      (case nc => rfl)
    case d_fraction =>
      refine' Ev.HasCode.def_ (Ev.hasCode KX G (fun _ _ _ _ _ _ us hl => match us, hl with | [_, _], _ => rfl) ?a ?l ?c ?nf ?nc)
      (case a => k_is)
      (case l => k_is)
      (case c => k_is)
      (case nf => rfl)
      (case nc => rfl)
    case d_times =>
      refine' Ev.HasCode.def_ (Ev.hasCode KX G (fun _ _ _ _ _ _ us hl => match us, hl with | [_, _], _ => rfl) ?a ?l ?c ?nf ?nc)
      (case a => k_is)
      (case l => k_is)
      (case c => k_is)
      (case nf => rfl)
      (case nc => rfl)
    case d_plus =>
      refine' Ev.HasCode.def_ (Ev.hasCode KX G (fun _ _ _ _ _ _ us hl => match us, hl with | [_, _], _ => rfl) ?a ?l ?c ?nf ?nc)
      (case a => k_is)
      (case l => k_is)
      (case c => k_is)
      (case nf => rfl)
      (case nc => rfl)
    case d_minus =>
      refine' Ev.HasCode.def_ (Ev.hasCode KX G (fun _ _ _ _ _ _ us hl => match us, hl with | [_, _], _ => rfl) ?a ?l ?c ?nf ?nc)
      (case a => k_is)
      (case l => k_is)
      (case c => k_is)
      (case nf => rfl)
      (case nc => rfl)
    case d_less =>
      refine' Ev.HasCode.def_ (Ev.hasCode KX G (fun _ _ _ _ _ _ us hl => match us, hl with | [_, _], _ => rfl) ?a ?l ?c ?nf ?nc)
      (case a => k_is)
      (case l => k_is)
      (case c => k_is)
      (case nf => rfl)
      (case nc => rfl)
    case d_time_for =>
      refine' Ev.HasCode.def_ (Ev.hasCode KX G (fun _ _ _ _ _ _ us hl => match us, hl with | [_, _], _ => rfl) ?a ?l ?c ?nf ?nc)
      (case a => k_is)
      (case l => k_is)
      (case c => k_is)
      (case nf => rfl)
      (case nc => rfl)
    case d_worth_to =>
      refine' Ev.HasCode.def_ (Ev.hasCode KX G (fun _ _ _ _ _ _ us hl => match us, hl with | [_, _], _ => rfl) ?a ?l ?c ?nf ?nc)
      (case a => k_is)
      (case l => k_is)
      (case c => k_is)
      (case nf => rfl)
      (case nc => rfl)
    case d_from_left =>
      refine' Ev.HasCode.def_ (Ev.hasCode KX G (fun _ _ _ _ _ _ us hl => match us, hl with | [_], _ => rfl) ?a ?l ?c ?nf ?nc)
      (case a => k_is)
      (case l => k_is)
      (case c => k_is)
      (case nf => rfl)
      (case nc => rfl)
    case d__law_draw =>
      refine' Ev.HasCode.def_ (Ev.hasCode KX G (fun _ _ _ _ _ _ us hl => match us, hl with | [_, _], _ => rfl) ?a ?l ?c ?nf ?nc)
      (case a => k_is)
      (case l => k_is)
      (case c => k_is)
      (case nf => rfl)
      (case nc => rfl)
    case d_common_cycles =>
      refine' Ev.HasCode.def_ (Ev.hasCode KX G (fun _ _ _ _ _ _ us hl => match us, hl with | [_, _], _ => rfl) ?a ?l ?c ?nf ?nc)
      (case a => k_is)
      (case l => k_is)
      (case c => k_is)
      (case nf => rfl)
      (case nc => rfl)
    case d_check_times =>
      refine' Ev.HasCode.def_ (Ev.hasCode KX G (fun _ _ _ _ _ _ us hl => match us, hl with | [_, _, _], _ => rfl) ?a ?l ?c ?nf ?nc)
      (case a => k_is)
      (case l => k_is)
      (case c => k_is)
      (case nf => rfl)
      (case nc => rfl)
    case d_worth_of =>
      refine' Ev.HasCode.def_ (Ev.hasCode KX G (fun _ _ _ _ _ _ us hl => match us, hl with | [_, _, _], _ => rfl) ?a ?l ?c ?nf ?nc)
      (case a => k_is)
      (case l => k_is)
      (case c => k_is)
      (case nf => rfl)
      (case nc => rfl)
    case d_cut_and_choose =>
      refine' Ev.HasCode.def_ (Ev.hasCode KX G (fun _ _ _ _ _ _ us hl => match us, hl with | [_, _], _ => rfl) ?a ?l ?c ?nf ?nc)
      (case a => k_is)
      (case l => k_is)
      (case c => k_is)
      (case nf => rfl)
      (case nc => rfl)
    case d__law_cutting =>
      refine' Ev.HasCode.def_ (Ev.hasCode KX G (fun _ _ _ _ _ _ us hl => match us, hl with | [_], _ => rfl) ?a ?l ?c ?nf ?nc)
      (case a => k_is)
      (case l => k_is)
      (case c => k_is)
      (case nf => rfl)
      (case nc => rfl)
    case d_check_votes_and_seats =>
      refine' Ev.HasCode.def_ (Ev.hasCode KX G (fun _ _ _ _ _ _ us hl => match us, hl with | [_, _], _ => rfl) ?a ?l ?c ?nf ?nc)
      (case a => k_is)
      (case l => k_is)
      (case c => k_is)
      (case nf => rfl)
      (case nc => rfl)
    case d__law_divisors =>
      refine' Ev.HasCode.def_ (Ev.hasCode KX G (fun _ _ _ _ _ _ us hl => match us, hl with | [_, _, _], _ => rfl) ?a ?l ?c ?nf ?nc)
      (case a => k_is)
      (case l => k_is)
      (case c => k_is)
      (case nf => rfl)
      (case nc => rfl)
    case d_by_divisors =>
      refine' Ev.HasCode.def_ (Ev.hasCode KX G (fun _ _ _ _ _ _ us hl => match us, hl with | [_, _, _], _ => rfl) ?a ?l ?c ?nf ?nc)
      (case a => k_is)
      (case l => k_is)
      (case c => k_is)
      (case nf => rfl)
      (case nc => rfl)
    case d_law =>
      refine' Ev.HasCode.def_ (Ev.hasCode KX G (fun _ _ _ _ _ _ us hl => match us, hl with | [_], _ => rfl) ?a ?l ?c ?nf ?nc)
      (case a => k_is)
      (case l => k_is)
      (case c => k_is)
      (case nf => rfl)
      (case nc => rfl)
    case k_MOST_HOURS =>
      refine' Ev.cst_ KX G ?a ?e
      (case a => k_is)
      (case e => exact ⟨_, rfl⟩)
    case k_MOST_HOUSES_cutting =>
      refine' Ev.cst_ KX G ?a ?e
      (case a => k_is)
      (case e => exact ⟨_, rfl⟩)
    case k_MOST_HOUSES_seats =>
      refine' Ev.cst_ KX G ?a ?e
      (case a => k_is)
      (case e => exact ⟨_, rfl⟩)
    case k_MOST_SEATS =>
      refine' Ev.cst_ KX G ?a ?e
      (case a => k_is)
      (case e => exact ⟨_, rfl⟩)
    case k_MOST_TASTE =>
      refine' Ev.cst_ KX G ?a ?e
      (case a => k_is)
      (case e => exact ⟨_, rfl⟩)
    case k_MOST_VOTES =>
      refine' Ev.cst_ KX G ?a ?e
      (case a => k_is)
      (case e => exact ⟨_, rfl⟩)
    case z_abs =>
      refine' PySem.W.mg_none_of KX G ?a
      (case a => k_is)
    case z_all =>
      refine' PySem.W.mg_none_of KX G ?a
      (case a => k_is)
    case z_any =>
      refine' PySem.W.mg_none_of KX G ?a
      (case a => k_is)
    case z_bool =>
      refine' PySem.W.mg_none_of KX G ?a
      (case a => k_is)
    case z_enumerate =>
      refine' PySem.W.mg_none_of KX G ?a
      (case a => k_is)
    case z_int =>
      refine' PySem.W.mg_none_of KX G ?a
      (case a => k_is)
    case z_isinstance =>
      refine' PySem.W.mg_none_of KX G ?a
      (case a => k_is)
    case z_len =>
      refine' PySem.W.mg_none_of KX G ?a
      (case a => k_is)
    case z_list =>
      refine' PySem.W.mg_none_of KX G ?a
      (case a => k_is)
    case z_range =>
      refine' PySem.W.mg_none_of KX G ?a
      (case a => k_is)
    case z_repr =>
      refine' PySem.W.mg_none_of KX G ?a
      (case a => k_is)
    case z_sorted =>
      refine' PySem.W.mg_none_of KX G ?a
      (case a => k_is)
    case z_sum =>
      refine' PySem.W.mg_none_of KX G ?a
      (case a => k_is)
    case z_tuple =>
      refine' PySem.W.mg_none_of KX G ?a
      (case a => k_is)
