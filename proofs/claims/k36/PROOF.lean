import PyProof.Rows.All
import Wide.All
import OpenK.AllK
import Wide.FinOn
import HandS.ForMost
import HandS.Flow
import HandS.WideBits
import HandS.TupAny
import HandS.IsInst
import HandS.Lambda
import HandS.Nested
import KE.KDictKeyed
import HandS.TupMul
import HandS.Wide
import KE.DataMinMax
import PyProof.ReprRoads
import HandS.More
import HandS.SetFor
import HandS.Remove
import KE.GoesEnum
import HandS.Deep
import HandS.EndTab
import HandS.Style
import KE.SortKeyHeap
import HandS.Conv
import HandS.Sort
import HandS.Dict
import HandS.Iter
import HandS.TupLen
import HandS.WordsDict
import KE.KDictDisplayH
import PyProof.Rows.TupDisplay
import KE.KDictCopyH
import KE.KDictSum
import PySem.Challenge.RW_allnights_k36_whole_loads_and_spans
set_option Elab.async false
set_option linter.all false
set_option maxRecDepth 100000
/-! Values as PyData, an abstract store of mutable lists, and readings made of pure functions. -/
namespace Ev
open PySem PySem.Spec PyProof.Rows L2

abbrev D := PyData
/-- a mutable object of the store -/
inductive Ob where
  | lst (l : List D)
  /-- a dict: t: its keys are tuples; lk: locked (walked by a loop) -/
  | dct (t lk : Bool) (kvs : List (D × D))
/-- a value: data that nobody changes, or an object of the store -/
inductive R where
  | val (d : D)
  | ref (i : Nat)
  /-- a tuple that holds objects of the store -/
  | tp (rs : List (D ⊕ Nat))
abbrev M := List Ob
abbrev Sl := List (Option R)

/-- the tables of code objects, with the name of what they tell -/
abbrev Tbs := List (Addr × Str)
/-- the addresses of the store's objects; those that are hidden (lists that comprehensions fill) -/
structure Ad where
  s : List Addr
  h : List Addr
  t : List (Addr × Str)
def Ad.all (φ : Ad) : List Addr := φ.s ++ φ.h
def Ad.add (φ : Ad) (p : Addr) : Ad := ⟨φ.s ++ [p], φ.h, φ.t⟩
def Ad.hide (φ : Ad) (p : Addr) : Ad := ⟨φ.s, p :: φ.h, φ.t⟩
theorem Ad.mem {φ : Ad} {a : Addr} : a ∈ φ.all ↔ a ∈ φ.s ∨ a ∈ φ.h := List.mem_append
/-- no table -/
def noT : Option HO → Option HO
  | some (.tbl _) => none
  | o => o
def isTb : HO → Bool
  | .tbl _ => true
  | _ => false
theorem noT_some {x : Option HO} {o : HO} : noT x = some o ↔ x = some o ∧ isTb o = false := by
  cases x with
  | none => exact ⟨fun z => (nomatch z), fun z => (nomatch z.1)⟩
  | some y =>
    cases y with
    | tbl ps => exact ⟨fun z => (nomatch z), fun z => by
        obtain ⟨z1, z2⟩ := z
        cases z1
        exact (nomatch z2)⟩
    | _ => exact ⟨fun z => ⟨z, by cases z; rfl⟩, fun z => z.1⟩
/-- the heap without the store's objects, the hidden ones and tables -/
def off (φ : Ad) (H : Hp) : Hp := fun a => if a ∈ φ.all then none else noT (H a)
theorem off_some {φ : Ad} {H : Hp} {a : Addr} {o : HO} : off φ H a = some o ↔ a ∉ φ.all ∧ H a = some o ∧ isTb o = false := by
  unfold off
  by_cases h : a ∈ φ.all
  · rw [if_pos h]
    exact Iff.intro (fun z => nomatch z) (fun z => absurd h z.1)
  · rw [if_neg h]
    exact Iff.intro (fun z => And.intro h (noT_some.mp z)) (fun z => noT_some.mpr z.2)
theorem sqT_mono {K : PySem.W.Frag} {H H' : Hp} {a : Addr} {xs : List V} (e : Same H H') (h : SqT K H a xs) : SqT K H' a xs := by
  rcases h with (h | ⟨o, h⟩) | h
  · exact Or.inl (Or.inl (e _ _ h))
  · exact Or.inl (Or.inr ⟨o, e _ _ h⟩)
  · exact Or.inr h
mutual
theorem dp_mono {K : PySem.W.Frag} {H H' : Hp} (e : Same H H') : ∀ {d : D} {v : V}, Dp K H v d → Dp K H' v d
  | _, _, .non => .non
  | _, _, .bl b => .bl b
  | _, _, .int i => .int i
  | _, _, .str x => .str x
  | _, _, .lst h ha => .lst (e.seq h) (dps_mono e ha)
  | _, _, .tup h ha => .tup (sqT_mono e h) (dps_mono e ha)
theorem dps_mono {K : PySem.W.Frag} {H H' : Hp} (e : Same H H') : ∀ {ds : List D} {vs : List V}, DpAll K H vs ds → DpAll K H' vs ds
  | _, _, .nil => .nil
  | _, _, .cons h t => .cons (dp_mono e h) (dps_mono e t)
end
theorem DpAll.len {K : PySem.W.Frag} {H : Hp} : ∀ {ds : List D} {vs : List V}, DpAll K H vs ds → vs.length = ds.length
  | _, _, .nil => rfl
  | _, _, .cons _ t => by
    rw [List.length_cons, List.length_cons, DpAll.len t]
theorem DpAll.append {K : PySem.W.Frag} {H : Hp} : ∀ {ds es : List D} {vs us : List V}, DpAll K H vs ds → DpAll K H us es → DpAll K H (vs ++ us) (ds ++ es)
  | _, _, _, _, .nil, h => h
  | _, _, _, _, .cons a t, h => .cons a (DpAll.append t h)
theorem DpAll.get {K : PySem.W.Frag} {H : Hp} : ∀ {ds : List D} {vs : List V} {i : Nat} {d : D}, DpAll K H vs ds → ds[i]? = some d → ∃ v, vs[i]? = some v ∧ Dp K H v d
  | _, _, _, _, .nil, e => by simp at e
  | _, _, 0, _, .cons (v := v) a t, e => by
    simp at e
    subst e
    exact ⟨v, rfl, a⟩
  | _, _, i + 1, _, .cons a t, e => by
    obtain ⟨v, h1, h2⟩ := DpAll.get (i := i) t (by simpa using e)
    exact ⟨v, by simpa using h1, h2⟩
theorem DpAll.get' {K : PySem.W.Frag} {H : Hp} : ∀ {ds : List D} {vs : List V} {i : Nat} {v : V}, DpAll K H vs ds → vs[i]? = some v → ∃ d, ds[i]? = some d ∧ Dp K H v d
  | _, _, _, _, .nil, e => by simp at e
  | _, _, 0, _, .cons (d := d) a t, e => by
    simp at e
    subst e
    exact ⟨d, rfl, a⟩
  | _, _, i + 1, _, .cons a t, e => by
    obtain ⟨v, h1, h2⟩ := DpAll.get' (i := i) t (by simpa using e)
    exact ⟨v, by simpa using h1, h2⟩
theorem DpAll.set {K : PySem.W.Frag} {H : Hp} {v : V} {d : D} (h : Dp K H v d) : ∀ {ds : List D} {vs : List V} (i : Nat), DpAll K H vs ds → DpAll K H (vs.set i v) (ds.set i d)
  | _, _, _, .nil => .nil
  | _, _, 0, .cons _ t => .cons h t
  | _, _, i + 1, .cons a t => .cons a (DpAll.set h i t)
theorem DpAll.take {K : PySem.W.Frag} {H : Hp} : ∀ {ds : List D} {vs : List V} (n : Nat), DpAll K H vs ds → DpAll K H (vs.take n) (ds.take n)
  | _, _, 0, _ => by simp; exact .nil
  | _, _, _ + 1, .nil => by simp; exact .nil
  | _, _, n + 1, .cons a t => by simp; exact .cons a (DpAll.take n t)
theorem DpAll.drop {K : PySem.W.Frag} {H : Hp} : ∀ {ds : List D} {vs : List V} (n : Nat), DpAll K H vs ds → DpAll K H (vs.drop n) (ds.drop n)
  | _, _, 0, h => by simpa using h
  | _, _, _ + 1, .nil => by simp; exact .nil
  | _, _, n + 1, .cons _ t => by simpa using DpAll.drop n t
theorem dpAll_ints {K : PySem.W.Frag} {H : Hp} : ∀ ns : List Int, DpAll K H (ns.map V.int) (ns.map PyData.int)
  | [] => .nil
  | n :: r => .cons (.int n) (dpAll_ints r)
theorem ints_of_dpAll {K : PySem.W.Frag} {H : Hp} : ∀ {ns : List Int} {vs : List V}, DpAll K H vs (ns.map PyData.int) → vs = ns.map V.int
  | [], _, h => by cases h; rfl
  | n :: r, _, h => by
    cases h with
    | cons a t =>
      cases a
      rw [ints_of_dpAll t]
      rfl

/-! ### keys of dicts -/
mutual
/-- keys that are tuples: of whole numbers, None, tuples of such -/
def keyN : D → Option NestedKey
  | .none => some .none
  | .int i => some (.num i)
  | .tuple ds => (keyNs ds).map .tup
  | _ => none
def keyNs : List D → Option (List NestedKey)
  | [] => some []
  | d :: ds => (keyN d).bind fun k => (keyNs ds).map fun ks => k :: ks
end
/-- keys that are whole numbers or texts -/
def keyK : D → Option Key
  | .int i => some (.inl i)
  | .str x => some (.inr x)
  | _ => none
/-- what stands at a dict of tuple keys (its entries' addresses known) -/
def XD (P : Program) (w : World) (a : Addr) (es : List (NestedKey × Addr × V)) : Heap → Prop := fun h => es.length ≤ sizeLine ∧ (a == sysModules) = false ∧ ∃ xs : List (NestedKey × Addr × Value),
  Paired (fun (p : NestedKey × Addr × V) (q : NestedKey × Addr × Value) => p.1 = q.1 ∧ p.2.1 = q.2.1 ∧ RelV p.2.2 q.2.2) es xs ∧
  ∃ o ea ep, h.get? a = some o ∧ o.ExactDict ∧ o.data = .dict ea ep ∧ ea.toList = xs.map (entryOfKey (nestedKind P w)) ∧ (xs.map (·.1)).Nodup
def lkd (lk : Bool) (u : HO) (x : Option HO) : Prop := match lk with
  | false => x = some u
  | true => ∃ o, x = some (.frz o u)
theorem lkd_mono {lk : Bool} {u : HO} {x y : Option HO} (k : ∀ v, x = some v → y = some v) (h : lkd lk u x) : lkd lk u y := by
  cases lk with
  | false => exact k _ h
  | true =>
    obtain ⟨o, h⟩ := h
    exact ⟨o, k _ h⟩
theorem lkd_here {lk : Bool} {u : HO} {x : Option HO} (h : lkd lk u x) : ∃ v, x = some v := by
  cases lk with
  | false => exact ⟨_, h⟩
  | true =>
    obtain ⟨o, h⟩ := h
    exact ⟨_, h⟩
abbrev KOk (K : PySem.W.Frag) (Ho : Hp) : List (Key × V) → List (D × D) → Prop := Paired fun p q => keyK q.1 = some p.1 ∧ Dp K Ho p.2 q.2
abbrev NOk (K : PySem.W.Frag) (Ho : Hp) : List (NestedKey × Addr × V) → List (D × D) → Prop := Paired fun p q => (keyN q.1 = some p.1 ∧ p.1.depth ≤ 8) ∧ Dp K Ho (.ref p.2.1) q.1 ∧ Dp K Ho p.2.2 q.2
/-- an object of the store at an address -/
def OR (K : PySem.W.Frag) (Ho H : Hp) (a : Addr) : Ob → Prop
  | .lst ds => ∃ xs, H a = some (.lst xs) ∧ DpAll K Ho xs ds
  | .dct false lk kvs => ∃ ks, lkd lk (.dK ks) (H a) ∧ KOk K Ho ks kvs
  | .dct true lk kvs => ∃ P w es, lkd lk (.ext (XD P w a es)) (H a) ∧ NOk K Ho es kvs
theorem OR.mono {K : PySem.W.Frag} {Ho Ho' H H' : Hp} {a : Addr} {o : Ob} (e : Same Ho Ho') (k : ∀ u, H a = some u → H' a = some u) (h : OR K Ho H a o) : OR K Ho' H' a o := by
  match o, h with
  | .lst ds, ⟨xs, h1, h2⟩ => exact ⟨xs, k _ h1, dps_mono e h2⟩
  | .dct false lk kvs, ⟨ks, h1, h2⟩ => exact ⟨ks, lkd_mono k h1, Paired.mapP h2 fun p q z => ⟨z.1, dp_mono e z.2⟩⟩
  | .dct true lk kvs, ⟨P, w, es, h1, h2⟩ => exact ⟨P, w, es, lkd_mono k h1, Paired.mapP h2 fun p q z => ⟨z.1, dp_mono e z.2.1, dp_mono e z.2.2⟩⟩
theorem OR.mono' {K : PySem.W.Frag} {Ho Ho' H H' : Hp} {a : Addr} {o : Ob} (h : OR K Ho H a o) (e : Same Ho Ho') (k : ∀ u, H a = some u → H' a = some u) : OR K Ho' H' a o := h.mono e k
theorem OR.here {K : PySem.W.Frag} {Ho H : Hp} {a : Addr} {o : Ob} (h : OR K Ho H a o) : ∃ u, H a = some u := by
  match o, h with
  | .lst ds, ⟨xs, h1, h2⟩ => exact ⟨_, h1⟩
  | .dct false lk kvs, ⟨ks, h1, h2⟩ => exact lkd_here h1
  | .dct true lk kvs, ⟨P, w, es, h1, h2⟩ => exact lkd_here h1

structure SR (ζ : Tbs) (K : PySem.W.Frag) (φ : Ad) (H : Hp) (m : M) : Prop where
  len : φ.s.length = m.length
  nd : φ.all.Nodup
  obj : ∀ (i : Nat) (o : Ob) (a : Addr), m[i]? = some o → φ.s[i]? = some a → OR K (off φ H) H a o
  hid : ∀ a ∈ φ.h, (∃ u, H a = some u ∧ isTb u = false) ∨ ∃ q, (a, q) ∈ φ.t
  teq : φ.t = ζ
  tin : ∀ p ∈ φ.t, p.1 ∈ φ.h
  tab : LamX.Tabs φ.t H
structure Gr (φ : Ad) (H : Hp) (φ' : Ad) (H' : Hp) : Prop where
  pre : φ.s <+: φ'.s
  eqh : φ'.h = φ.h
  eqt : φ'.t = φ.t
  same : Same (off φ H) (off φ' H')
  stay : ∀ a ∈ φ.h, ∀ u, H a = some u → (∀ ps, u ≠ .tbl ps) → H' a = some u
  frz : ∀ a o u, H a = some (.frz o u) → H' a = some (.frz o u)
/-- growth that says nothing of the hidden ones -/
structure Gw (φ : Ad) (H : Hp) (φ' : Ad) (H' : Hp) : Prop where
  pre : φ.s <+: φ'.s
  same : Same (off φ H) (off φ' H')
  frz : ∀ a o u, H a = some (.frz o u) → H' a = some (.frz o u)
theorem Gr.w {φ φ' : Ad} {H H' : Hp} (g : Gr φ H φ' H') : Gw φ H φ' H' := ⟨g.pre, g.same, g.frz⟩
theorem Gw.trans {φ φ' φ2 : Ad} {H H' H2 : Hp} (a : Gw φ H φ' H') (b : Gw φ' H' φ2 H2) : Gw φ H φ2 H2 := ⟨a.pre.trans b.pre, a.same.trans b.same, fun c o u e => b.frz c o u (a.frz c o u e)⟩
def RI (K : PySem.W.Frag) (φ : Ad) (H : Hp) (v : V) : D ⊕ Nat → Prop
  | .inl d => Dp K (off φ H) v d
  | .inr i => ∃ a, v = .ref a ∧ φ.s[i]? = some a
def RR (K : PySem.W.Frag) (φ : Ad) (H : Hp) (v : V) : R → Prop
  | .val d => Dp K (off φ H) v d
  | .ref i => ∃ a, v = .ref a ∧ φ.s[i]? = some a
  | .tp rs => ∃ a vs, v = .ref a ∧ SqT K (off φ H) a vs ∧ Paired (RI K φ H) vs rs
abbrev RRs (K : PySem.W.Frag) (φ : Ad) (H : Hp) : List V → List R → Prop := Paired (RR K φ H)
structure ER (K : PySem.W.Frag) (φ : Ad) (H : Hp) (σ : L2.St) (env : Sl) : Prop where
  len : σ.length = env.length
  at_ : ∀ (i : Nat) (r : R), env[i]? = some (some r) → ∃ v, σ[i]? = some (some v) ∧ RR K φ H v r

section
variable {K : PySem.W.Frag} {φ φ' φ2 : Ad} {H H' H2 : Hp} {m m' : M} {σ : L2.St} {env : Sl} {v : V} {r : R}
theorem Gr.refl : Gr φ H φ H := ⟨List.prefix_refl _, rfl, rfl, fun _ _ h => h, fun _ _ _ h _ => h, fun _ _ _ h => h⟩
theorem Gr.trans (a : Gr φ H φ' H') (b : Gr φ' H' φ2 H2) : Gr φ H φ2 H2 := ⟨a.pre.trans b.pre, b.eqh.trans a.eqh, b.eqt.trans a.eqt, a.same.trans b.same, fun c hc u e n => b.stay c (by rw [a.eqh]; exact hc) u (a.stay c hc u e n) n, fun c o u e => b.frz c o u (a.frz c o u e)⟩
theorem prefix_get {α : Type} {l l' : List α} (h : l <+: l') {i : Nat} {x : α} (e : l[i]? = some x) : l'[i]? = some x := by
  obtain ⟨t, rfl⟩ := h
  rw [List.getElem?_append_left (List.getElem?_eq_some_iff.mp e).1]
  exact e
theorem RI.monoS (hp : φ.s <+: φ'.s) (hs : Same (off φ H) (off φ' H')) : ∀ {r : D ⊕ Nat} {v : V}, RI K φ H v r → RI K φ' H' v r
  | .inl _, _, h => dp_mono hs h
  | .inr _, _, ⟨a, e, h⟩ => ⟨a, e, prefix_get hp h⟩
theorem RR.monoS (hp : φ.s <+: φ'.s) (hs : Same (off φ H) (off φ' H')) : ∀ {r : R} {v : V}, RR K φ H v r → RR K φ' H' v r
  | .val _, _, h => dp_mono hs h
  | .ref _, _, ⟨a, e, h⟩ => ⟨a, e, prefix_get hp h⟩
  | .tp _, _, ⟨a, vs, e, h, t⟩ => ⟨a, vs, e, sqT_mono hs h, Paired.mapP t fun _ _ z => RI.monoS hp hs z⟩
theorem RR.monoW (g : Gw φ H φ' H') {r : R} {v : V} (h : RR K φ H v r) : RR K φ' H' v r := RR.monoS g.pre g.same h
theorem RR.mono (g : Gr φ H φ' H') {r : R} {v : V} (h : RR K φ H v r) : RR K φ' H' v r := h.monoW g.w
theorem RRs.mono (g : Gr φ H φ' H') : ∀ {rs : List R} {vs : List V}, RRs K φ H vs rs → RRs K φ' H' vs rs
  | _, _, .nil => .nil
  | _, _, .cons a t => .cons (RR.mono g a) (RRs.mono g t)
theorem ER.monoW (g : Gw φ H φ' H') (e : ER K φ H σ env) : ER K φ' H' σ env := ⟨e.len, fun i r h => by
  obtain ⟨v, h1, h2⟩ := e.at_ i r h
  exact ⟨v, h1, h2.monoW g⟩⟩
theorem ER.mono (g : Gr φ H φ' H') (e : ER K φ H σ env) : ER K φ' H' σ env := e.monoW g.w
theorem SR.in_ (s : SR ζ K φ H m) {a : Addr} (h : a ∈ φ.all) : ∃ u, H a = some u := by
  rcases Ad.mem.mp h with h | h
  · obtain ⟨i, hi, e⟩ := List.mem_iff_getElem.mp h
    have hm : i < m.length := by rw [← s.len]; exact hi
    exact (s.obj i m[i] a (List.getElem?_eq_getElem hm) (by rw [List.getElem?_eq_getElem hi, e])).here
  · rcases s.hid a h with ⟨u, e, _⟩ | ⟨q, e⟩
    · exact ⟨u, e⟩
    · obtain ⟨ps, e1, _⟩ := s.tab _ e
      exact ⟨_, e1⟩
theorem SR.new (s : SR ζ K φ H m) {p : Addr} (h : H p = none) : p ∉ φ.all := fun z => by
  obtain ⟨u, e⟩ := s.in_ z
  rw [h] at e
  cases e
theorem upd_stay {p b : Addr} {o u : HO} (h : H p = none) (e : H b = some u) : upd H p o b = some u := by
  rw [upd_ne (ne_of_none e h)]
  exact e
theorem gr_alloc {p : Addr} {o : HO} (h : H p = none) : Gr φ H φ (upd H p o) := ⟨List.prefix_refl _, rfl, rfl, fun b u e => by
  rw [off_some] at e ⊢
  exact ⟨e.1, upd_stay h e.2.1, e.2.2⟩, fun _ _ _ e _ => upd_stay h e, fun _ _ _ e => upd_stay h e⟩
theorem SR.alloc (s : SR ζ K φ H m) {p : Addr} {o : HO} (h : H p = none) : SR ζ K φ (upd H p o) m := ⟨s.len, s.nd, fun i ob a e1 e2 =>
  (s.obj i ob a e1 e2).mono (gr_alloc h).same fun u z => upd_stay h z, fun a ha => by
    exact (s.hid a ha).imp (fun ⟨u, e, n⟩ => ⟨u, upd_stay h e, n⟩) id, s.teq, s.tin, s.tab.ext fun b u e => upd_stay h e⟩
/-- the new object enters the store -/
theorem gr_enter {p : Addr} {o : HO} (h : H p = none) : Gr φ H (φ.add p) (upd H p o) := ⟨List.prefix_append _ _, rfl, rfl, fun b u e => by
  rw [off_some] at e ⊢
  have hb : b ≠ p := ne_of_none e.2.1 h
  refine ⟨fun z => ?_, upd_stay h e.2.1, e.2.2⟩
  rcases Ad.mem.mp z with z | z
  · rcases List.mem_append.mp z with z | z
    · exact e.1 (Ad.mem.mpr (.inl z))
    · simp at z
      exact hb z
  · exact e.1 (Ad.mem.mpr (.inr z)), fun _ _ _ e _ => upd_stay h e, fun _ _ _ e => upd_stay h e⟩
theorem nodup_add {p : Addr} (h : φ.all.Nodup) (np : p ∉ φ.all) : (φ.add p).all.Nodup := by
  unfold Ad.all Ad.add at *
  rw [List.append_assoc, List.nodup_append] at *
  obtain ⟨h1, h2, h3⟩ := h
  refine ⟨h1, ?_, fun a ha b hb => ?_⟩
  · show (p :: φ.h).Nodup
    exact List.nodup_cons.mpr ⟨fun z => np (List.mem_append_right _ z), h2⟩
  · rcases List.mem_cons.mp (show b ∈ p :: φ.h from hb) with e | e
    · subst e
      exact fun z => np (List.mem_append_left _ (z ▸ ha))
    · exact h3 a ha b e
theorem SR.enterO (s : SR ζ K φ H m) {p : Addr} {o : HO} {ob : Ob} (h : H p = none) (hd : OR K (off φ H) (upd H p o) p ob) : SR ζ K (φ.add p) (upd H p o) (m ++ [ob]) := by
  have np := s.new h
  have g : Gr φ H (φ.add p) (upd H p o) := gr_enter h
  refine ⟨by unfold Ad.add; rw [List.length_append, List.length_append, s.len]; rfl, nodup_add s.nd np, fun i ob a e1 e2 => ?_, fun a ha => ?_, s.teq, s.tin, s.tab.ext fun b u e => upd_stay h e⟩
  · unfold Ad.add at e2
    simp only at e2
    by_cases hi : i < m.length
    · rw [List.getElem?_append_left hi] at e1
      rw [List.getElem?_append_left (by rw [s.len]; exact hi)] at e2
      exact (s.obj i ob a e1 e2).mono g.same fun u z => upd_stay h z
    · have e : i = m.length := by
        have := (List.getElem?_eq_some_iff.mp e1).1
        rw [List.length_append] at this
        simp at this
        omega
      subst e
      rw [List.getElem?_append_right (Nat.le_refl _), Nat.sub_self] at e1
      rw [← s.len, List.getElem?_append_right (Nat.le_refl _), Nat.sub_self] at e2
      simp at e1 e2
      subst e1 e2
      exact hd.mono g.same fun u z => z
  · exact (s.hid a ha).imp (fun ⟨u, e, n⟩ => ⟨u, upd_stay h e, n⟩) id
theorem SR.enter (s : SR ζ K φ H m) {p : Addr} {xs : List V} {ds : List D} (h : H p = none) (hd : DpAll K (off φ H) xs ds) : SR ζ K (φ.add p) (upd H p (.lst xs)) (m ++ [.lst ds]) :=
  s.enterO h ⟨xs, upd_same, hd⟩
/-- an object of the store is changed -/
theorem nodup_at {α : Type} : ∀ {l : List α} {i j : Nat} {x : α}, l.Nodup → l[i]? = some x → l[j]? = some x → i = j := fun {l i j x} hn a b => by
  obtain ⟨h1, e1⟩ := List.getElem?_eq_some_iff.mp a
  obtain ⟨h2, e2⟩ := List.getElem?_eq_some_iff.mp b
  exact (List.getElem_inj hn).mp (e1.trans e2.symm)
theorem SR.nds (s : SR ζ K φ H m) : φ.s.Nodup := (List.nodup_append.mp s.nd).1
theorem SR.apart (s : SR ζ K φ H m) {a : Addr} (h : a ∈ φ.s) : a ∉ φ.h := fun z => (List.nodup_append.mp s.nd).2.2 a h a z rfl
/-- tables do not mind what is no table and no code object -/
theorem tabs_keep {T : List (Addr × Str)} {H H' : Hp} (t : LamX.Tabs T H) (e : ∀ b o, H b = some o → ((∃ ps, o = .tbl ps) ∨ ∃ q, o = LamX.CodeO b q) → H' b = some o) : LamX.Tabs T H' := fun p hp => by
  obtain ⟨ps, h1, h2, h3⟩ := t p hp
  refine ⟨ps, e _ _ h1 (.inl ⟨ps, rfl⟩), h2, fun pos cv hc => ?_⟩
  obtain ⟨c, e1, e2⟩ := h3 pos cv hc
  exact ⟨c, e1, e _ _ e2 (.inr ⟨_, rfl⟩)⟩
theorem codeO_lst {b : Addr} {q : Str} {xs : List V} : HO.lst xs ≠ LamX.CodeO b q := fun z => by
  unfold LamX.CodeO at z
  cases z
/-- neither a table nor a code object -/
def NoTC (a : Addr) (o : HO) : Prop := (∀ ps, o ≠ .tbl ps) ∧ ∀ q, o ≠ LamX.CodeO a q
theorem xd_code {P : Program} {w : World} {a : Addr} {es : List (NestedKey × Addr × V)} {q : Str} : HO.ext (XD P w a es) ≠ LamX.CodeO a q := fun z => by
  unfold LamX.CodeO at z
  injection z with z
  let oc : Obj := { cls := .none, data := .fields #[.none, .str q 0] }
  have hg : (⟨Array.replicate (a + 1) oc, {}⟩ : Heap).get? a = some oc := by
    unfold Heap.get?
    rw [show (⟨Array.replicate (a + 1) oc, {}⟩ : Heap).objs[a]? = some oc by simp]
  have e := congrFun z ⟨Array.replicate (a + 1) oc, {}⟩
  have f : XD P w a es ⟨Array.replicate (a + 1) oc, {}⟩ := by
    rw [e]
    exact ⟨oc, _, 0, hg, rfl, rfl⟩
  obtain ⟨_, _, xs, _, o, ea, ep, h1, _, h2, _⟩ := f
  rw [hg] at h1
  cases h1
  cases h2
theorem lkd_tc {lk : Bool} {u v : HO} {x : Option HO} {a : Addr} (hu : NoTC a u) (h : lkd lk u x) (e : x = some v) : NoTC a v := by
  cases lk with
  | false =>
    rw [show x = some u from h] at e
    cases e
    exact hu
  | true =>
    obtain ⟨o, h⟩ := h
    rw [h] at e
    cases e
    exact ⟨fun _ z => (nomatch z), fun _ z => (by unfold LamX.CodeO at z; cases z)⟩
theorem OR.tc {K : PySem.W.Frag} {Ho H : Hp} {a : Addr} {ob : Ob} {v : HO} (h : OR K Ho H a ob) (e : H a = some v) : NoTC a v := by
  match ob, h with
  | .lst ds, ⟨xs, h1, h2⟩ =>
    rw [h1] at e
    cases e
    exact ⟨fun _ z => (nomatch z), fun _ z => (by unfold LamX.CodeO at z; cases z)⟩
  | .dct false lk kvs, ⟨ks, h1, h2⟩ => exact lkd_tc (u := .dK ks) ⟨fun _ z => (nomatch z), fun _ z => (by unfold LamX.CodeO at z; cases z)⟩ h1 e
  | .dct true lk kvs, ⟨P, w, es, h1, h2⟩ => exact lkd_tc (u := .ext (XD P w a es)) ⟨fun _ z => (nomatch z), fun _ => xd_code⟩ h1 e
theorem tabs_writeO {T : List (Addr × Str)} {H : Hp} {a : Addr} {v o : HO} (t : LamX.Tabs T H) (h : H a = some v) (n : NoTC a v) : LamX.Tabs T (upd H a o) := tabs_keep t fun b u e k => by
  have nb : b ≠ a := fun z => by
    rw [z, h] at e
    cases e
    rcases k with ⟨ps, k⟩ | ⟨q, k⟩
    · exact n.1 ps k
    · exact n.2 q (z ▸ k)
  rw [upd_ne nb]
  exact e
theorem tabs_write {T : List (Addr × Str)} {H : Hp} {a : Addr} {xs : List V} {o : HO} (t : LamX.Tabs T H) (h : H a = some (.lst xs)) : LamX.Tabs T (upd H a o) :=
  tabs_writeO t h ⟨fun _ z => (nomatch z), fun _ z => (by unfold LamX.CodeO at z; cases z)⟩
theorem gr_write {a : Addr} {o : HO} (h : a ∈ φ.s) (hn : a ∉ φ.h) (nf : ∀ ob u, H a ≠ some (.frz ob u)) : Gr φ H φ (upd H a o) := ⟨List.prefix_refl _, rfl, rfl, fun b u e => by
  rw [off_some] at e ⊢
  refine ⟨e.1, ?_, e.2.2⟩
  rw [upd_ne (fun z : b = a => e.1 (Ad.mem.mpr (.inl (by rw [z]; exact h))))]
  exact e.2.1, fun b hb u e _ => by
  rw [upd_ne (fun z : b = a => hn (by rw [← z]; exact hb))]
  exact e, fun b ob u e => by
  rw [upd_ne (fun z : b = a => nf ob u (by rw [← z]; exact e))]
  exact e⟩
/-- the object of an address changes; off stays -/
theorem off_write {a : Addr} {o : HO} (h : a ∈ φ.s) : Same (off φ H) (off φ (upd H a o)) := fun b u e => by
  rw [off_some] at e ⊢
  refine ⟨e.1, ?_, e.2.2⟩
  rw [upd_ne (fun z : b = a => e.1 (Ad.mem.mpr (.inl (by rw [z]; exact h))))]
  exact e.2.1
theorem SR.writeO (s : SR ζ K φ H m) {a : Addr} {i : Nat} {o : HO} {ob : Ob} (h : φ.s[i]? = some a) (hd : OR K (off φ H) (upd H a o) a ob) : SR ζ K φ (upd H a o) (m.set i ob) := by
  have ha : a ∈ φ.s := List.mem_of_getElem? h
  have hn := s.apart ha
  have g : Same (off φ H) (off φ (upd H a o)) := off_write ha
  have hi : i < m.length := by rw [← s.len]; exact (List.getElem?_eq_some_iff.mp h).1
  obtain ⟨ob0, hob0⟩ : ∃ ob, m[i]? = some ob := ⟨m[i], List.getElem?_eq_getElem hi⟩
  have q := s.obj i ob0 a hob0 h
  obtain ⟨v0, hv0⟩ := q.here
  refine ⟨by rw [List.length_set]; exact s.len, s.nd, fun j ob b e1 e2 => ?_, fun b hb => ?_, s.teq, s.tin, tabs_writeO s.tab hv0 (q.tc hv0)⟩
  · by_cases hj : j = i
    · subst hj
      rw [List.getElem?_set_self hi] at e1
      rw [h] at e2
      cases e1
      cases e2
      exact hd.mono g fun u z => z
    · rw [List.getElem?_set_ne (fun z => hj z.symm)] at e1
      have nb : b ≠ a := fun z => hj (nodup_at s.nds (z ▸ e2) h)
      exact (s.obj j ob b e1 e2).mono g fun u z => by rw [upd_ne nb]; exact z
  · exact (s.hid b hb).imp (fun ⟨u, e, n⟩ => ⟨u, by rw [upd_ne (fun z : b = a => hn (by rw [← z]; exact hb))]; exact e, n⟩) id
theorem SR.write (s : SR ζ K φ H m) {a : Addr} {i : Nat} {xs : List V} {ds : List D} (h : φ.s[i]? = some a) (hd : DpAll K (off φ H) xs ds) : SR ζ K φ (upd H a (.lst xs)) (m.set i (.lst ds)) :=
  s.writeO h ⟨xs, upd_same, hd⟩
theorem nf_lst {H : Hp} {a : Addr} {xs : List V} (h : H a = some (.lst xs)) : ∀ ob u, H a ≠ some (.frz ob u) := fun ob u e => by
  rw [h] at e
  cases e
theorem nf_dK {H : Hp} {a : Addr} {xs : List (Key × V)} (h : H a = some (.dK xs)) : ∀ ob u, H a ≠ some (.frz ob u) := fun ob u e => by
  rw [h] at e
  cases e
theorem nf_ext {H : Hp} {a : Addr} {x : Heap → Prop} (h : H a = some (.ext x)) : ∀ ob u, H a ≠ some (.frz ob u) := fun ob u e => by
  rw [h] at e
  cases e
theorem ER.get (e : ER K φ H σ env) {i : Nat} {r : R} (h : env[i]? = some (some r)) : ∃ v, σ[i]? = some (some v) ∧ RR K φ H v r := e.at_ i r h
theorem ER.set (e : ER K φ H σ env) (h : RR K φ H v r) (i : Nat) : ER K φ H (σ.set i (some v)) (env.set i (some r)) := ⟨by rw [List.length_set, List.length_set]; exact e.len, fun j r' he => by
  by_cases hj : j = i
  · subst hj
    have hlt : j < env.length := by
      have := (List.getElem?_eq_some_iff.mp he).1
      rwa [List.length_set] at this
    rw [List.getElem?_set_self hlt] at he
    cases he
    exact ⟨v, by rw [List.getElem?_set_self (by rw [e.len]; exact hlt)], h⟩
  · rw [List.getElem?_set_ne (fun z => hj z.symm)] at he ⊢
    exact e.at_ j r' he⟩
end

/-! ### readings of functions -/
abbrev EF := Sl → M → Option (R × M)
abbrev AF := Sl → M → Option (List R × M)
abbrev TF := Sl → M → Option (Bool × M)
def tE (ζ : Tbs) (K : PySem.W.Frag) (f : EF) : TE := fun σ H Q => ∃ φ env m r m', SR ζ K φ H m ∧ ER K φ H σ env ∧ f env m = some (r, m') ∧
  ∀ φ' H' v, Gr φ H φ' H' → SR ζ K φ' H' m' → RR K φ' H' v r → Q v H'
def tA (ζ : Tbs) (K : PySem.W.Frag) (f : AF) : TA := fun σ H Q => ∃ φ env m rs m', SR ζ K φ H m ∧ ER K φ H σ env ∧ f env m = some (rs, m') ∧
  ∀ φ' H' vs, Gr φ H φ' H' → SR ζ K φ' H' m' → RRs K φ' H' vs rs → Q vs H'
def tT (ζ : Tbs) (K : PySem.W.Frag) (f : TF) : TT := fun σ H Q => ∃ φ env m b m', SR ζ K φ H m ∧ ER K φ H σ env ∧ f env m = some (b, m') ∧
  ∀ φ' H', Gr φ H φ' H' → SR ζ K φ' H' m' → Q b H'
/-- an operation of two values -/
def r2P (ζ : Tbs) (K : PySem.W.Frag) (p : R → R → M → Option (R × M)) : R2 := fun x y H Q => ∃ φ m r1 r2 r m', SR ζ K φ H m ∧ RR K φ H x r1 ∧ RR K φ H y r2 ∧ p r1 r2 m = some (r, m') ∧
  ∀ φ' H' v, Gr φ H φ' H' → SR ζ K φ' H' m' → RR K φ' H' v r → Q v H'
def r1P (ζ : Tbs) (K : PySem.W.Frag) (p : R → M → Option (R × M)) : V → Hp → VK → Prop := fun x H Q => ∃ φ m r1 r m', SR ζ K φ H m ∧ RR K φ H x r1 ∧ p r1 m = some (r, m') ∧
  ∀ φ' H' v, Gr φ H φ' H' → SR ζ K φ' H' m' → RR K φ' H' v r → Q v H'
def rsP (ζ : Tbs) (K : PySem.W.Frag) (p : List R → M → Option (R × M)) : List V → Hp → VK → Prop := fun xs H Q => ∃ φ m rs r m', SR ζ K φ H m ∧ RRs K φ H xs rs ∧ p rs m = some (r, m') ∧
  ∀ φ' H' v, Gr φ H φ' H' → SR ζ K φ' H' m' → RR K φ' H' v r → Q v H'

theorem pe_imp {X : Cx} {e : Expr} {t t' : TE} (h : PE X e t) (k : ∀ σ H Q, t' σ H Q → t σ H Q) : PE X e t' := ⟨fun pins s σ H Q I q => h.run pins s σ H Q I (k σ H Q q)⟩
theorem pt_imp {X : Cx} {e : Expr} {t t' : TT} (h : PT X e t) (k : ∀ σ H Q, t' σ H Q → t σ H Q) : PT X e t' := ⟨fun pins s σ H Q I q => h.run pins s σ H Q I (k σ H Q q)⟩
theorem pw_imp {X : Cx} {e : Expr} {t t' : TT} (h : PW X e t) (k : ∀ σ H Q, t' σ H Q → t σ H Q) : PW X e t' := ⟨fun wh pins s σ H Q I q => h.run wh pins s σ H Q I (k σ H Q q)⟩
theorem pa_imp {X : Cx} {e : List Expr} {t t' : TA} (h : PA X e t) (k : ∀ σ H Q, t' σ H Q → t σ H Q) : PA X e t' := ⟨fun ps pins s σ H Q I q => h.run ps pins s σ H Q I (k σ H Q q)⟩
theorem ps_imp {X : Cx} {e : Stmt} {t t' : TS} (h : PS X e t) (k : ∀ D σ H, t' D σ H → t D σ H) : PS X e t' := ⟨fun pins s σ H D I q => h.run pins s σ H D I (k D σ H q)⟩
theorem pss_imp {X : Cx} {e : List Stmt} {t t' : TS} (h : PSs X e t) (k : ∀ D σ H, t' D σ H → t D σ H) : PSs X e t' := ⟨fun pins s σ H D I q => h.run pins s σ H D I (k D σ H q)⟩
theorem pi_imp {X : Cx} {tg e : Expr} {t t' : TI} (h : PI X tg e t) (k : ∀ σ H R, t' σ H R → t σ H R) : PI X tg e t' := ⟨fun pins s σ H R I q => h.run pins s σ H R I (k σ H R q)⟩

/-! ### the functions -/
def eVar (i : Nat) : EF := fun env m => match env[i]? with
  | some (some r) => some (r, m)
  | _ => none
def eC (d : D) : EF := fun _ m => some (.val d, m)
def eBin (p : R → R → M → Option (R × M)) (f g : EF) : EF := fun env m => (f env m).bind fun x => (g env x.2).bind fun y => p x.1 y.1 y.2
def eUn (p : R → M → Option (R × M)) (f : EF) : EF := fun env m => (f env m).bind fun x => p x.1 x.2
def aNil : AF := fun _ m => some ([], m)
def aCons (f : EF) (g : AF) : AF := fun env m => (f env m).bind fun x => (g env x.2).bind fun y => some (x.1 :: y.1, y.2)
def eAp (p : List R → M → Option (R × M)) (f : AF) : EF := fun env m => (f env m).bind fun x => p x.1 x.2
def asB : R → Option Bool
  | .val (.bool b) => some b
  | _ => none
def tOf (f : EF) : TF := fun env m => (f env m).bind fun x => (asB x.1).bind fun b => some (b, x.2)
def tNotF (f : TF) : TF := fun env m => (f env m).bind fun x => some (!x.1, x.2)
def tAndF (f g : TF) : TF := fun env m => (f env m).bind fun x => if x.1 = true then g env x.2 else some (false, x.2)
def tOrF (f g : TF) : TF := fun env m => (f env m).bind fun x => if x.1 = true then some (true, x.2) else g env x.2
def eOf (f : TF) : EF := fun env m => (f env m).bind fun x => some (.val (.bool x.1), x.2)
def eIf (c : TF) (f g : EF) : EF := fun env m => (c env m).bind fun x => if x.1 = true then f env x.2 else g env x.2
/-- a op b op' c -/
def eChain (p q : R → R → M → Option (R × M)) (f g h : EF) : EF := fun env m => (f env m).bind fun x => (g env x.2).bind fun y => (p x.1 y.1 y.2).bind fun z =>
  (asB z.1).bind fun b => if b = true then (h env z.2).bind fun w => q y.1 w.1 w.2 else some (.val (.bool false), z.2)
theorem bind_some_iff {α β : Type} {o : Option α} {f : α → Option β} {b : β} (h : o.bind f = some b) : ∃ a, o = some a ∧ f a = some b := by
  cases o with
  | none => cases h
  | some a => exact ⟨a, rfl, h⟩
theorem asB_some {r : R} {b : Bool} (h : asB r = some b) : r = .val (.bool b) := by
  cases r with
  | ref i => cases h
  | tp i => cases h
  | val d =>
    cases d with
    | bool c =>
      cases h
      rfl
    | _ => cases h
theorem rr_bool {K : PySem.W.Frag} {φ : Ad} {H : Hp} {v : V} {b : Bool} (h : RR K φ H v (.val (.bool b))) : v = .bl b := by
  have h' : Dp K (off φ H) v (.bool b) := h
  cases h'
  rfl

section
variable {X : Cx} {a b c e : Expr} {es : List Expr} {f g h : EF} {fa : AF} {tf tg : TF} {pos : Pos}
theorem x_var {i : Nat} {x : Str} (hp : PE X (.Name x pos) (tVar i)) : PE X (.Name x pos) (tE ζ X.K (eVar i)) := pe_imp hp fun σ H Q q => by
  obtain ⟨φ, env, m, r, m', S, E, hf, k⟩ := q
  have hr : env[i]? = some (some r) ∧ m = m' := by
    unfold eVar at hf
    split at hf
    · rename_i r' h
      cases hf
      exact ⟨h, rfl⟩
    · cases hf
  obtain ⟨v, h1, h2⟩ := E.get hr.1
  exact ⟨v, h1, k φ H v .refl (hr.2 ▸ S) h2⟩
theorem x_c {d : D} {v : V} (hp : PE X e (tC v)) (hv : ∀ H, Dp X.K H v d) : PE X e (tE ζ X.K (eC d)) := pe_imp hp fun σ H Q q => by
  obtain ⟨φ, env, m, r, m', S, E, hf, k⟩ := q
  cases hf
  exact k φ H v .refl S (hv _)
theorem x_int {i : Int} {j : Nat} : PE X (.Constant (.int i) j pos) (tE ζ X.K (eC (.int i))) := x_c pe_int fun _ => .int i
theorem x_bl {i : Bool} {j : Nat} : PE X (.Constant (.bool i) j pos) (tE ζ X.K (eC (.bool i))) := x_c pe_bl fun _ => .bl i
theorem x_non {j : Nat} : PE X (.Constant .none j pos) (tE ζ X.K (eC .none)) := x_c pe_non fun _ => .non
theorem x_str {z : Str} {j : Nat} : PE X (.Constant (.str z) j pos) (tE ζ X.K (eC (.str z))) := x_c pe_str fun _ => .str z
/-- two values one after the other, then an operation -/
theorem two_imp {K : PySem.W.Frag} {p : R → R → M → Option (R × M)} {σ : L2.St} {H : Hp} {Q : VK} (q : tE ζ K (eBin p f g) σ H Q) : tOp (r2P ζ K p) (tE ζ K f) (tE ζ K g) σ H Q := by
  obtain ⟨φ, env, m, r, m', S, E, hf, k⟩ := q
  obtain ⟨⟨r1, m1⟩, h1, hf⟩ := bind_some_iff hf
  obtain ⟨⟨r2, m2⟩, h2, hf⟩ := bind_some_iff hf
  refine ⟨φ, env, m, r1, m1, S, E, h1, fun φ1 H1 v1 g1 S1 R1 => ?_⟩
  refine ⟨φ1, env, m1, r2, m2, S1, E.mono g1, h2, fun φ2 H2 v2 g2 S2 R2 => ?_⟩
  exact ⟨φ2, m2, r1, r2, r, m', S2, R1.mono g2, R2, hf, fun φ3 H3 v3 g3 S3 R3 => k φ3 H3 v3 (g1.trans (g2.trans g3)) S3 R3⟩
theorem x_bin {op : Operator} {p : R → R → M → Option (R × M)} (ho : OpR X (binaryOp op) (r2P ζ X.K p)) (ha : PE X a (tE ζ X.K f)) (hb : PE X b (tE ζ X.K g)) : PE X (.BinOp a op b pos) (tE ζ X.K (eBin p f g)) :=
  pe_imp (pe_op ho ha hb) fun _ _ _ q => two_imp q
theorem x_cmp {op : CmpOp} {p : R → R → M → Option (R × M)} (ho : OpR X (compareOp op) (r2P ζ X.K p)) (ha : PE X a (tE ζ X.K f)) (hb : PE X b (tE ζ X.K g)) (hm : behindInMarks op b = false) : PE X (.Compare a [op] [b] pos) (tE ζ X.K (eBin p f g)) :=
  pe_imp (pe_cmpR ho ha hb hm) fun _ _ _ q => two_imp q
theorem x_un {op : UnaryOp} {p : R → M → Option (R × M)} (ho : UnR X (unaryOp op) (r1P ζ X.K p)) (ha : PE X a (tE ζ X.K f)) : PE X (.UnaryOp op a pos) (tE ζ X.K (eUn p f)) :=
  pe_imp (pe_un ho ha) fun σ H Q q => by
    obtain ⟨φ, env, m, r, m', S, E, hf, k⟩ := q
    obtain ⟨⟨r1, m1⟩, h1, hf⟩ := bind_some_iff hf
    refine ⟨φ, env, m, r1, m1, S, E, h1, fun φ1 H1 v1 g1 S1 R1 => ?_⟩
    exact ⟨φ1, m1, r1, r, m', S1, R1, hf, fun φ3 H3 v3 g3 S3 R3 => k φ3 H3 v3 (g1.trans g3) S3 R3⟩
/-- a value known to be a bool, as a test -/
theorem tst_imp {K : PySem.W.Frag} {σ : L2.St} {H : Hp} {Q : Bool → Hp → Prop} (q : tT ζ K (tOf f) σ H Q) : tTest (tE ζ K f) σ H Q := by
  obtain ⟨φ, env, m, r, m', S, E, hf, k⟩ := q
  obtain ⟨⟨r1, m1⟩, h1, hf⟩ := bind_some_iff hf
  obtain ⟨b, hb, hf⟩ := bind_some_iff hf
  cases hf
  have hb' := asB_some hb
  simp only at hb'
  subst hb'
  exact ⟨φ, env, m, _, m1, S, E, h1, fun φ1 H1 v1 g1 S1 R1 => ⟨_, rr_bool R1, k φ1 H1 g1 S1⟩⟩
theorem y_cmp {op : CmpOp} {p : R → R → M → Option (R × M)} (ho : OpR X (compareOp op) (r2P ζ X.K p)) (ha : PE X a (tE ζ X.K f)) (hb : PE X b (tE ζ X.K g)) (hm : behindInMarks op b = false) : PT X (.Compare a [op] [b] pos) (tT ζ X.K (tOf (eBin p f g))) :=
  pt_imp (pt_cmpR ho ha hb hm) fun σ H Q q => by
    have h1 := tst_imp q
    exact two_imp (Q := fun x H' => ∃ k, x = .bl k ∧ Q k H') h1
/-- any expression without a way of its own as a test -/
theorem y_val (he : PE X e (tE ζ X.K f)) (hw : ∀ whole, isTrue e X.env whole = (do let v ← whole; standAt e.pos; holding [v] (truthy v)) := by intro _; rfl) : PT X e (tT ζ X.K (tOf f)) :=
  pt_imp (pt_val he hw) fun _ _ _ q => tst_imp q
theorem chain_imp {K : PySem.W.Frag} {p p' : R → R → M → Option (R × M)} {σ : L2.St} {H : Hp} {Q : VK} (q : tE ζ K (eChain p p' f g h) σ H Q) : tChain (r2P ζ K p) (r2P ζ K p') (tE ζ K f) (tE ζ K g) (tE ζ K h) σ H Q := by
  obtain ⟨φ, env, m, r, m', S, E, hf, k⟩ := q
  obtain ⟨⟨r1, m1⟩, h1, hf⟩ := bind_some_iff hf
  obtain ⟨⟨r2, m2⟩, h2, hf⟩ := bind_some_iff hf
  obtain ⟨⟨r3, m3⟩, h3, hf⟩ := bind_some_iff hf
  obtain ⟨b, hb, hf⟩ := bind_some_iff hf
  have hb' := asB_some hb
  simp only at hb'
  subst hb'
  refine ⟨φ, env, m, r1, m1, S, E, h1, fun φ1 H1 v1 g1 S1 R1 => ?_⟩
  refine ⟨φ1, env, m1, r2, m2, S1, E.mono g1, h2, fun φ2 H2 v2 g2 S2 R2 => ?_⟩
  refine ⟨φ2, m2, r1, r2, _, m3, S2, R1.mono g2, R2, h3, fun φ3 H3 v3 g3 S3 R3 => ⟨b, rr_bool R3, ?_⟩⟩
  cases b with
  | false =>
    rw [if_neg Bool.false_ne_true]
    simp only [Bool.false_eq_true, if_false] at hf
    cases hf
    exact k φ3 H3 _ (g1.trans (g2.trans g3)) S3 (Dp.bl false)
  | true =>
    rw [if_pos rfl]
    simp only [if_true] at hf
    obtain ⟨⟨r4, m4⟩, h4, hf⟩ := bind_some_iff hf
    refine ⟨φ3, env, m3, r4, m4, S3, E.mono (g1.trans (g2.trans g3)), h4, fun φ4 H4 v4 g4 S4 R4 => ?_⟩
    exact ⟨φ4, m4, r2, r4, r, m', S4, R2.mono (g3.trans g4), R4, hf, fun φ5 H5 v5 g5 S5 R5 => k φ5 H5 v5 (g1.trans (g2.trans (g3.trans (g4.trans g5)))) S5 R5⟩
theorem x_chain {op op' : CmpOp} {p p' : R → R → M → Option (R × M)} (ho : OpR X (compareOp op) (r2P ζ X.K p)) (ho' : OpR X (compareOp op') (r2P ζ X.K p')) (ha : PE X a (tE ζ X.K f)) (hb : PE X b (tE ζ X.K g)) (hc : PE X c (tE ζ X.K h))
    (hm : lastMarks [op, op'] [b, c] = false := by with_unfolding_all rfl) : PE X (.Compare a [op, op'] [b, c] pos) (tE ζ X.K (eChain p p' f g h)) :=
  pe_imp (pe_chain ho ho' ha hb hc hm) fun _ _ _ q => chain_imp q
theorem y_chain {op op' : CmpOp} {p p' : R → R → M → Option (R × M)} (ho : OpR X (compareOp op) (r2P ζ X.K p)) (ho' : OpR X (compareOp op') (r2P ζ X.K p')) (ha : PE X a (tE ζ X.K f)) (hb : PE X b (tE ζ X.K g)) (hc : PE X c (tE ζ X.K h))
    (hm : lastMarks [op, op'] [b, c] = false := by with_unfolding_all rfl) : PT X (.Compare a [op, op'] [b, c] pos) (tT ζ X.K (tOf (eChain p p' f g h))) :=
  pt_imp (pt_chain ho ho' ha hb hc hm) fun σ H Q q => by
    have h1 := tst_imp q
    exact chain_imp (Q := fun x H' => ∃ k, x = .bl k ∧ Q k H') h1
theorem y_not (ha : PT X a (tT ζ X.K tf)) : PT X (.UnaryOp .Not a pos) (tT ζ X.K (tNotF tf)) := pt_imp (pt_not ha) fun σ H Q q => by
  obtain ⟨φ, env, m, r, m', S, E, hf, k⟩ := q
  obtain ⟨⟨r1, m1⟩, h1, hf⟩ := bind_some_iff hf
  cases hf
  exact ⟨φ, env, m, r1, m1, S, E, h1, fun φ1 H1 g1 S1 => k φ1 H1 g1 S1⟩
theorem w_and1 (ha : PT X a (tT ζ X.K tf)) : PW X (.BoolOp .And [a] pos) (tT ζ X.K tf) := pw_and1 ha
theorem w_or1 (ha : PT X a (tT ζ X.K tf)) : PW X (.BoolOp .Or [a] pos) (tT ζ X.K tf) := pw_or1 ha
theorem w_and (ha : PT X a (tT ζ X.K tf)) (hb : PW X (.BoolOp .And (b :: es) pos) (tT ζ X.K tg)) : PW X (.BoolOp .And (a :: b :: es) pos) (tT ζ X.K (tAndF tf tg)) := pw_imp (pw_and ha hb) fun σ H Q q => by
  obtain ⟨φ, env, m, r, m', S, E, hf, k⟩ := q
  obtain ⟨⟨r1, m1⟩, h1, hf⟩ := bind_some_iff hf
  refine ⟨φ, env, m, r1, m1, S, E, h1, fun φ1 H1 g1 S1 => ?_⟩
  cases r1 with
  | false =>
    rw [if_neg Bool.false_ne_true]
    simp only [Bool.false_eq_true, if_false] at hf
    cases hf
    exact k φ1 H1 g1 S1
  | true =>
    rw [if_pos rfl]
    simp only [if_true] at hf
    exact ⟨φ1, env, m1, r, m', S1, E.mono g1, hf, fun φ2 H2 g2 S2 => k φ2 H2 (g1.trans g2) S2⟩
theorem w_or (ha : PT X a (tT ζ X.K tf)) (hb : PW X (.BoolOp .Or (b :: es) pos) (tT ζ X.K tg)) : PW X (.BoolOp .Or (a :: b :: es) pos) (tT ζ X.K (tOrF tf tg)) := pw_imp (pw_or ha hb) fun σ H Q q => by
  obtain ⟨φ, env, m, r, m', S, E, hf, k⟩ := q
  obtain ⟨⟨r1, m1⟩, h1, hf⟩ := bind_some_iff hf
  refine ⟨φ, env, m, r1, m1, S, E, h1, fun φ1 H1 g1 S1 => ?_⟩
  cases r1 with
  | true =>
    rw [if_pos rfl]
    simp only [if_true] at hf
    cases hf
    exact k φ1 H1 g1 S1
  | false =>
    rw [if_neg Bool.false_ne_true]
    simp only [Bool.false_eq_true, if_false] at hf
    exact ⟨φ1, env, m1, r, m', S1, E.mono g1, hf, fun φ2 H2 g2 S2 => k φ2 H2 (g1.trans g2) S2⟩
/-- the same as values (bools) -/
theorem x_not (ha : PE X a (tE ζ X.K (eOf tf))) : PE X (.UnaryOp .Not a pos) (tE ζ X.K (eOf (tNotF tf))) := pe_imp (pe_not ha) fun σ H Q q => by
  obtain ⟨φ, env, m, r, m', S, E, hf, k⟩ := q
  obtain ⟨⟨r0, m0⟩, h0, hf⟩ := bind_some_iff hf
  obtain ⟨⟨r1, m1⟩, h1, h0⟩ := bind_some_iff h0
  cases h0
  cases hf
  exact ⟨φ, env, m, .val (.bool r1), m1, S, E, by unfold eOf; rw [h1]; rfl, fun φ1 H1 v1 g1 S1 R1 => ⟨r1, rr_bool R1, k φ1 H1 _ g1 S1 (Dp.bl _)⟩⟩
theorem x_eOf (ha : PE X a (tE ζ X.K f)) : PE X a (tE ζ X.K (eOf (tOf f))) := pe_imp ha fun σ H Q q => by
  obtain ⟨φ, env, m, r, m', S, E, hf, k⟩ := q
  obtain ⟨⟨r0, m0⟩, h0, hf⟩ := bind_some_iff hf
  obtain ⟨⟨r1, m1⟩, h1, h0⟩ := bind_some_iff h0
  obtain ⟨b, hb, h0⟩ := bind_some_iff h0
  cases h0
  cases hf
  have hb' := asB_some hb
  simp only at hb'
  subst hb'
  exact ⟨φ, env, m, _, m1, S, E, h1, fun φ1 H1 v1 g1 S1 R1 => k φ1 H1 v1 g1 S1 R1⟩
theorem x_and1 (ha : PE X a (tE ζ X.K (eOf tf))) : PE X (.BoolOp .And [a] pos) (tE ζ X.K (eOf tf)) := pe_one ha
theorem x_or1 (ha : PE X a (tE ζ X.K (eOf tf))) : PE X (.BoolOp .Or [a] pos) (tE ζ X.K (eOf tf)) := pe_one ha
theorem x_and (ha : PE X a (tE ζ X.K (eOf tf))) (hb : PE X (.BoolOp .And (b :: es) pos) (tE ζ X.K (eOf tg))) : PE X (.BoolOp .And (a :: b :: es) pos) (tE ζ X.K (eOf (tAndF tf tg))) := pe_imp (pe_and ha hb) fun σ H Q q => by
  obtain ⟨φ, env, m, r, m', S, E, hf, k⟩ := q
  obtain ⟨⟨r0, m0⟩, h0, hf⟩ := bind_some_iff hf
  obtain ⟨⟨r1, m1⟩, h1, h0⟩ := bind_some_iff h0
  cases hf
  refine ⟨φ, env, m, .val (.bool r1), m1, S, E, by unfold eOf; rw [h1]; rfl, fun φ1 H1 v1 g1 S1 R1 => ⟨r1, rr_bool R1, ?_⟩⟩
  cases r1 with
  | false =>
    rw [if_neg Bool.false_ne_true]
    simp only [Bool.false_eq_true, if_false] at h0
    cases h0
    exact k φ1 H1 _ g1 S1 (Dp.bl _)
  | true =>
    rw [if_pos rfl]
    simp only [if_true] at h0
    exact ⟨φ1, env, m1, _, m0, S1, E.mono g1, by unfold eOf; rw [h0]; rfl, fun φ2 H2 v2 g2 S2 R2 => k φ2 H2 v2 (g1.trans g2) S2 R2⟩
theorem x_or (ha : PE X a (tE ζ X.K (eOf tf))) (hb : PE X (.BoolOp .Or (b :: es) pos) (tE ζ X.K (eOf tg))) : PE X (.BoolOp .Or (a :: b :: es) pos) (tE ζ X.K (eOf (tOrF tf tg))) := pe_imp (pe_or ha hb) fun σ H Q q => by
  obtain ⟨φ, env, m, r, m', S, E, hf, k⟩ := q
  obtain ⟨⟨r0, m0⟩, h0, hf⟩ := bind_some_iff hf
  obtain ⟨⟨r1, m1⟩, h1, h0⟩ := bind_some_iff h0
  cases hf
  refine ⟨φ, env, m, .val (.bool r1), m1, S, E, by unfold eOf; rw [h1]; rfl, fun φ1 H1 v1 g1 S1 R1 => ⟨r1, rr_bool R1, ?_⟩⟩
  cases r1 with
  | true =>
    rw [if_pos rfl]
    simp only [if_true] at h0
    cases h0
    exact k φ1 H1 _ g1 S1 (Dp.bl _)
  | false =>
    rw [if_neg Bool.false_ne_true]
    simp only [Bool.false_eq_true, if_false] at h0
    exact ⟨φ1, env, m1, _, m0, S1, E.mono g1, by unfold eOf; rw [h0]; rfl, fun φ2 H2 v2 g2 S2 R2 => k φ2 H2 v2 (g1.trans g2) S2 R2⟩
theorem x_if (hc : PT X c (tT ζ X.K tf)) (ha : PE X a (tE ζ X.K f)) (hb : PE X b (tE ζ X.K g)) : PE X (.IfExp c a b pos) (tE ζ X.K (eIf tf f g)) := pe_imp (pe_ifExp hc ha hb) fun σ H Q q => by
  obtain ⟨φ, env, m, r, m', S, E, hf, k⟩ := q
  obtain ⟨⟨r1, m1⟩, h1, hf⟩ := bind_some_iff hf
  refine ⟨φ, env, m, r1, m1, S, E, h1, fun φ1 H1 g1 S1 => ?_⟩
  cases r1 with
  | false =>
    rw [if_neg Bool.false_ne_true]
    simp only [Bool.false_eq_true, if_false] at hf
    exact ⟨φ1, env, m1, r, m', S1, E.mono g1, hf, fun φ2 H2 v2 g2 S2 R2 => k φ2 H2 v2 (g1.trans g2) S2 R2⟩
  | true =>
    rw [if_pos rfl]
    simp only [if_true] at hf
    exact ⟨φ1, env, m1, r, m', S1, E.mono g1, hf, fun φ2 H2 v2 g2 S2 R2 => k φ2 H2 v2 (g1.trans g2) S2 R2⟩
theorem x_nil : PA X [] (tA ζ X.K aNil) := pa_imp pa_nil fun σ H Q q => by
  obtain ⟨φ, env, m, r, m', S, E, hf, k⟩ := q
  cases hf
  exact k φ H [] .refl S .nil
theorem x_cons (ha : PE X e (tE ζ X.K f)) (hr : PA X es (tA ζ X.K fa)) (hs : starEach (e :: es) X.env = (false, eval e X.env) :: starEach es X.env := by rfl) : PA X (e :: es) (tA ζ X.K (aCons f fa)) := pa_imp (pa_cons ha hr hs) fun σ H Q q => by
  obtain ⟨φ, env, m, r, m', S, E, hf, k⟩ := q
  obtain ⟨⟨r1, m1⟩, h1, hf⟩ := bind_some_iff hf
  obtain ⟨⟨r2, m2⟩, h2, hf⟩ := bind_some_iff hf
  cases hf
  refine ⟨φ, env, m, r1, m1, S, E, h1, fun φ1 H1 v1 g1 S1 R1 => ?_⟩
  exact ⟨φ1, env, m1, r2, m2, S1, E.mono g1, h2, fun φ2 H2 v2 g2 S2 R2 => k φ2 H2 _ (g1.trans g2) S2 (.cons (R1.mono g2) R2)⟩
/-- all of them data -/
def vals : List R → Option (List D)
  | [] => some []
  | .val d :: rs => (vals rs).bind fun ds => some (d :: ds)
  | .ref _ :: _ => none
  | .tp _ :: _ => none
theorem vals_rr {K : PySem.W.Frag} {φ : Ad} {H : Hp} : ∀ {rs : List R} {ds : List D} {vs : List V}, vals rs = some ds → RRs K φ H vs rs → DpAll K (off φ H) vs ds
  | [], _, _, e, h => by
    cases e
    cases h
    exact .nil
  | .val d :: rs, _, _, e, h => by
    obtain ⟨ds', e1, e2⟩ := bind_some_iff e
    cases e2
    cases h with
    | cons a t => exact .cons a (vals_rr e1 t)
  | .ref _ :: _, _, _, e, _ => by cases e
  | .tp _ :: _, _, _, e, _ => by cases e
def pTup (rs : List R) (m : M) : Option (R × M) := (vals rs).bind fun ds => if ds.length ≤ sizeLine then some (.val (.tuple ds), m) else none
def pLst (rs : List R) (m : M) : Option (R × M) := (vals rs).bind fun ds => if ds.length ≤ sizeLine then some (.val (.list ds), m) else none
theorem rr_newT {K : PySem.W.Frag} {φ : Ad} {H : Hp} {m : M} {vs : List V} {ds : List D} {p : Addr} (S : SR ζ K φ H m) (hp : H p = none) (h : DpAll K (off φ H) vs ds) : RR K φ (upd H p (.tup vs)) (.ref p) (.val (.tuple ds)) :=
  Dp.tup (.inl (.inl (off_some.mpr ⟨S.new hp, upd_same, rfl⟩))) (dps_mono (gr_alloc hp).same h)
theorem rr_newL {K : PySem.W.Frag} {φ : Ad} {H : Hp} {m : M} {vs : List V} {ds : List D} {p : Addr} (S : SR ζ K φ H m) (hp : H p = none) (h : DpAll K (off φ H) vs ds) : RR K φ (upd H p (.lst vs)) (.ref p) (.val (.list ds)) :=
  Dp.lst (.inl (.inl (off_some.mpr ⟨S.new hp, upd_same, rfl⟩))) (dps_mono (gr_alloc hp).same h)
theorem x_tup {x1} (h : PA X es (tA ζ X.K fa)) : PE X (.Tuple es x1 pos) (tE ζ X.K (eAp pTup fa)) := pe_imp (pe_tup h) fun σ H Q q => by
  obtain ⟨φ, env, m, r, m', S, E, hf, k⟩ := q
  obtain ⟨⟨rs, m1⟩, h1, hf⟩ := bind_some_iff hf
  obtain ⟨ds, h2, hf⟩ := bind_some_iff hf
  split at hf
  · rename_i hl
    cases hf
    refine ⟨φ, env, m, rs, m1, S, E, h1, fun φ1 H1 vs g1 S1 R1 => ?_⟩
    have hd := vals_rr h2 R1
    exact ⟨by rw [DpAll.len hd]; exact hl, fun p hp => k φ1 _ _ (g1.trans (gr_alloc hp)) (S1.alloc hp) (rr_newT S1 hp hd)⟩
  · cases hf
theorem x_lst (h : PA X es (tA ζ X.K fa)) : PE X (.List es pos) (tE ζ X.K (eAp pLst fa)) := pe_imp (pe_lst h) fun σ H Q q => by
  obtain ⟨φ, env, m, r, m', S, E, hf, k⟩ := q
  obtain ⟨⟨rs, m1⟩, h1, hf⟩ := bind_some_iff hf
  obtain ⟨ds, h2, hf⟩ := bind_some_iff hf
  split at hf
  · rename_i hl
    cases hf
    refine ⟨φ, env, m, rs, m1, S, E, h1, fun φ1 H1 vs g1 S1 R1 => ?_⟩
    have hd := vals_rr h2 R1
    exact ⟨by rw [DpAll.len hd]; exact hl, fun p hp => k φ1 _ _ (g1.trans (gr_alloc hp)) (S1.alloc hp) (rr_newL S1 hp hd)⟩
  · cases hf
/-- a call of a builtin by values -/
theorem ap_imp {K : PySem.W.Frag} {p : List R → M → Option (R × M)} {σ : L2.St} {H : Hp} {Q : VK} (q : tE ζ K (eAp p fa) σ H Q) : tCB (rsP ζ K p) (tA ζ K fa) σ H Q := by
  obtain ⟨φ, env, m, r, m', S, E, hf, k⟩ := q
  obtain ⟨⟨rs, m1⟩, h1, hf⟩ := bind_some_iff hf
  exact ⟨φ, env, m, rs, m1, S, E, h1, fun φ1 H1 vs g1 S1 R1 => ⟨φ1, m1, rs, r, m', S1, R1, hf, fun φ2 H2 v g2 S2 R2 => k φ2 H2 v (g1.trans g2) S2 R2⟩⟩
theorem x_callB {id : String} {x : Str} {p0 : Pos} {p : List R → M → Option (R × M)} (hc : CallR X (.builtin id) (rsP ζ X.K p)) (hg : Gl X x) (hm : X.mg x = none) (hv : bootBuiltins x = some (.builtin id)) (ha : PA X (e :: es) (tA ζ X.K fa)) (hn : x ≠ "__name__" := by decide) (hdb : (x == ("__debug__" : Str)) = false := by decide)
    (he : starEach (e :: es) X.env = (false, eval e X.env) :: starEach es X.env := by rfl) (hpl : (backTo pos (starEach es X.env)).any (·.1) = false := by rfl) : PE X (.Call (.Name x p0) (e :: es) [] pos) (tE ζ X.K (eAp p fa)) :=
  pe_imp (pe_callB hc hg hm hv ha hn hdb he hpl) fun _ _ _ q => ap_imp q
theorem x_callTy {T : String} {x : Str} {p0 : Pos} {p : List R → M → Option (R × M)} (hc : CallR X (.type T) (rsP ζ X.K p)) (hg : Gl X x) (hm : X.mg x = none) (hv : bootBuiltins x = some (.type T)) (ha : PA X (e :: es) (tA ζ X.K fa)) (hn : x ≠ "__name__" := by decide) (hdb : (x == ("__debug__" : Str)) = false := by decide)
    (he : starEach (e :: es) X.env = (false, eval e X.env) :: starEach es X.env := by rfl) (hpl : (backTo pos (starEach es X.env)).any (·.1) = false := by rfl) : PE X (.Call (.Name x p0) (e :: es) [] pos) (tE ζ X.K (eAp p fa)) :=
  pe_imp (pe_callTy hc hg hm hv ha hn hdb he hpl) fun _ _ _ q => ap_imp q
end
end Ev

set_option Elab.async false
set_option linter.all false
set_option maxRecDepth 100000
/-! Statements, loops, functions. -/
namespace Ev
open PySem PySem.Spec PyProof.Rows L2

inductive Fl where
  | nx (env : Sl) (m : M)
  | rt (r : R) (m : M)
  | bk (env : Sl) (m : M)
  | ct (env : Sl) (m : M)
abbrev SF := Sl → M → Option Fl
abbrev GF := R → Sl → M → Option (Sl × M)
abbrev GsF := List R → Sl → M → Option (Sl × M)

def EnvK (ζ : Tbs) (K : PySem.W.Frag) (φ : Ad) (H : Hp) (env : Sl) (m : M) (Q : L2.St → Hp → Prop) : Prop := ∀ φ' σ' H', Gr φ H φ' H' → SR ζ K φ' H' m → ER K φ' H' σ' env → Q σ' H'
def ValK (ζ : Tbs) (K : PySem.W.Frag) (φ : Ad) (H : Hp) (r : R) (m : M) (Q : VK) : Prop := ∀ φ' H' v, Gr φ H φ' H' → SR ζ K φ' H' m → RR K φ' H' v r → Q v H'
def FlOk (ζ : Tbs) (K : PySem.W.Frag) (φ : Ad) (H : Hp) (W : Ends) : Fl → Prop
  | .nx env m => EnvK ζ K φ H env m W.nx
  | .rt r m => ValK ζ K φ H r m W.rt
  | .bk env m => EnvK ζ K φ H env m W.bk
  | .ct env m => EnvK ζ K φ H env m W.ct
def tS (ζ : Tbs) (K : PySem.W.Frag) (f : SF) : TS := fun W σ H => ∃ φ env m fl, SR ζ K φ H m ∧ ER K φ H σ env ∧ f env m = some fl ∧ FlOk ζ K φ H W fl
def tG (ζ : Tbs) (K : PySem.W.Frag) (g : GF) : TG := fun v σ H Q => ∃ φ env m r env' m', SR ζ K φ H m ∧ ER K φ H σ env ∧ RR K φ H v r ∧ g r env m = some (env', m') ∧ EnvK ζ K φ H env' m' Q
def tGs (ζ : Tbs) (K : PySem.W.Frag) (g : GsF) : TGs := fun vs σ H Q => ∃ φ env m rs env' m', SR ζ K φ H m ∧ ER K φ H σ env ∧ RRs K φ H vs rs ∧ g rs env m = some (env', m') ∧ EnvK ζ K φ H env' m' Q
section
variable {K : PySem.W.Frag} {φ φ' : Ad} {H H' : Hp} {m : M} {env : Sl} {r : R} {Q : L2.St → Hp → Prop} {P : VK} {W : Ends} {fl : Fl}
theorem EnvK.mono (g : Gr φ H φ' H') (h : EnvK ζ K φ H env m Q) : EnvK ζ K φ' H' env m Q := fun _ _ _ g2 S E => h _ _ _ (g.trans g2) S E
theorem ValK.mono (g : Gr φ H φ' H') (h : ValK ζ K φ H r m P) : ValK ζ K φ' H' r m P := fun _ _ _ g2 S E => h _ _ _ (g.trans g2) S E
theorem FlOk.mono (g : Gr φ H φ' H') (h : FlOk ζ K φ H W fl) : FlOk ζ K φ' H' W fl := by
  cases fl with
  | nx e m => exact EnvK.mono g h
  | rt e m => exact ValK.mono g h
  | bk e m => exact EnvK.mono g h
  | ct e m => exact EnvK.mono g h
end
theorem tg_imp {X : Cx} {e : Expr} {t t' : TG} (h : PG X e t) (k : ∀ v σ H Q, t' v σ H Q → t v σ H Q) : PG X e t' := ⟨fun pins s σ H v u Q I r q => h.run pins s σ H v u Q I r (k v σ H Q q)⟩
theorem tgs_imp {X : Cx} {e : List Expr} {t t' : TGs} (h : PGs X e t) (k : ∀ v σ H Q, t' v σ H Q → t v σ H Q) : PGs X e t' := ⟨fun pins s σ H v u Q I r q => h.run pins s σ H v u Q I r (k v σ H Q q)⟩

/-! ### the functions -/
def sNext : SF := fun env m => some (.nx env m)
def sNever : SF := fun _ _ => none
def sBreak : SF := fun env m => some (.bk env m)
def sCont : SF := fun env m => some (.ct env m)
def thenF (fl : Fl) (g : SF) : Option Fl := match fl with
  | .nx e m => g e m
  | x => some x
def sSeq (f g : SF) : SF := fun env m => (f env m).bind fun fl => thenF fl g
def sRet (f : EF) : SF := fun env m => (f env m).bind fun x => some (.rt x.1 x.2)
def sRetN : SF := fun _ m => some (.rt (.val .none) m)
def sExpr (f : EF) : SF := fun env m => (f env m).bind fun x => some (.nx env x.2)
def sIf (c : TF) (f g : SF) : SF := fun env m => (c env m).bind fun x => if x.1 = true then f env x.2 else g env x.2
def sAsg (f : EF) (g : GF) : SF := fun env m => (f env m).bind fun x => (g x.1 env x.2).bind fun y => some (.nx y.1 y.2)
def gNm (i : Nat) : GF := fun r env m => some (env.set i (some r), m)
def gsNil : GsF := fun rs env m => match rs with
  | [] => some (env, m)
  | _ => none
def gsCons (g : GF) (h : GsF) : GsF := fun rs env m => match rs with
  | r :: rs => (g r env m).bind fun x => h rs x.1 x.2
  | [] => none
def gTp (n : Nat) (g : GsF) : GF := fun r env m => match r with
  | .val (.tuple ds) => if ds.length = n then g (ds.map R.val) env m else none
  | _ => none
/-- a, b = x, y by names -/
def sPar (i j : Nat) (f : AF) : SF := fun env m => (f env m).bind fun x => match x.1 with
  | [a, b] => some (.nx ((env.set i (some a)).set j (some b)) x.2)
  | _ => none

theorem dpAll_rrs {K : PySem.W.Frag} {φ : Ad} {H : Hp} : ∀ {ds : List D} {vs : List V}, DpAll K (off φ H) vs ds → RRs K φ H vs (ds.map R.val)
  | _, _, .nil => .nil
  | _, _, .cons a t => .cons a (dpAll_rrs t)
theorem off_same {φ : Ad} {H : Hp} : Same (off φ H) H := fun b o e => (off_some.mp e).2.1

section
variable {X : Cx} {e e2 c : Expr} {es : List Expr} {st : Stmt} {sts sts2 : List Stmt} {f : EF} {fa : AF} {tc : TF} {sf sg : SF} {gf : GF} {gsf : GsF} {pos : Pos}
theorem z_nil : PSs X [] (tS ζ X.K sNext) := pss_imp pss_nil fun W σ H q => by
  obtain ⟨φ, env, m, fl, S, E, hf, k⟩ := q
  cases hf
  exact k φ σ H .refl S E
theorem z_cons (h1 : PS X st (tS ζ X.K sf)) (h2 : PSs X sts (tS ζ X.K sg)) : PSs X (st :: sts) (tS ζ X.K (sSeq sf sg)) := pss_imp (pss_cons h1 h2) fun W σ H q => by
  obtain ⟨φ, env, m, fl, S, E, hf, k⟩ := q
  obtain ⟨fl1, h1, hf⟩ := bind_some_iff hf
  refine ⟨φ, env, m, fl1, S, E, h1, ?_⟩
  cases fl1 with
  | nx e1 m1 => exact fun φ1 σ1 H1 g1 S1 E1 => ⟨φ1, e1, m1, fl, S1, E1, hf, k.mono g1⟩
  | rt r1 m1 =>
    cases hf
    exact k
  | bk e1 m1 =>
    cases hf
    exact k
  | ct e1 m1 =>
    cases hf
    exact k
theorem z_one (h1 : PS X st (tS ζ X.K sf)) : PSs X [st] (tS ζ X.K sf) := pss_one h1
theorem s_pass : PS X (.Pass pos) (tS ζ X.K sNext) := ps_imp ps_pass fun W σ H q => by
  obtain ⟨φ, env, m, fl, S, E, hf, k⟩ := q
  cases hf
  exact k φ σ H .refl S E
theorem s_break : PS X (.Break pos) (tS ζ X.K sBreak) := ps_imp ps_break fun W σ H q => by
  obtain ⟨φ, env, m, fl, S, E, hf, k⟩ := q
  cases hf
  exact k φ σ H .refl S E
theorem s_cont : PS X (.Continue pos) (tS ζ X.K sCont) := ps_imp ps_continue fun W σ H q => by
  obtain ⟨φ, env, m, fl, S, E, hf, k⟩ := q
  cases hf
  exact k φ σ H .refl S E
theorem s_never : PS X st (tS ζ X.K sNever) := ps_imp ps_never fun W σ H q => by
  obtain ⟨φ, env, m, fl, S, E, hf, k⟩ := q
  cases hf
theorem s_expr (he : PE X e (tE ζ X.K f)) (hs : swapsWith e none pos.line X.env = pure false := by rfl) : PS X (.Expr e pos) (tS ζ X.K (sExpr f)) := ps_imp (ps_expr he hs) fun W σ H q => by
  obtain ⟨φ, env, m, fl, S, E, hf, k⟩ := q
  obtain ⟨⟨r1, m1⟩, h1, hf⟩ := bind_some_iff hf
  cases hf
  exact ⟨φ, env, m, r1, m1, S, E, h1, fun φ1 H1 v g1 S1 R1 => k φ1 σ H1 g1 S1 (E.mono g1)⟩
theorem s_ret (he : PE X e (tE ζ X.K f)) : PS X (.Return (some e) pos) (tS ζ X.K (sRet f)) := ps_imp (ps_ret he) fun W σ H q => by
  obtain ⟨φ, env, m, fl, S, E, hf, k⟩ := q
  obtain ⟨⟨r1, m1⟩, h1, hf⟩ := bind_some_iff hf
  cases hf
  exact ⟨φ, env, m, r1, m1, S, E, h1, fun φ1 H1 v g1 S1 R1 => k φ1 H1 v g1 S1 R1⟩
theorem s_retN : PS X (.Return none pos) (tS ζ X.K sRetN) := ps_imp ps_retN fun W σ H q => by
  obtain ⟨φ, env, m, fl, S, E, hf, k⟩ := q
  cases hf
  exact k φ H _ .refl S Dp.non
theorem s_if (hc : PT X c (tT ζ X.K tc)) (ha : PSs X sts (tS ζ X.K sf)) (hb : PSs X sts2 (tS ζ X.K sg)) : PS X (.If c sts sts2 pos) (tS ζ X.K (sIf tc sf sg)) := ps_imp (ps_if hc ha hb) fun W σ H q => by
  obtain ⟨φ, env, m, fl, S, E, hf, k⟩ := q
  obtain ⟨⟨r1, m1⟩, h1, hf⟩ := bind_some_iff hf
  refine ⟨φ, env, m, r1, m1, S, E, h1, fun φ1 H1 g1 S1 => ?_⟩
  cases r1 with
  | false =>
    rw [if_neg Bool.false_ne_true]
    simp only [Bool.false_eq_true, if_false] at hf
    exact ⟨φ1, env, m1, fl, S1, E.mono g1, hf, k.mono g1⟩
  | true =>
    rw [if_pos rfl]
    simp only [if_true] at hf
    exact ⟨φ1, env, m1, fl, S1, E.mono g1, hf, k.mono g1⟩
theorem g_imp {K : PySem.W.Frag} {W : Ends} {σ : L2.St} {H : Hp} (q : tS ζ K (sAsg f gf) W σ H) : tAsg (tE ζ K f) (tG ζ K gf) W σ H := by
  obtain ⟨φ, env, m, fl, S, E, hf, k⟩ := q
  obtain ⟨⟨r1, m1⟩, h1, hf⟩ := bind_some_iff hf
  obtain ⟨⟨e2, m2⟩, h2, hf⟩ := bind_some_iff hf
  cases hf
  exact ⟨φ, env, m, r1, m1, S, E, h1, fun φ1 H1 v g1 S1 R1 => ⟨φ1, env, m1, r1, e2, m2, S1, E.mono g1, R1, h2, EnvK.mono g1 k⟩⟩
theorem gnm_imp {K : PySem.W.Frag} {i : Nat} {v : V} {σ : L2.St} {H : Hp} {Q : L2.St → Hp → Prop} (q : tG ζ K (gNm i) v σ H Q) : gName i v σ H Q := by
  obtain ⟨φ, env, m, r, e', m', S, E, Rv, hf, k⟩ := q
  cases hf
  exact k φ _ H .refl S (E.set Rv i)
theorem s_set {i : Nat} {x : Str} {pos' : Pos} (hN : X.N.Nodup) (hi : X.N[i]? = some x) (hx : Loc X.env.scope x) (he : PE X e (tE ζ X.K f)) (hs : swapsWith e (some (.Name x pos')) pos.line X.env = pure false := by rfl) (hf : X.fn x = true ∨ X.env.scope.names.lookup x = some .local := by first | exact .inl rfl | exact .inr rfl | assumption) :
    PS X (.Assign [.Name x pos'] e pos) (tS ζ X.K (sAsg f (gNm i))) := ps_imp (ps_set hN hi hx he hs hf) fun W σ H q => by
  obtain ⟨φ, env, m, r, m', S, E, h1, k⟩ := g_imp q
  exact ⟨φ, env, m, r, m', S, E, h1, fun φ1 H1 v g1 S1 R1 => gnm_imp (k φ1 H1 v g1 S1 R1)⟩
theorem g_name {i : Nat} {x : Str} (hN : X.N.Nodup) (hi : X.N[i]? = some x) (hx : Loc X.env.scope x) (hf : X.fn x = true ∨ X.env.scope.names.lookup x = some .local := by first | exact .inl rfl | exact .inr rfl | assumption) : PG X (.Name x pos) (tG ζ X.K (gNm i)) :=
  tg_imp (pg_name hN hi hx hf) fun _ _ _ _ q => gnm_imp q
theorem g_nil : PGs X [] (tGs ζ X.K gsNil) := tgs_imp pgs_nil fun vs σ H Q q => by
  obtain ⟨φ, env, m, rs, e', m', S, E, Rv, hf, k⟩ := q
  cases Rv with
  | nil =>
    cases hf
    exact ⟨rfl, k φ σ H .refl S E⟩
  | cons a t => cases hf
theorem g_cons (h1 : PG X e (tG ζ X.K gf)) (h2 : PGs X es (tGs ζ X.K gsf)) (hs : (assignEach (e :: es) X.env).map (·.2) = assign e X.env :: (assignEach es X.env).map (·.2) := by rfl) : PGs X (e :: es) (tGs ζ X.K (gsCons gf gsf)) :=
  tgs_imp (pgs_cons h1 h2 hs) fun vs σ H Q q => by
  obtain ⟨φ, env, m, rs, e', m', S, E, Rv, hf, k⟩ := q
  cases Rv with
  | nil => cases hf
  | cons a t =>
    obtain ⟨⟨e1, m1⟩, h1, hf⟩ := bind_some_iff hf
    exact ⟨_, _, rfl, φ, env, m, _, e1, m1, S, E, a, h1, fun φ1 σ1 H1 g1 S1 E1 => ⟨φ1, e1, m1, _, e', m', S1, E1, RRs.mono g1 t, hf, EnvK.mono g1 k⟩⟩
theorem g_tup {k n : Nat} (hc : X.calm = true) (h : PGs X es (tGs ζ X.K gsf)) (hn : (assignEach es X.env).length = n := by rfl) (hst : (assignEach es X.env).findIdx? (·.1) = none := by rfl) : PG X (.Tuple es k pos) (tG ζ X.K (gTp n gsf)) :=
  tg_imp (pg_tup hc h hn hst) fun v σ H Q q => by
  obtain ⟨φ, env, m, r, e', m', S, E, Rv, hf, k⟩ := q
  unfold gTp at hf
  split at hf
  · rename_i ds
    split at hf
    · rename_i hl
      have Rv' : Dp X.K (off φ H) v (.tuple ds) := Rv
      cases Rv' with
      | tup hs ha => exact ⟨_, _, rfl, sqT_mono off_same hs, by rw [DpAll.len ha]; exact hl, φ, env, m, _, e', m', S, E, dpAll_rrs ha, hf, k⟩
    · cases hf
  · cases hf
theorem s_asg {tg : Expr} (he : PE X e (tE ζ X.K f)) (hg : PG X tg (tG ζ X.K gf)) (hs : swapsWithSole [tg] e pos.line X.env = pure false := by rfl) (hw : swappedStores [tg] e X.env = pure none := by rfl)
    (h1 : (assignEach [tg] X.env).map (·.2) = [assign tg X.env] := by rfl) : PS X (.Assign [tg] e pos) (tS ζ X.K (sAsg f gf)) := ps_imp (ps_asg he hg hs hw h1) fun _ _ _ q => g_imp q
theorem s_par {i j : Nat} {x y : Str} {a b : Expr} {px py pt : Pos} {kt k2 : Nat} {pt2 : Pos} (hc : X.calm = true) (hN : X.N.Nodup) (hi : X.N[i]? = some x) (hj : X.N[j]? = some y) (hij : i ≠ j)
    (hx : X.env.scope.names.lookup x = some .local) (hy : X.env.scope.names.lookup y = some .local) (ha : PA X [a, b] (tA ζ X.K fa))
    (hw : swappedStores [.Tuple [.Name x px, .Name y py] kt pt] (.Tuple [a, b] k2 pt2) X.env = pure (some [x, y]))
    (hs : swapsWithSole [.Tuple [.Name x px, .Name y py] kt pt] (.Tuple [a, b] k2 pt2) pos.line X.env = pure false := by rfl) :
    PS X (.Assign [.Tuple [.Name x px, .Name y py] kt pt] (.Tuple [a, b] k2 pt2) pos) (tS ζ X.K (sPar i j fa)) := ps_imp (ps_par hc hN hi hj hij hx hy ha hw hs) fun W σ H q => by
  obtain ⟨φ, env, m, fl, S, E, hf, k⟩ := q
  obtain ⟨⟨rs, m1⟩, h1, hf⟩ := bind_some_iff hf
  simp only at hf
  split at hf
  · cases hf
    refine ⟨φ, env, m, _, m1, S, E, h1, fun φ1 H1 vs g1 S1 R1 => ?_⟩
    cases R1 with
    | cons a1 t1 =>
      cases t1 with
      | cons a2 t2 =>
        cases t2
        exact ⟨_, _, rfl, k φ1 _ H1 g1 S1 (((E.mono g1).set a1 i).set a2 j)⟩
  · cases hf
end

/-! ### loops -/
/-- where the items come from: stuck, at the end, or an item -/
abbrev Src := Nat → M → Option (Option D)
def srcL (ds : List D) : Src := fun i _ => some ds[i]?
def srcR (k : Nat) : Src := fun i m => match m[k]? with
  | some (.lst ds) => some ds[i]?
  | _ => none
structure JOk (ζ : Tbs) (K : PySem.W.Frag) (J : It) (φ : Ad) (H : Hp) (src : Src) : Prop where
  stop : ∀ φ' H' m i, Gw φ H φ' H' → SR ζ K φ' H' m → src i m = some none → J.stop i H'
  go : ∀ φ' H' m i d, Gw φ H φ' H' → SR ζ K φ' H' m → src i m = some (some d) → J.go i H'
  yld : ∀ φ' H' m i d x H'', Gw φ H φ' H' → SR ζ K φ' H' m → src i m = some (some d) → J.yld i H' x H'' → Gr φ' H' φ' H'' ∧ SR ζ K φ' H'' m ∧ RR K φ' H'' x (.val d)
/-- the source, a bound of turns, the store -/
abbrev IF := Sl → M → Option ((Src × Nat) × M)
def tI (ζ : Tbs) (K : PySem.W.Frag) (f : IF) : TI := fun σ H Q => ∃ φ env m src n m', SR ζ K φ H m ∧ ER K φ H σ env ∧ f env m = some ((src, n), m') ∧
  ∀ φ' H' J, Gr φ H φ' H' → SR ζ K φ' H' m' → JOk ζ K J φ' H' src → Q J H'
/-- behind a turn: on, or out -/
def aftF (fl : Fl) (next : Sl → M → Option Fl) : Option Fl := match fl with
  | .nx e m => next e m
  | .ct e m => next e m
  | .bk e m => some (.nx e m)
  | .rt r m => some (.rt r m)
def loop (src : Src) (g : GF) (body : SF) : Nat → Nat → SF
  | 0, i => fun env m => (src i m).bind fun o => match o with
    | none => some (.nx env m)
    | some _ => none
  | n + 1, i => fun env m => (src i m).bind fun o => match o with
    | none => some (.nx env m)
    | some d => (g (.val d) env m).bind fun x => (body x.1 x.2).bind fun fl => aftF fl (loop src g body n (i + 1))
def sFor (it : IF) (g : GF) (body : SF) : SF := fun env m => (it env m).bind fun x => loop x.1.1 g body x.1.2 0 env x.2
/-- the same over a list -/
def loopL (g : GF) (body : SF) : List D → SF
  | [] => sNext
  | d :: ds => fun env m => (g (.val d) env m).bind fun x => (body x.1 x.2).bind fun fl => aftF fl (loopL g body ds)
def iL (ds : List D) (m : M) : Option ((Src × Nat) × M) := some ((srcL ds, ds.length), m)
theorem loop_srcL {g : GF} {body : SF} : ∀ (ds all : List D) (i : Nat) (env : Sl) (m : M), all.drop i = ds → loop (srcL all) g body ds.length i env m = loopL g body ds env m
  | [], all, i, env, m, h => by
    have e : all[i]? = none := List.getElem?_eq_none (by simpa using h)
    simp [loop, srcL, e, loopL, sNext]
  | d :: ds, all, i, env, m, h => by
    have e : all[i]? = some d := by
      have := congrArg (·[0]?) h
      simpa using this
    have h' : all.drop (i + 1) = ds := by
      have := congrArg (List.drop 1) h
      simpa [List.drop_drop, Nat.add_comm] using this
    have ih := fun env m => loop_srcL (g := g) (body := body) ds all (i + 1) env m h'
    have ih' : loop (srcL all) g body ds.length (i + 1) = loopL g body ds := by
      funext env m
      exact ih env m
    simp only [List.length_cons, loop, srcL, e, Option.bind_some, loopL]
    rw [ih']
theorem sFor_L {it : IF} {g : GF} {body : SF} {env : Sl} {m m' : M} {ds : List D} (h : it env m = iL ds m') : sFor it g body env m = loopL g body ds env m' := by
  unfold sFor
  rw [h]
  exact loop_srcL ds ds 0 env m' rfl
def wloop (c : TF) (body : SF) : Nat → SF
  | 0 => fun _ _ => none
  | n + 1 => fun env m => (c env m).bind fun x => if x.1 = true then (body env x.2).bind fun fl => aftF fl (wloop c body n) else some (.nx env x.2)
section
variable {X : Cx} {c e tg : Expr} {sts : List Stmt} {tc : TF} {sf : SF} {gf : GF} {it : IF} {pos : Pos}
theorem s_while {n : Nat} (hp : PassesOwn (model X.prog X.w) X.A X.env X.xe) (hc : PT X c (tT ζ X.K tc)) (hb : PSs X sts (tS ζ X.K sf)) : PS X (.While c sts [] pos) (tS ζ X.K (wloop tc sf n)) := ps_imp (ps_while hp hc hb) fun W σ H q => by
  obtain ⟨φ, env, m, fl, S, E, hf, k⟩ := q
  refine ⟨fun n σ1 H1 => ∃ φ1 env1 m1 fl1, SR ζ X.K φ1 H1 m1 ∧ ER X.K φ1 H1 σ1 env1 ∧ wloop tc sf n env1 m1 = some fl1 ∧ FlOk ζ X.K φ1 H1 W fl1, ⟨n, φ, env, m, fl, S, E, hf, k⟩, ?_⟩
  intro n σ1 H1 ⟨φ1, env1, m1, fl1, S1, E1, hf1, k1⟩
  cases n with
  | zero => cases hf1
  | succ n =>
    obtain ⟨⟨b, m2⟩, h1, hf1⟩ := bind_some_iff hf1
    refine ⟨φ1, env1, m1, b, m2, S1, E1, h1, fun φ2 H2 g2 S2 => ?_⟩
    cases b with
    | false =>
      rw [if_neg Bool.false_ne_true]
      simp only [Bool.false_eq_true, if_false] at hf1
      cases hf1
      exact k1 φ2 σ1 H2 g2 S2 (E1.mono g2)
    | true =>
      rw [if_pos rfl]
      simp only [if_true] at hf1
      obtain ⟨fl2, h2, hf1⟩ := bind_some_iff hf1
      refine ⟨fun σ3 H3 => ∃ φ3 env3 m3, SR ζ X.K φ3 H3 m3 ∧ ER X.K φ3 H3 σ3 env3 ∧ wloop tc sf n env3 m3 = some fl1 ∧ FlOk ζ X.K φ3 H3 W fl1, fun σ3 H3 ⟨φ3, env3, m3, S3, E3, h3, k3⟩ => ⟨n, Nat.lt_succ_self n, φ3, env3, m3, fl1, S3, E3, h3, k3⟩, ?_⟩
      refine ⟨φ2, env1, m2, fl2, S2, E1.mono g2, h2, ?_⟩
      cases fl2 with
      | nx e4 m4 => exact fun φ3 σ3 H3 g3 S3 E3 => ⟨φ3, e4, m4, S3, E3, hf1, k1.mono (g2.trans g3)⟩
      | ct e4 m4 => exact fun φ3 σ3 H3 g3 S3 E3 => ⟨φ3, e4, m4, S3, E3, hf1, k1.mono (g2.trans g3)⟩
      | bk e4 m4 =>
        cases hf1
        exact EnvK.mono g2 k1
      | rt e4 m4 =>
        cases hf1
        exact ValK.mono g2 k1
theorem for_imp {K : PySem.W.Frag} {W : Ends} {σ : L2.St} {H : Hp} (q : tS ζ K (sFor it gf sf) W σ H) : tFor (tI ζ K it) (tG ζ K gf) (tS ζ K sf) W σ H := by
  obtain ⟨φ, env, m, fl, S, E, hf, k⟩ := q
  obtain ⟨⟨⟨src, n⟩, m'⟩, h1, hf⟩ := bind_some_iff hf
  refine ⟨φ, env, m, src, n, m', S, E, h1, fun φ1 H1 J g1 S1 JJ => ?_⟩
  refine ⟨fun i n σ2 H2 => ∃ φ2 env2 m2, Gr φ1 H1 φ2 H2 ∧ SR ζ K φ2 H2 m2 ∧ ER K φ2 H2 σ2 env2 ∧ loop src gf sf n i env2 m2 = some fl ∧ FlOk ζ K φ2 H2 W fl, ⟨n, φ1, env, m', .refl, S1, E.mono g1, hf, k.mono g1⟩, ?_⟩
  intro i n σ2 H2 ⟨φ2, env2, m2, g2, S2, E2, h2, k2⟩
  have cas : ∃ o, src i m2 = some o := by
    cases n <;> (obtain ⟨o, ho, _⟩ := bind_some_iff h2; exact ⟨o, ho⟩)
  obtain ⟨o, ho⟩ := cas
  cases o with
  | none =>
    refine .inl ⟨JJ.stop φ2 H2 m2 i g2.w S2 ho, ?_⟩
    have e : loop src gf sf n i env2 m2 = some (.nx env2 m2) := by
      cases n <;> simp [loop, ho]
    rw [e] at h2
    cases h2
    exact k2 φ2 σ2 H2 .refl S2 E2
  | some d =>
    cases n with
    | zero => simp [loop, ho] at h2
    | succ n =>
      refine .inr ⟨JJ.go φ2 H2 m2 i d g2.w S2 ho, fun σ3 H3 => ∃ φ3 env3 m3, Gr φ1 H1 φ3 H3 ∧ SR ζ K φ3 H3 m3 ∧ ER K φ3 H3 σ3 env3 ∧ loop src gf sf n (i + 1) env3 m3 = some fl ∧ FlOk ζ K φ3 H3 W fl, fun σ3 H3 z => ⟨n, Nat.lt_succ_self n, z⟩, fun x H3 hy => ?_⟩
      obtain ⟨g3, S3, R3⟩ := JJ.yld φ2 H2 m2 i d x H3 g2.w S2 ho hy
      simp only [loop, ho, Option.bind_some] at h2
      obtain ⟨⟨e4, m4⟩, h4, h2⟩ := bind_some_iff h2
      obtain ⟨fl5, h5, h2⟩ := bind_some_iff h2
      refine ⟨φ2, env2, m2, .val d, e4, m4, S3, E2.mono g3, R3, h4, fun φ6 σ6 H6 g6 S6 E6 => ?_⟩
      refine ⟨φ6, e4, m4, fl5, S6, E6, h5, ?_⟩
      cases fl5 with
      | nx e7 m7 => exact fun φ7 σ7 H7 g7 S7 E7 => ⟨φ7, e7, m7, g2.trans (g3.trans (g6.trans g7)), S7, E7, h2, k2.mono (g3.trans (g6.trans g7))⟩
      | ct e7 m7 => exact fun φ7 σ7 H7 g7 S7 E7 => ⟨φ7, e7, m7, g2.trans (g3.trans (g6.trans g7)), S7, E7, h2, k2.mono (g3.trans (g6.trans g7))⟩
      | bk e7 m7 =>
        cases h2
        exact EnvK.mono (g3.trans g6) k2
      | rt e7 m7 =>
        cases h2
        exact ValK.mono (g3.trans g6) k2
theorem s_for (hp : PassesOwn (model X.prog X.w) X.A X.env X.xe) (hc : X.calm = true) (hi : PI X tg e (tI ζ X.K it)) (hg : PG X tg (tG ζ X.K gf)) (hb : PSs X sts (tS ζ X.K sf)) (hs : ∀ x, foldedSetIterable e X.env x = pure x := by intro _; rfl) :
    PS X (.For tg e sts [] pos) (tS ζ X.K (sFor it gf sf)) := ps_imp (ps_for hp hc hi hg hb hs) fun _ _ _ q => for_imp q
end

/-! ### what is walked -/
theorem off_of_same {φ φ' : Ad} {H H' : Hp} (g : Gr φ H φ' H') {a : Addr} {o : HO} (h : off φ H a = some o) : H' a = some o := (off_some.mp (g.same a o h)).2.1
theorem jok_list {K : PySem.W.Frag} {φ : Ad} {H : Hp} {a : Addr} {xs : List V} {ds : List D} (h : SqL K (off φ H) a xs) (hd : DpAll K (off φ H) xs ds) : JOk ζ K (Itl K a) φ H (srcL ds) where
  stop := fun φ' H' m i g S e => ⟨xs, (off_same.seq (g.same.seq h)), by
    have e' : ds[i]? = none := Option.some.inj e
    rw [DpAll.len hd]
    exact List.getElem?_eq_none_iff.mp e'⟩
  go := fun φ' H' m i d g S e => by
    have e' : ds[i]? = some d := Option.some.inj e
    obtain ⟨v, h1, h2⟩ := DpAll.get hd e'
    exact ⟨xs, v, off_same.seq (g.same.seq h), h1⟩
  yld := fun φ' H' m i d x H'' g S e y => by
    have e' : ds[i]? = some d := Option.some.inj e
    obtain ⟨v, h1, h2⟩ := DpAll.get hd e'
    obtain ⟨rfl, y⟩ := y
    have q := y xs (off_same.seq (g.same.seq h))
    rw [h1] at q
    cases q
    exact ⟨.refl, S, dp_mono g.same h2⟩
theorem jok_tup {K : PySem.W.Frag} {φ : Ad} {H : Hp} {a : Addr} {xs : List V} {ds : List D} (h : SqT K (off φ H) a xs) (hd : DpAll K (off φ H) xs ds) : JOk ζ K (Itt K a) φ H (srcL ds) where
  stop := fun φ' H' m i g S e => ⟨xs, (sqT_mono off_same (sqT_mono g.same h)), by
    have e' : ds[i]? = none := Option.some.inj e
    rw [DpAll.len hd]
    exact List.getElem?_eq_none_iff.mp e'⟩
  go := fun φ' H' m i d g S e => by
    have e' : ds[i]? = some d := Option.some.inj e
    obtain ⟨v, h1, h2⟩ := DpAll.get hd e'
    exact ⟨xs, v, sqT_mono off_same (sqT_mono g.same h), h1⟩
  yld := fun φ' H' m i d x H'' g S e y => by
    have e' : ds[i]? = some d := Option.some.inj e
    obtain ⟨v, h1, h2⟩ := DpAll.get hd e'
    obtain ⟨rfl, y⟩ := y
    have q := y xs (sqT_mono off_same (sqT_mono g.same h))
    rw [h1] at q
    cases q
    exact ⟨.refl, S, dp_mono g.same h2⟩
theorem jok_live {K : PySem.W.Frag} {φ : Ad} {H : Hp} {k : Nat} {a : Addr} (h : φ.s[k]? = some a) : JOk ζ K (Itl K a) φ H (srcR k) where
  stop := fun φ' H' m i g S e => by
    unfold srcR at e
    split at e
    · rename_i ds hm
      obtain ⟨xs, h1, h2⟩ := S.obj k _ a hm (prefix_get g.pre h)
      have e' : ds[i]? = none := Option.some.inj e
      exact ⟨xs, .inl (.inl h1), by rw [DpAll.len h2]; exact List.getElem?_eq_none_iff.mp e'⟩
    · cases e
  go := fun φ' H' m i d g S e => by
    unfold srcR at e
    split at e
    · rename_i ds hm
      obtain ⟨xs, h1, h2⟩ := S.obj k _ a hm (prefix_get g.pre h)
      have e' : ds[i]? = some d := Option.some.inj e
      obtain ⟨v, h3, h4⟩ := DpAll.get h2 e'
      exact ⟨xs, v, .inl (.inl h1), h3⟩
    · cases e
  yld := fun φ' H' m i d x H'' g S e y => by
    unfold srcR at e
    split at e
    · rename_i ds hm
      obtain ⟨xs, h1, h2⟩ := S.obj k _ a hm (prefix_get g.pre h)
      have e' : ds[i]? = some d := Option.some.inj e
      obtain ⟨v, h3, h4⟩ := DpAll.get h2 e'
      obtain ⟨rfl, y⟩ := y
      have q := y xs (.inl (.inl h1))
      rw [h3] at q
      cases q
      exact ⟨.refl, S, h4⟩
    · cases e
theorem jok_range {K : PySem.W.Frag} {φ : Ad} {H : Hp} {lo : Int} {n : Nat} : JOk ζ K (Itr lo n) φ H (srcL ((List.range n).map fun j : Nat => PyData.int (lo + (j : Int)))) where
  stop := fun φ' H' m i g S e => by
    have e' := List.getElem?_eq_none_iff.mp (Option.some.inj e)
    have e2 : n ≤ i := by simpa using e'
    exact e2
  go := fun φ' H' m i d g S e => by
    have e' := (List.getElem?_eq_some_iff.mp (Option.some.inj e)).1
    have e2 : i < n := by simpa using e'
    exact e2
  yld := fun φ' H' m i d x H'' g S e y => by
    obtain ⟨hi, e'⟩ := List.getElem?_eq_some_iff.mp (Option.some.inj e)
    simp at e'
    obtain ⟨rfl, rfl⟩ := y
    subst e'
    exact ⟨.refl, S, Dp.int _⟩
/-- a list (of the store or not) or a tuple walked -/
def itSeq (f : EF) : IF := fun env m => (f env m).bind fun x => match x.1 with
  | .val (.list ds) => iL ds x.2
  | .ref k => match x.2[k]? with
    | some (.lst ds) => some ((srcR k, ds.length), x.2)
    | _ => none
  | _ => none
def itTup (f : EF) : IF := fun env m => (f env m).bind fun x => match x.1 with
  | .val (.tuple ds) => iL ds x.2
  | _ => none
def rngD (lo : Int) (n : Nat) : List D := (List.range n).map fun j : Nat => PyData.int (lo + (j : Int))
def itRng1 (f : AF) : IF := fun env m => (f env m).bind fun x => match x.1 with
  | [.val (.int j)] => if -(2 ^ 62) ≤ j ∧ j < 2 ^ 62 then iL (rngD 0 j.toNat) x.2 else none
  | _ => none
def itRng2 (f : AF) : IF := fun env m => (f env m).bind fun x => match x.1 with
  | [.val (.int i), .val (.int j)] => if -(2 ^ 62) ≤ i ∧ i < 2 ^ 62 ∧ -(2 ^ 62) ≤ j ∧ j < 2 ^ 62 then iL (rngD i (j - i).toNat) x.2 else none
  | _ => none
section
variable {X : Cx} {tg e a b : Expr} {f : EF} {fa : AF} {p pos : Pos}
theorem i_list (he : PE X e (tE ζ X.K f)) : PI X tg e (tI ζ X.K (itSeq f)) := pi_imp (pi_list he) fun σ H Q q => by
  obtain ⟨φ, env, m, src, n, m', S, E, hf, k⟩ := q
  obtain ⟨⟨r, m1⟩, h1, hf⟩ := bind_some_iff hf
  refine ⟨φ, env, m, r, m1, S, E, h1, fun φ1 H1 v g1 S1 R1 => ?_⟩
  cases r with
  | tp j => cases hf
  | val d =>
    cases d with
    | list ds =>
      cases hf
      have R1' : Dp X.K (off φ1 H1) v (.list ds) := R1
      cases R1' with
      | lst hs ha => exact ⟨_, rfl, ⟨_, off_same.seq hs⟩, k φ1 H1 _ g1 S1 (jok_list hs ha)⟩
    | _ => cases hf
  | ref j =>
    simp only at hf
    split at hf
    · rename_i ds hm
      cases hf
      obtain ⟨ad, e1, e2⟩ := R1
      obtain ⟨xs, h3, h4⟩ := S1.obj j _ ad hm e2
      exact ⟨ad, e1, ⟨xs, .inl (.inl h3)⟩, k φ1 H1 _ g1 S1 (jok_live e2)⟩
    · cases hf
theorem i_tup (he : PE X e (tE ζ X.K f)) : PI X tg e (tI ζ X.K (itTup f)) := pi_imp (pi_tup he) fun σ H Q q => by
  obtain ⟨φ, env, m, src, n, m', S, E, hf, k⟩ := q
  obtain ⟨⟨r, m1⟩, h1, hf⟩ := bind_some_iff hf
  refine ⟨φ, env, m, r, m1, S, E, h1, fun φ1 H1 v g1 S1 R1 => ?_⟩
  cases r with
  | tp j => cases hf
  | val d =>
    cases d with
    | tuple ds =>
      cases hf
      have R1' : Dp X.K (off φ1 H1) v (.tuple ds) := R1
      cases R1' with
      | tup hs ha => exact ⟨_, rfl, ⟨_, sqT_mono off_same hs⟩, k φ1 H1 _ g1 S1 (jok_tup hs ha)⟩
    | _ => cases hf
  | ref j => cases hf
theorem i_range1 (hg : Gl X "range") (hm : X.mg "range" = none) (ha : PA X [a] (tA ζ X.K fa)) (hs : starEach [a] X.env = [(false, eval a X.env)] := by rfl) : PI X tg (.Call (.Name "range" p) [a] [] pos) (tI ζ X.K (itRng1 fa)) :=
  pi_imp (pi_range1 hg hm ha hs) fun σ H Q q => by
  obtain ⟨φ, env, m, src, n, m', S, E, hf, k⟩ := q
  obtain ⟨⟨rs, m1⟩, h1, hf⟩ := bind_some_iff hf
  simp only at hf
  split at hf
  · rename_i j
    split at hf
    · rename_i hj
      cases hf
      refine ⟨φ, env, m, _, _, S, E, h1, fun φ1 H1 vs g1 S1 R1 => ?_⟩
      cases R1 with
      | cons a1 t1 =>
        cases t1
        have a1' : Dp X.K (off φ1 H1) _ (.int j) := a1
        cases a1'
        exact ⟨j, rfl, hj.1, hj.2, k φ1 H1 _ g1 S1 jok_range⟩
    · cases hf
  · cases hf
theorem i_range2 (hg : Gl X "range") (hm : X.mg "range" = none) (ha : PA X [a, b] (tA ζ X.K fa)) (hs : starEach [a, b] X.env = [(false, eval a X.env), (false, eval b X.env)] := by rfl) (hs2 : starEach [b] X.env = [(false, eval b X.env)] := by rfl) : PI X tg (.Call (.Name "range" p) [a, b] [] pos) (tI ζ X.K (itRng2 fa)) :=
  pi_imp (pi_range2 hg hm ha hs hs2) fun σ H Q q => by
  obtain ⟨φ, env, m, src, n, m', S, E, hf, k⟩ := q
  obtain ⟨⟨rs, m1⟩, h1, hf⟩ := bind_some_iff hf
  simp only at hf
  split at hf
  · rename_i i j
    split at hf
    · rename_i hj
      cases hf
      refine ⟨φ, env, m, _, _, S, E, h1, fun φ1 H1 vs g1 S1 R1 => ?_⟩
      cases R1 with
      | cons a1 t1 =>
        cases t1 with
        | cons a2 t2 =>
          cases t2
          have a1' : Dp X.K (off φ1 H1) _ (.int i) := a1
          have a2' : Dp X.K (off φ1 H1) _ (.int j) := a2
          cases a1'
          cases a2'
          exact ⟨i, j, rfl, hj, k φ1 H1 _ g1 S1 jok_range⟩
    · cases hf
  · cases hf
end

/-! ### functions -/
abbrev Fn := List R → M → Option (R × M)
def spF (ζ : Tbs) (K : PySem.W.Frag) (n : Nat) (F : Fn) : Sp := fun vs H Q _ => vs.length = n ∧ ∃ φ m rs r m', SR ζ K φ H m ∧ RRs K φ H vs rs ∧ F rs m = some (r, m') ∧ ValK ζ K φ H r m' Q
/-- a tuple's own objects become data -/
def freezeT (b : Nat) (m : M) : List (D ⊕ Nat) → Option (List D)
  | [] => some []
  | .inl d :: rs => (freezeT b m rs).bind fun ds => some (d :: ds)
  | .inr i :: rs => if i < b then none else match m[i]? with
    | some (.lst ds) => (freezeT b m rs).bind fun es => some (.list ds :: es)
    | _ => none
/-- what a function hands back, its own objects dropped -/
def leave (b : Nat) (r : R) (m : M) : Option (R × M) := match r with
  | .val d => some (.val d, m.take b)
  | .ref i => if i < b then some (.ref i, m.take b) else match m[i]? with
    | some (.lst ds) => some (.val (.list ds), m.take b)
    | some (.dct t false kvs) => some (.ref b, m.take b ++ [.dct t false kvs])
    | _ => none
  | .tp rs => (freezeT b m rs).bind fun ds => some (.val (.tuple ds), m.take b)
def bodyF (n : Nat) (body : SF) : Fn := fun rs m => (body (rs.map some ++ List.replicate (n - rs.length) none) m).bind fun fl => match fl with
  | .rt r m' => leave m.length r m'
  | .nx _ m' => some (.val .none, m'.take m.length)
  | _ => none
/-- .. its own objects kept -/
def bodyK (n : Nat) (body : SF) : Fn := fun rs m => (body (rs.map some ++ List.replicate (n - rs.length) none) m).bind fun fl => match fl with
  | .rt r m' => some (r, m')
  | .nx _ m' => some (.val .none, m')
  | _ => none
section
variable {K : PySem.W.Frag} {φ φ' : Ad} {H H' : Hp} {m m' : M}
theorem Paired.len {α β : Type} {F : α → β → Prop} : ∀ {l₁ : List α} {l₂ : List β}, Paired F l₁ l₂ → l₁.length = l₂.length
  | _, _, .nil => rfl
  | _, _, .cons _ t => by rw [List.length_cons, List.length_cons, Paired.len t]
theorem Paired.at_ {α β : Type} {F : α → β → Prop} : ∀ {l₁ : List α} {l₂ : List β} {i : Nat} {b : β}, Paired F l₁ l₂ → l₂[i]? = some b → ∃ a, l₁[i]? = some a ∧ F a b
  | _, _, _, _, .nil, e => by simp at e
  | _, _, 0, _, .cons (a := a) h t, e => by
    simp at e
    subst e
    exact ⟨a, rfl, h⟩
  | _, _, i + 1, _, .cons _ t, e => by
    obtain ⟨v, h1, h2⟩ := Paired.at_ (i := i) t (by simpa using e)
    exact ⟨v, by simpa using h1, h2⟩
theorem er_start {N : List Str} {vs : List V} {rs : List R} (h : RRs K φ H vs rs) : ER K φ H (L2.start N vs) (rs.map some ++ List.replicate (N.length - rs.length) none) := by
  have hl := Paired.len h
  unfold L2.start
  refine ⟨by simp [hl], fun i r e => ?_⟩
  by_cases hi : i < rs.length
  · rw [List.getElem?_append_left (by simpa using hi), List.getElem?_map] at e
    cases q : rs[i]? with
    | none => rw [q] at e; cases e
    | some r' =>
      rw [q] at e
      cases e
      obtain ⟨v, h1, h2⟩ := Paired.at_ h q
      exact ⟨v, by rw [List.getElem?_append_left (by rw [List.length_map, hl]; exact hi), List.getElem?_map, h1]; rfl, h2⟩
  · rw [List.getElem?_append_right (by simpa using hi), List.getElem?_replicate] at e
    split at e <;> cases e
theorem gr_cut (g : Gr φ H φ' H') : Same (off φ' H') (off φ H') := fun b o e => by
  rw [off_some] at e ⊢
  refine ⟨fun z => e.1 ?_, e.2⟩
  rcases Ad.mem.mp z with z | z
  · exact Ad.mem.mpr (.inl (g.pre.subset z))
  · exact Ad.mem.mpr (.inr (by rw [g.eqh]; exact z))
theorem Gr.cut (g : Gr φ H φ' H') : Gr φ H φ H' := ⟨List.prefix_refl _, rfl, rfl, fun b o e => gr_cut g b o (g.same b o e), g.stay, g.frz⟩
theorem SR.cut (S : SR ζ K φ H m) (S' : SR ζ K φ' H' m') (g : Gr φ H φ' H') : SR ζ K φ H' (m'.take m.length) := by
  obtain ⟨t, ht⟩ := g.pre
  refine ⟨?_, S.nd, fun i o a e1 e2 => ?_, fun a ha => ?_, S.teq, S.tin, by have q := S'.tab; rw [g.eqt] at q; exact q⟩
  · rw [List.length_take, ← S'.len, ← ht, List.length_append, S.len]
    omega
  · have hi : i < m.length := by
      rw [← S.len]
      exact (List.getElem?_eq_some_iff.mp e2).1
    rw [List.getElem?_take_of_lt hi] at e1
    exact (S'.obj i o a e1 (prefix_get g.pre e2)).mono (gr_cut g) fun _ z => z
  · have q := S'.hid a (by rw [g.eqh]; exact ha)
    rw [g.eqt] at q
    exact q
theorem own_out (S : SR ζ K φ H m) (S' : SR ζ K φ' H' m') (g : Gr φ H φ' H') {i : Nat} {a : Addr} (hi : ¬ i < m.length) (h : φ'.s[i]? = some a) : a ∉ φ.all := fun z => by
  rcases Ad.mem.mp z with z | z
  · obtain ⟨j, hj, e⟩ := List.mem_iff_getElem.mp z
    have q : φ'.s[j]? = some a := prefix_get g.pre (by rw [List.getElem?_eq_getElem hj, e])
    have := nodup_at S'.nds h q
    rw [S.len] at hj
    omega
  · exact S'.apart (List.mem_of_getElem? h) (by rw [g.eqh]; exact z)
theorem freeze_ok (S : SR ζ K φ H m) (S' : SR ζ K φ' H' m') (g : Gr φ H φ' H') : ∀ {rs : List (D ⊕ Nat)} {vs : List V} {ds : List D}, Paired (RI K φ' H') vs rs → freezeT m.length m' rs = some ds → DpAll K (off φ H') vs ds
  | [], _, _, .nil, e => by
    cases e
    exact .nil
  | .inl d :: rs, _, _, .cons h t, e => by
    obtain ⟨es, e1, e2⟩ := bind_some_iff e
    cases e2
    exact .cons (dp_mono (gr_cut g) h) (freeze_ok S S' g t e1)
  | .inr i :: rs, _, _, .cons h t, e => by
    obtain ⟨a, rfl, h⟩ := h
    unfold freezeT at e
    split at e
    · cases e
    · rename_i hi
      split at e
      · rename_i ds hm
        obtain ⟨es, e1, e2⟩ := bind_some_iff e
        cases e2
        obtain ⟨xs, h1, h2⟩ := S'.obj i _ a hm h
        exact .cons (Dp.lst (.inl (.inl (off_some.mpr ⟨own_out S S' g hi h, h1, rfl⟩))) (dps_mono (gr_cut g) h2)) (freeze_ok S S' g t e1)
      · cases e
theorem leave_ok {v : V} {r r2 : R} {m2 : M} (S : SR ζ K φ H m) (S' : SR ζ K φ' H' m') (g : Gr φ H φ' H') (h : RR K φ' H' v r) (e : leave m.length r m' = some (r2, m2)) : ∃ φ2, Gr φ H φ2 H' ∧ SR ζ K φ2 H' m2 ∧ RR K φ2 H' v r2 := by
  cases r with
  | tp rs =>
    obtain ⟨a, vs, rfl, h1, h2⟩ := h
    obtain ⟨ds, e1, e2⟩ := bind_some_iff e
    cases e2
    exact ⟨φ, g.cut, S.cut S' g, Dp.tup (sqT_mono (gr_cut g) h1) (freeze_ok S S' g h2 e1)⟩
  | val d =>
    cases e
    exact ⟨φ, g.cut, S.cut S' g, dp_mono (gr_cut g) h⟩
  | ref i =>
    obtain ⟨a, rfl, h⟩ := h
    unfold leave at e
    simp only at e
    split at e
    · rename_i hi
      cases e
      refine ⟨φ, g.cut, S.cut S' g, a, rfl, ?_⟩
      obtain ⟨t, ht⟩ := g.pre
      rw [← ht, List.getElem?_append_left (by rw [S.len]; exact hi)] at h
      exact h
    · rename_i hi
      have na : a ∉ φ.all := fun z => by
        rcases Ad.mem.mp z with z | z
        · obtain ⟨j, hj, e⟩ := List.mem_iff_getElem.mp z
          have q : φ'.s[j]? = some a := prefix_get g.pre (by rw [List.getElem?_eq_getElem hj, e])
          have := nodup_at S'.nds h q
          rw [S.len] at hj
          omega
        · exact S'.apart (List.mem_of_getElem? h) (by rw [g.eqh]; exact z)
      split at e
      · rename_i ds hm
        cases e
        obtain ⟨xs, h1, h2⟩ := S'.obj i _ a hm h
        exact ⟨φ, g.cut, S.cut S' g, Dp.lst (.inl (.inl (off_some.mpr ⟨na, h1, rfl⟩))) (dps_mono (gr_cut g) h2)⟩
      · rename_i t kvs hm
        cases e
        have C := S.cut S' g
        have sm : Same (off φ' H') (off (φ.add a) H') := fun b o e => by
          rw [off_some] at e ⊢
          refine ⟨fun z => e.1 ?_, e.2⟩
          rcases Ad.mem.mp z with z | z
          · rcases List.mem_append.mp z with z | z
            · exact Ad.mem.mpr (.inl (g.pre.subset z))
            · simp at z
              subst z
              exact Ad.mem.mpr (.inl (List.mem_of_getElem? h))
          · exact Ad.mem.mpr (.inr (by rw [g.eqh]; exact z))
        refine ⟨φ.add a, ⟨List.prefix_append _ _, rfl, rfl, fun b o e => sm b o (g.same b o e), g.stay, g.frz⟩, ⟨?_, nodup_add S.nd na, fun j o b e1 e2 => ?_, C.hid, C.teq, C.tin, C.tab⟩, a, rfl, ?_⟩
        · show (φ.s ++ [a]).length = _
          rw [List.length_append, List.length_append, C.len]
          rfl
        · have e2' : (φ.s ++ [a])[j]? = some b := e2
          by_cases hj : j < φ.s.length
          · have hj' : j < m.length := by rw [← S.len]; exact hj
            have hm' : m.length ≤ m'.length := by
              rw [← S.len, ← S'.len]
              exact g.pre.length_le
            rw [List.getElem?_append_left hj] at e2'
            rw [List.getElem?_append_left (by rw [List.length_take]; omega), List.getElem?_take_of_lt hj'] at e1
            exact (S'.obj j o b e1 (prefix_get g.pre e2')).mono sm fun _ z => z
          · have hl : (m'.take m.length).length = φ.s.length := C.len.symm
            have q : j = φ.s.length := by
              have := (List.getElem?_eq_some_iff.mp e2').1
              rw [List.length_append] at this
              simp at this
              omega
            subst q
            rw [List.getElem?_append_right (Nat.le_refl _), Nat.sub_self] at e2'
            rw [← hl, List.getElem?_append_right (Nat.le_refl _), Nat.sub_self] at e1
            simp at e1 e2'
            subst e1 e2'
            exact (S'.obj i _ a hm h).mono sm fun _ z => z
        · show (φ.s ++ [a])[m.length]? = some a
          rw [← S.len, List.getElem?_append_right (Nat.le_refl _), Nat.sub_self]
          rfl
      · cases e
end
structure FnG (P : Program) (w : World) (K : PySem.W.Frag) (mg : Str → Option Value) (base : Heap) (k : Nat) (f : Addr) (fd : FuncData) (ps : List Str) (sp : Sp) : Prop where
  len : ∀ vs H Q E, sp vs H Q E → vs.length = ps.length
  go : ∀ (A : Around) (outer : List Env) (s : Shared) (H : Hp) (args : Args) (us : List Value) (vs : List V) (Q : VK) (E : XK), A.guards = some [] → Room k A → Env0 P w K mg base A outer s H → BindsTo s fd args (ps.zip us) → Vals vs us → sp vs H Q E →
    codeAny (model P w) A (.call (.ref f) args) (CR CX0 outer P w H s Q E) s
section
variable {P : Program} {w : World} {K : PySem.W.Frag} {mg : Str → Option Value} {base : Heap}
theorem guards_deeper {A : Around} {env : Env} (h : A.guards = some []) : (A.deeper env).guards = some [] := h
/-- the context of a def's body -/
abbrev Cf (P : Program) (w : World) (K : PySem.W.Frag) (mg : Str → Option Value) (base : Heap) (N : List Str) (qual : Str) (st : Stmt) (f : Addr) (cdv : Value) (A : Around) (outer : List Env) (s : Shared) (H : Hp) (E : XK) : Cx := (cxOf CX0 P w K mg base N qual (defScope st) f cdv A outer s H E).nox
/-- the rule of a def -/
theorem fnG {x qual : Str} {st : Stmt} {f : Addr} {fd : FuncData} {N ps : List Str} {k : Nat} {sp : Sp} {t : TS} (F : Fun K x qual st f fd) (S : FnScope N ps (defScope st)) (len : ∀ vs H Q E, sp vs H Q E → vs.length = ps.length)
    (hb : ∀ cdv A outer s H E, fd.code = cdv → A.guards = some [] → Room k (A.deeper (envOfC qual (defScope st) s.heap.objs.size f cdv)) → PSs (Cf P w K mg base N qual st f cdv A outer s H E) (defBody st) t)
    (hq : ∀ vs H Q E, sp vs H Q E → t { nx := fun _ H' => Q .non H', rt := Q } (L2.start N vs) H) : FnG P w K mg base (k + 1) f fd ps sp := by
  obtain ⟨oc, od, kV, doc, pm, an, cdv, ct, osl, rfl, lk, hcd⟩ := F.ex
  refine ⟨len, fun A outer s H args us vs Q E hg hr e0 hbd r hsp => ?_⟩
  have hl := len _ _ _ _ hsp
  have stay : ∀ b o, base.get? b = some o → s.heap.get? b = some o := fun b o e => (e0.bs b o e).1
  have KX : K.In s.heap := e0.mod.kin.keeps stay
  have lim : s.heap.NoLimit := e0.mod.nolimit.keeps stay
  have kinds : ∀ y ∈ ps.zip us, (defScope st).names.lookup y.1 = some .local ∨ ((defScope st).names.lookup y.1 = some .cell ∧ ((cellsFrom (s.heap.objs.size + 1) (defScope st).names []).lookup y.1).isSome = true) := by
    rintro ⟨n, v⟩ hy
    rcases S.par n (List.of_mem_zip hy).1 with q | q
    · exact Or.inl q
    · exact Or.inr ⟨q, PySem.W.cellsFrom_some _ _ _ (Or.inl q)⟩
  refine codeAny_call_function hr.depth (KX _ _ lk) rfl S.co S.gen rfl (PySem.W.codeRec_of KX hcd) (hbd _ _ _ _ ?_)
  refine wpAny_newFunctionEnv_cells S.kind kinds fun env he s1 x => ?_
  subst he
  refine ⟨lim.keeps x.toInCall.keep, codeAny_func ?_⟩
  have ht := hb cdv A outer s H E rfl hg (hr.deeper _)
  have I : Inv (cxOf CX0 P w K mg base N qual (defScope st) f cdv A outer s H E) [] (L2.start N vs) H s1 := inv_start S hr.hd e0 hl r x
  refine wpAny_mono ((PSs.nox ht).run [] s1 (L2.start N vs) H _ I (hq vs H Q E hsp)) (fun fl s' hs => ?_) fun e s' hs => hs
  have fin : ∀ {σ' : L2.St} {H' : Hp} {v : V} {u : Value}, Inv (cxOf CX0 P w K mg base N qual (defScope st) f cdv A outer s H E) [] σ' H' s' → RelV v u → Q v H' → CE outer P w H s Q u s' :=
    fun {σ' H' v u} J rv q => ⟨v, H', J.os, J.bare, J.base, J.hok, rv, q⟩
  cases fl with
  | ret u =>
    obtain ⟨v, σ', H', J, rv, q⟩ := hs
    exact fin J rv q
  | next =>
    obtain ⟨σ', H', J, q⟩ := hs
    exact fin (v := V.non) (u := Value.none) J rfl q
  | brk =>
    obtain ⟨_, _, _, q⟩ := hs
    exact q.elim
  | cont =>
    obtain ⟨_, _, _, q⟩ := hs
    exact q.elim
/-- .. by its function -/
theorem fnF {x qual : Str} {st : Stmt} {f : Addr} {fd : FuncData} {N ps : List Str} {k n : Nat} {body : SF} (F : Fun K x qual st f fd) (S : FnScope N ps (defScope st)) (hn : N.length = n)
    (hb : ∀ cdv A outer s H E, fd.code = cdv → A.guards = some [] → Room k (A.deeper (envOfC qual (defScope st) s.heap.objs.size f cdv)) → PSs (Cf P w K mg base N qual st f cdv A outer s H E) (defBody st) (tS ζ K body)) :
    FnG P w K mg base (k + 1) f fd ps (spF ζ K ps.length (bodyF n body)) := by
  refine fnG F S (fun vs H Q E h => h.1) hb fun vs H Q E h => ?_
  obtain ⟨_, φ, m, rs, r, m', SS, RS, hf, k⟩ := h
  obtain ⟨fl, hfl, hf⟩ := bind_some_iff hf
  rw [← hn] at hfl
  refine ⟨φ, _, m, fl, SS, er_start RS, hfl, ?_⟩
  cases fl with
  | nx e m1 =>
    cases hf
    exact fun φ1 σ1 H1 g1 S1 E1 => k φ H1 _ g1.cut (SS.cut S1 g1) Dp.non
  | rt r1 m1 =>
    intro φ1 H1 v g1 S1 R1
    obtain ⟨φ2, g2, S2, R2⟩ := leave_ok SS S1 g1 R1 hf
    exact k φ2 H1 v g2 S2 R2
  | bk e m1 => cases hf
  | ct e m1 => cases hf
theorem fnK {x qual : Str} {st : Stmt} {f : Addr} {fd : FuncData} {N ps : List Str} {k n : Nat} {body : SF} (F : Fun K x qual st f fd) (S : FnScope N ps (defScope st)) (hn : N.length = n)
    (hb : ∀ cdv A outer s H E, fd.code = cdv → A.guards = some [] → Room k (A.deeper (envOfC qual (defScope st) s.heap.objs.size f cdv)) → PSs (Cf P w K mg base N qual st f cdv A outer s H E) (defBody st) (tS ζ K body)) :
    FnG P w K mg base (k + 1) f fd ps (spF ζ K ps.length (bodyK n body)) := by
  refine fnG F S (fun vs H Q E h => h.1) hb fun vs H Q E h => ?_
  obtain ⟨_, φ, m, rs, r, m', SS, RS, hf, k⟩ := h
  obtain ⟨fl, hfl, hf⟩ := bind_some_iff hf
  rw [← hn] at hfl
  refine ⟨φ, _, m, fl, SS, er_start RS, hfl, ?_⟩
  cases fl with
  | nx e m1 =>
    cases hf
    exact fun φ1 σ1 H1 g1 S1 E1 => k φ1 H1 _ g1 S1 Dp.non
  | rt r1 m1 =>
    cases hf
    exact k
  | bk e m1 => cases hf
  | ct e m1 => cases hf
end
section
variable {X : Cx} {k : Nat} {f : Addr} {fd : FuncData} {ps : List Str} {x : Str} {p pos : Pos} {e : Expr} {es : List Expr} {fa : AF} {n : Nat} {F : Fn}
/-- f(..) of a def -/
theorem x_call (F0 : FnG X.prog X.w X.K X.mg X.base k f fd ps (spF ζ X.K n F)) (hr : Room k X.A) (hgd : X.A.guards = some []) (hg : Gl X x) (hm : X.mg x = some (.ref f)) (hk : PySem.W.keepIn X.K (.ref f) = true) (hb : Binds X.K fd ps []) (hnn : ps.length = n)
    (ha : PA X (e :: es) (tA ζ X.K fa)) (hl : ∀ env m rs m', fa env m = some (rs, m') → rs.length = n) (hdb : (x == ("__debug__" : Str)) = false := by decide) (he : starEach (e :: es) X.env = (false, eval e X.env) :: starEach es X.env := by rfl) (hpl : (backTo pos (starEach es X.env)).any (·.1) = false := by rfl) :
    PE X (.Call (.Name x p) (e :: es) [] pos) (tE ζ X.K (eAp F fa)) := by
  refine ⟨fun pins s σ H Q I h => ?_⟩
  obtain ⟨φ, env, m, r, m', S, E, hf, q⟩ := h
  obtain ⟨⟨rs, m1⟩, h1, hf⟩ := bind_some_iff hf
  refine wpAny_Call_Name_kw (ld_glob I hg hm ?_ hdb)
  have hA := ha.run pos pins s σ H (fun vs H1 => ∃ φ1, Gr φ H φ1 H1 ∧ SR ζ X.K φ1 H1 m1 ∧ RRs X.K φ1 H1 vs rs) I ⟨φ, env, m, rs, m1, S, E, h1, fun φ1 H1 vs g1 S1 R1 => ⟨φ1, g1, S1, R1⟩⟩
  refine PySem.W.callWith_K (h₀ := X.base) I.ok.mod.kin hk (thn hA fun us s1 ⟨vs, H1, I1, rv, φ1, g1, S1, R1⟩ => ⟨I1.kIn, ?_⟩) he hpl
  have hvs : vs.length = n := by rw [Paired.len R1]; exact hl env m rs m1 h1
  have hlen : (us ++ []).length = ps.length := by rw [List.append_nil, ← rv.length, hvs, hnn]
  have hbd := hb s1 us I1.kIn hlen
  rw [List.append_nil] at hbd
  have sp : spF ζ X.K n F vs H1 Q E0 := ⟨hvs, φ1, m1, rs, r, m', S1, R1, hf, fun φ2 H2 v g2 S2 R2 => q φ2 H2 v (g1.trans g2) S2 R2⟩
  refine wpAny_call (codeAny_mono (F0.go X.A X.stack s1 H1 ⟨us, []⟩ us vs Q E0 hgd hr I1.env0 hbd rv sp) fun r s' hq => ?_)
  cases r with
  | error e => exact (show False from hq).elim
  | ok fl =>
    cases fl with
    | ret u => exact I1.after hq
    | next => exact (show False from hq).elim
    | brk => exact (show False from hq).elim
    | cont => exact (show False from hq).elim
end
/-- a tuple display that may hold objects of the store -/
def toI : R → Option (D ⊕ Nat)
  | .val d => some (.inl d)
  | .ref i => some (.inr i)
  | .tp _ => none
def toIs : List R → Option (List (D ⊕ Nat))
  | [] => some []
  | r :: rs => (toI r).bind fun x => (toIs rs).bind fun xs => some (x :: xs)
def pTupR (rs : List R) (m : M) : Option (R × M) := (toIs rs).bind fun xs => if xs.length ≤ sizeLine then some (.tp xs, m) else none
theorem toIs_rr {K : PySem.W.Frag} {φ : Ad} {H : Hp} : ∀ {rs : List R} {xs : List (D ⊕ Nat)} {vs : List V}, toIs rs = some xs → RRs K φ H vs rs → Paired (RI K φ H) vs xs
  | [], _, _, e, h => by
    cases e
    cases h
    exact .nil
  | r :: rs, _, _, e, h => by
    obtain ⟨x, e1, e⟩ := bind_some_iff e
    obtain ⟨xs, e2, e⟩ := bind_some_iff e
    cases e
    cases h with
    | cons a t =>
      refine .cons ?_ (toIs_rr e2 t)
      cases r with
      | val d => cases e1; exact a
      | ref i => cases e1; exact a
      | tp s => cases e1
theorem x_tupR {X : Cx} {es : List Expr} {fa : AF} {pos : Pos} {x1} (h : PA X es (tA ζ X.K fa)) : PE X (.Tuple es x1 pos) (tE ζ X.K (eAp pTupR fa)) := pe_imp (pe_tup h) fun σ H Q q => by
  obtain ⟨φ, env, m, r, m', S, E, hf, k⟩ := q
  obtain ⟨⟨rs, m1⟩, h1, hf⟩ := bind_some_iff hf
  obtain ⟨xs, h2, hf⟩ := bind_some_iff hf
  split at hf
  · rename_i hl
    cases hf
    refine ⟨φ, env, m, rs, m1, S, E, h1, fun φ1 H1 vs g1 S1 R1 => ?_⟩
    have hd := toIs_rr h2 R1
    refine ⟨by rw [Paired.len hd]; exact hl, fun p hp => k φ1 _ _ (g1.trans (gr_alloc hp)) (S1.alloc hp) ⟨p, vs, rfl, .inl (.inl (off_some.mpr ⟨S1.new hp, upd_same, rfl⟩)), ?_⟩⟩
    exact Paired.mapP hd fun _ _ z => RI.monoS (List.prefix_refl _) (gr_alloc hp).same z
  · cases hf
end Ev

set_option Elab.async false
set_option linter.all false
set_option maxRecDepth 100000
/-! Operators, comparisons, subscripts. -/
namespace Ev
open PySem PySem.Spec PyProof.Rows L2

/-- the items of a list, of the store or not -/
def asL (r : R) (m : M) : Option (List D) := match r with
  | .val (.list ds) => some ds
  | .ref k => match m[k]? with
    | some (.lst ds) => some ds
    | _ => none
  | _ => none
/-- .. of a list or a tuple -/
def asLT (r : R) (m : M) : Option (List D) := match r with
  | .val (.tuple ds) => some ds
  | r => asL r m
section
variable {K : PySem.W.Frag} {φ : Ad} {H : Hp} {m : M} {v : V} {r : R} {ds : List D}
theorem seqL_of (S : SR ζ K φ H m) (h : RR K φ H v r) (e : asL r m = some ds) : ∃ a xs, v = .ref a ∧ SqL K H a xs ∧ DpAll K (off φ H) xs ds := by
  cases r with
  | tp j => first | (cases hf; done) | (cases e; done) | (cases h1; done) | (cases h; done) | (cases h7; done) | (cases h2; done)
  | val d =>
    cases d with
    | list es =>
      cases e
      have h' : Dp K (off φ H) v (.list ds) := h
      cases h' with
      | lst hs ha => exact ⟨_, _, rfl, off_same.seq hs, ha⟩
    | _ => cases e
  | ref k =>
    obtain ⟨a, rfl, h⟩ := h
    unfold asL at e
    simp only at e
    split at e
    · rename_i es hm
      cases e
      obtain ⟨xs, h1, h2⟩ := S.obj k _ a hm h
      exact ⟨a, xs, rfl, .inl (.inl h1), h2⟩
    · cases e
theorem seqT_of (h : RR K φ H v (.val (.tuple ds))) : ∃ a xs, v = .ref a ∧ SqT K H a xs ∧ DpAll K (off φ H) xs ds := by
  have h' : Dp K (off φ H) v (.tuple ds) := h
  cases h' with
  | tup hs ha => exact ⟨_, _, rfl, sqT_mono off_same hs, ha⟩
theorem seqLT_of (S : SR ζ K φ H m) (h : RR K φ H v r) (e : asLT r m = some ds) : ∃ a xs, v = .ref a ∧ (SqL K H a xs ∨ SqT K H a xs) ∧ DpAll K (off φ H) xs ds := by
  unfold asLT at e
  split at e
  · cases e
    obtain ⟨a, xs, h1, h2, h3⟩ := seqT_of h
    exact ⟨a, xs, h1, .inr h2, h3⟩
  · obtain ⟨a, xs, h1, h2, h3⟩ := seqL_of S h e
    exact ⟨a, xs, h1, .inl h2, h3⟩
theorem rr_int {i : Int} (h : RR K φ H v (.val (.int i))) : v = .int i := by
  have h' : Dp K (off φ H) v (.int i) := h
  cases h'
  rfl
theorem rr_str {i : Str} (h : RR K φ H v (.val (.str i))) : v = .str i := by
  have h' : Dp K (off φ H) v (.str i) := h
  cases h'
  rfl
theorem rr_dp {d : D} (h : RR K φ H v (.val d)) : Dp K H v d := dp_mono off_same h
end

def asI : R → Option Int
  | .val (.int i) => some i
  | _ => none
theorem asI_some {r : R} {i : Int} (h : asI r = some i) : r = .val (.int i) := by
  cases r with
  | tp j => first | (cases hf; done) | (cases e; done) | (cases h1; done) | (cases h; done) | (cases h7; done) | (cases h2; done)
  | ref i => cases h
  | val d =>
    cases d with
    | int c =>
      cases h
      rfl
    | _ => cases h

/-- an operation of two ints -/
def pII (C : Int → Int → Bool) (g : Int → Int → D) (a b : R) (m : M) : Option (R × M) := (asI a).bind fun i => (asI b).bind fun j => ite (C i j = true) (some (.val (g i j), m)) none
/-- a raw rule of two ints gives one here -/
theorem o_ii {X : Cx} {f : Value → Value → Sem Value} {C : Int → Int → Bool} {C' : Int → Int → Prop} {g : Int → Int → D} {g' : Int → Int → V} (h : OpR X f (rI C' g')) (hc : ∀ i j, C i j = true → C' i j) (hg : ∀ H i j, Dp X.K H (g' i j) (g i j)) : OpR X f (r2P ζ X.K (pII C g)) := by
  intro pins s σ H x y v u Q I rx ry q
  obtain ⟨φ, m, r1, r2, r, m', S, R1, R2, hf, k⟩ := q
  obtain ⟨i, h1, hf⟩ := bind_some_iff hf
  obtain ⟨j, h2, hf⟩ := bind_some_iff hf
  have e1 := asI_some h1
  have e2 := asI_some h2
  subst e1 e2
  have x1 := rr_int R1
  have x2 := rr_int R2
  replace hf : (if C i j = true then some (R.val (g i j), m) else none) = some (r, m') := hf
  split at hf
  · rename_i hcc
    cases hf
    exact h pins s σ H x y v u Q I rx ry ⟨i, j, x1, x2, hc i j hcc, k φ H _ .refl S (hg _ i j)⟩
  · cases hf
theorem o_ii0 {X : Cx} {f : Value → Value → Sem Value} {g : Int → Int → D} {g' : Int → Int → V} (h : OpR X f (rI0 g')) (hg : ∀ H i j, Dp X.K H (g' i j) (g i j)) : OpR X f (r2P ζ X.K (pII (fun _ _ => true) g)) := by
  intro pins s σ H x y v u Q I rx ry q
  obtain ⟨φ, m, r1, r2, r, m', S, R1, R2, hf, k⟩ := q
  obtain ⟨i, h1, hf⟩ := bind_some_iff hf
  obtain ⟨j, h2, hf⟩ := bind_some_iff hf
  have e1 := asI_some h1
  have e2 := asI_some h2
  subst e1 e2
  have x1 := rr_int R1
  have x2 := rr_int R2
  cases hf
  exact h pins s σ H x y v u Q I rx ry ⟨i, j, x1, x2, k φ H _ .refl S (hg _ i j)⟩
/-- one of two operations -/
def pOr (p q : R → R → M → Option (R × M)) (a b : R) (m : M) : Option (R × M) := match p a b m with
  | some x => some x
  | none => q a b m
theorem o_or {X : Cx} {f : Value → Value → Sem Value} {p q : R → R → M → Option (R × M)} (h1 : OpR X f (r2P ζ X.K p)) (h2 : OpR X f (r2P ζ X.K q)) : OpR X f (r2P ζ X.K (pOr p q)) := by
  intro pins s σ H x y v u Q I rx ry z
  obtain ⟨φ, m, r1, r2, r, m', S, R1, R2, hf, k⟩ := z
  unfold pOr at hf
  split at hf
  · rename_i e
    cases hf
    exact h1 pins s σ H x y v u Q I rx ry ⟨φ, m, r1, r2, r, m', S, R1, R2, e, k⟩
  · exact h2 pins s σ H x y v u Q I rx ry ⟨φ, m, r1, r2, r, m', S, R1, R2, hf, k⟩

/-! ### + -/
def pCatT (a b : R) (m : M) : Option (R × M) := match a, b with
  | .val (.tuple xs), .val (.tuple ys) => if xs.length + ys.length ≤ sizeLine then some (.val (.tuple (xs ++ ys)), m) else none
  | _, _ => none
def pCatL (a b : R) (m : M) : Option (R × M) := (asL a m).bind fun xs => (asL b m).bind fun ys => if xs.length + ys.length ≤ sizeLine then some (.val (.list (xs ++ ys)), m) else none
def pAdd : R → R → M → Option (R × M) := pOr (pII (fun _ _ => true) fun i j => .int (i + j)) (pOr pCatT pCatL)
section
variable {X : Cx}
theorem o_catT : OpR X (binaryOp .Add) (r2P ζ X.K pCatT) := by
  intro pins s σ H x y v u Q I rx ry q
  obtain ⟨φ, m, r1, r2, r, m', S, R1, R2, hf, k⟩ := q
  unfold pCatT at hf
  split at hf
  · rename_i xs ys
    split at hf
    · rename_i hl
      cases hf
      obtain ⟨a, vs, rfl, ha, da⟩ := seqT_of R1
      obtain ⟨b, us, rfl, hb, db⟩ := seqT_of R2
      have l1 := DpAll.len da
      have l2 := DpAll.len db
      refine op_catA pins s σ H _ _ v u Q I rx ry ⟨a, b, vs, us, rfl, rfl, ha, hb, by rw [l1, l2]; exact hl, fun e => ?_, fun e1 e2 => ?_, fun _ _ p hp => ?_⟩
      · subst e
        have : xs = [] := List.length_eq_zero_iff.mp l1.symm
        subst this
        exact k φ H _ .refl S R2
      · subst e2
        have : ys = [] := List.length_eq_zero_iff.mp l2.symm
        subst this
        rw [List.append_nil] at k
        exact k φ H _ .refl S R1
      · exact k φ _ _ (gr_alloc hp) (S.alloc hp) (rr_newT S hp (DpAll.append da db))
    · cases hf
  · cases hf
theorem o_catL : OpR X (binaryOp .Add) (fun x y H Q => ∃ φ m r1 r2 xs ys, SR ζ X.K φ H m ∧ RR X.K φ H x r1 ∧ RR X.K φ H y r2 ∧ asL r1 m = some xs ∧ asL r2 m = some ys ∧ xs.length + ys.length ≤ sizeLine ∧
    ∀ p vs, H p = none → DpAll X.K (off φ H) vs (xs ++ ys) → Q (.ref p) (upd H p (.lst vs))) := by
  intro pins s σ H x y v u Q I rx ry q
  obtain ⟨φ, m, r1, r2, xs, ys, S, R1, R2, h1, h2, hl, k⟩ := q
  obtain ⟨a, vs, rfl, ha, da⟩ := seqL_of S R1 h1
  obtain ⟨b, us, rfl, hb, db⟩ := seqL_of S R2 h2
  cases rx
  cases ry
  obtain ⟨its, rv, pl, z1⟩ := I.list ha
  obtain ⟨its2, rv2, pl2, z2⟩ := I.list hb
  obtain ⟨⟨cl1, dd1, dt1, sl1⟩, n1, g1, c1, d1, e1⟩ := pl
  obtain ⟨⟨cl2, dd2, dt2, sl2⟩, n2, g2, c2, d2, e2⟩ := pl2
  simp only at c1 e1 c2 e2
  subst c1 e1 c2 e2
  have l1 := DpAll.len da
  have l2 := DpAll.len db
  have l3 := rv.length
  have l4 := rv2.length
  have ea : its.toArray ++ its2.toArray = (its ++ its2).toArray := by simp
  refine concat_meets ⟨_, g1, rfl⟩ ⟨_, g2, rfl⟩ noFill_list_add seq_list_add
    PySem.F.slot_list_add PySem.F.entry_list_add (PySem.F.args_list_add_2 _ _)
    (PyProof.Rows.list_addW a b its.toArray its2.toArray n1 n2 dd1 dd2 sl1 sl2
      (by simp only [List.size_toArray]; omega)) ⟨g1, g2, ?_⟩
  rw [ea]
  exact ⟨.ref _, _, I.lnew (t' := s.toks) (rv.append rv2) (by rw [List.length_append]; omega), rfl, k _ _ I.fresh (DpAll.append da db)⟩
end

/-! ### expressions that make a new list -/
abbrev NF := Sl → M → Option (List D × M)
def tN (ζ : Tbs) (K : PySem.W.Frag) (f : NF) : TE := fun σ H Q => ∃ φ env m ds m', SR ζ K φ H m ∧ ER K φ H σ env ∧ f env m = some (ds, m') ∧
  ∀ φ' H' p vs, Gr φ H φ' H' → SR ζ K φ' H' m' → H' p = none → DpAll K (off φ' H') vs ds → Q (.ref p) (upd H' p (.lst vs))
/-- as data -/
def eL (f : NF) : EF := fun env m => (f env m).bind fun x => some (.val (.list x.1), x.2)
/-- as a new object of the store -/
def eNew (f : NF) : EF := fun env m => (f env m).bind fun x => some (.ref x.2.length, x.2 ++ [.lst x.1])
def nLst (f : AF) : NF := fun env m => (f env m).bind fun x => (vals x.1).bind fun ds => if ds.length ≤ sizeLine then some (ds, x.2) else none
def nCat (f g : EF) : NF := fun env m => (f env m).bind fun x => (g env x.2).bind fun y => (asL x.1 y.2).bind fun xs => (asL y.1 y.2).bind fun ys => if xs.length + ys.length ≤ sizeLine then some (xs ++ ys, y.2) else none
def nRep (f : NF) (g : EF) : NF := fun env m => (f env m).bind fun x => (g env x.2).bind fun y => (asI y.1).bind fun k => if -(2 ^ 63) ≤ k ∧ k < 2 ^ 63 ∧ x.1.length * k.toNat ≤ sizeLine then some ((List.replicate k.toNat x.1).flatten, y.2) else none
theorem DpAll.rep {K : PySem.W.Frag} {H : Hp} {ds : List D} {vs : List V} (h : DpAll K H vs ds) : ∀ n : Nat, DpAll K H (List.replicate n vs).flatten (List.replicate n ds).flatten
  | 0 => by simp; exact .nil
  | n + 1 => by
    rw [List.replicate_succ, List.replicate_succ, List.flatten_cons, List.flatten_cons]
    exact DpAll.append h (DpAll.rep h n)
section
variable {X : Cx} {a b e : Expr} {es : List Expr} {f g : EF} {fa : AF} {nf : NF} {pos : Pos}
theorem x_ofN (h : PE X e (tN ζ X.K nf)) : PE X e (tE ζ X.K (eL nf)) := pe_imp h fun σ H Q q => by
  obtain ⟨φ, env, m, r, m', S, E, hf, k⟩ := q
  obtain ⟨⟨ds, m1⟩, h1, hf⟩ := bind_some_iff hf
  cases hf
  exact ⟨φ, env, m, ds, m1, S, E, h1, fun φ1 H1 p vs g1 S1 hp hd => k φ1 _ _ (g1.trans (gr_alloc hp)) (S1.alloc hp) (rr_newL S1 hp hd)⟩
theorem x_new (h : PE X e (tN ζ X.K nf)) : PE X e (tE ζ X.K (eNew nf)) := pe_imp h fun σ H Q q => by
  obtain ⟨φ, env, m, r, m', S, E, hf, k⟩ := q
  obtain ⟨⟨ds, m1⟩, h1, hf⟩ := bind_some_iff hf
  cases hf
  refine ⟨φ, env, m, ds, m1, S, E, h1, fun φ1 H1 p vs g1 S1 hp hd => k _ _ _ (g1.trans (gr_enter (o := .lst vs) hp)) (S1.enter hp hd) ⟨p, rfl, ?_⟩⟩
  show (φ1.s ++ [p])[m1.length]? = some p
  rw [← S1.len, List.getElem?_append_right (Nat.le_refl _), Nat.sub_self]
  rfl
theorem n_lst (h : PA X es (tA ζ X.K fa)) : PE X (.List es pos) (tN ζ X.K (nLst fa)) := pe_imp (pe_lst h) fun σ H Q q => by
  obtain ⟨φ, env, m, r, m', S, E, hf, k⟩ := q
  obtain ⟨⟨rs, m1⟩, h1, hf⟩ := bind_some_iff hf
  obtain ⟨ds, h2, hf⟩ := bind_some_iff hf
  split at hf
  · rename_i hl
    cases hf
    refine ⟨φ, env, m, rs, m1, S, E, h1, fun φ1 H1 vs g1 S1 R1 => ?_⟩
    have hd := vals_rr h2 R1
    exact ⟨by rw [DpAll.len hd]; exact hl, fun p hp => k φ1 H1 p vs g1 S1 hp hd⟩
  · cases hf
theorem n_cat (ha : PE X a (tE ζ X.K f)) (hb : PE X b (tE ζ X.K g)) : PE X (.BinOp a .Add b pos) (tN ζ X.K (nCat f g)) := pe_imp (pe_op o_catL ha hb) fun σ H Q q => by
  obtain ⟨φ, env, m, ds, m', S, E, hf, k⟩ := q
  obtain ⟨⟨r1, m1⟩, h1, hf⟩ := bind_some_iff hf
  obtain ⟨⟨r2, m2⟩, h2, hf⟩ := bind_some_iff hf
  obtain ⟨xs, h3, hf⟩ := bind_some_iff hf
  obtain ⟨ys, h4, hf⟩ := bind_some_iff hf
  split at hf
  · rename_i hl
    cases hf
    refine ⟨φ, env, m, r1, m1, S, E, h1, fun φ1 H1 v1 g1 S1 R1 => ?_⟩
    refine ⟨φ1, env, m1, r2, m2, S1, E.mono g1, h2, fun φ2 H2 v2 g2 S2 R2 => ?_⟩
    exact ⟨φ2, m2, r1, r2, xs, ys, S2, R1.mono g2, R2, h3, h4, hl, fun p vs hp hd => k φ2 H2 p vs (g1.trans g2) S2 hp hd⟩
  · cases hf
theorem upd_none {H : Hp} {p : Addr} {o : HO} : (fun b => if b = p then none else upd H p o b) = fun b => if b = p then none else H b := by
  funext b
  by_cases h : b = p
  · rw [if_pos h, if_pos h]
  · rw [if_neg h, if_neg h, upd_ne h]
theorem n_rep (ha : PE X a (tN ζ X.K nf)) (hb : PE X b (tE ζ X.K g)) : PE X (.BinOp a .Mult b pos) (tN ζ X.K (nRep nf g)) := pe_imp (pe_op op_rep ha hb) fun σ H Q q => by
  obtain ⟨φ, env, m, ds, m', S, E, hf, k⟩ := q
  obtain ⟨⟨xs, m1⟩, h1, hf⟩ := bind_some_iff hf
  obtain ⟨⟨r2, m2⟩, h2, hf⟩ := bind_some_iff hf
  obtain ⟨n, h3, hf⟩ := bind_some_iff hf
  split at hf
  · rename_i hl
    cases hf
    have e2 := asI_some h3
    simp only at e2
    subst e2
    refine ⟨φ, env, m, xs, m1, S, E, h1, fun φ1 H1 p vs g1 S1 hp hd => ?_⟩
    refine ⟨φ1, env, m1, _, m2, S1.alloc hp, E.mono (g1.trans (gr_alloc hp)), h2, fun φ2 H2 v2 g2 S2 R2 => ?_⟩
    have hp2 : off φ2 H2 p = some (.lst vs) := g2.same _ _ (off_some.mpr ⟨S1.new hp, upd_same, rfl⟩)
    have hd2 := dps_mono g2.same (dps_mono (gr_alloc (o := .lst vs) hp).same hd)
    refine ⟨p, n, vs, rfl, rr_int R2, (off_some.mp hp2).2.1, hl.1, hl.2.1, by rw [DpAll.len hd]; exact hl.2.2, fun q hq => ?_⟩
    exact k φ2 H2 q _ (g1.trans ((gr_alloc hp).trans g2)) S2 hq (DpAll.rep hd2 _)
  · cases hf
end

/-! ### numbers -/
def mulOk (i j : Int) : Bool := decide (i.natAbs.log2 + j.natAbs.log2 < 1000000)
def divOk (_ j : Int) : Bool := decide (0 < j ∧ j.natAbs.log2 < 9000)
def modOk (_ j : Int) : Bool := decide (0 < j)
def shlOk (i j : Int) : Bool := decide (0 ≤ j ∧ j ≤ 1000000 ∧ i.natAbs < 2 ^ 64)
def shrOk (_ j : Int) : Bool := decide (0 ≤ j)
abbrev pNum (g : Int → Int → Int) := pII (fun _ _ => true) fun i j => .int (g i j)
abbrev pRel (g : Int → Int → Bool) := pII (fun _ _ => true) fun i j => .bool (g i j)
def pSub := pNum (· - ·)
def pMul := pII mulOk fun i j => .int (i * j)
def pDiv := pII divOk fun i j => .int (i / j)
def pMod := pII modOk fun i j => .int (i % j)
def pShl := pII shlOk fun i j => .int (i * 2 ^ j.toNat)
def pShr := pII shrOk fun i j => .int (i / 2 ^ j.toNat)
def pAnd := pNum Builtin.bitAnd
def pBor := pNum Builtin.bitOr
def pXor := pNum Builtin.bitXor
def pLt := pRel fun i j => decide (i < j)
def pLe := pRel fun i j => decide (i ≤ j)
def pGt := pRel fun i j => decide (j < i)
def pGe := pRel fun i j => decide (j ≤ i)
def pAddI := pNum (· + ·)
def pAddN : R → R → M → Option (R × M) := pOr pAddI pCatT
section
variable {X : Cx}
theorem o_addI : OpR X (binaryOp .Add) (r2P ζ X.K pAddI) := o_ii0 op_add fun _ _ _ => .int _
theorem o_add : OpR X (binaryOp .Add) (r2P ζ X.K pAddN) := o_or o_addI o_catT
theorem o_sub : OpR X (binaryOp .Sub) (r2P ζ X.K pSub) := o_ii0 op_sub fun _ _ _ => .int _
theorem o_mul : OpR X (binaryOp .Mult) (r2P ζ X.K pMul) := o_ii op_mulW (fun i j h => (of_decide_eq_true h : i.natAbs.log2 + j.natAbs.log2 < 1000000)) fun _ _ _ => .int _
theorem o_div : OpR X (binaryOp .FloorDiv) (r2P ζ X.K pDiv) := o_ii op_fdivW (fun i j h => (of_decide_eq_true h : 0 < j ∧ j.natAbs.log2 < 9000)) fun _ _ _ => .int _
theorem o_mod : OpR X (binaryOp .Mod) (r2P ζ X.K pMod) := o_ii op_mod (fun _ _ h => of_decide_eq_true h) fun _ _ _ => .int _
theorem o_shl : OpR X (binaryOp .LShift) (r2P ζ X.K pShl) := o_ii op_shl (fun i j h => (of_decide_eq_true h : 0 ≤ j ∧ j ≤ 1000000 ∧ i.natAbs < 2 ^ 64)) fun _ _ _ => .int _
theorem o_shr : OpR X (binaryOp .RShift) (r2P ζ X.K pShr) := o_ii op_shr (fun _ _ h => of_decide_eq_true h) fun _ _ _ => .int _
theorem o_and : OpR X (binaryOp .BitAnd) (r2P ζ X.K pAnd) := o_ii0 op_and fun _ _ _ => .int _
theorem o_bor : OpR X (binaryOp .BitOr) (r2P ζ X.K pBor) := o_ii0 op_or fun _ _ _ => .int _
theorem o_xor : OpR X (binaryOp .BitXor) (r2P ζ X.K pXor) := o_ii0 op_xor fun _ _ _ => .int _
theorem o_lt : OpR X (compareOp .Lt) (r2P ζ X.K pLt) := o_ii0 op_lt fun _ _ _ => .bl _
theorem o_le : OpR X (compareOp .LtE) (r2P ζ X.K pLe) := o_ii0 op_le fun _ _ _ => .bl _
theorem o_gt : OpR X (compareOp .Gt) (r2P ζ X.K pGt) := o_ii0 op_gt fun _ _ _ => .bl _
theorem o_ge : OpR X (compareOp .GtE) (r2P ζ X.K pGe) := o_ii0 op_ge fun _ _ _ => .bl _
end

/-! ### == and in, of data at any depth -/
/-- a value as data -/
def asD (r : R) (m : M) : Option D := match r with
  | .val d => some d
  | .ref k => match m[k]? with
    | some (.lst ds) => some (.list ds)
    | _ => none
  | .tp _ => none
theorem asD_dp {K : PySem.W.Frag} {φ : Ad} {H : Hp} {m : M} {v : V} {r : R} {d : D} (S : SR ζ K φ H m) (h : RR K φ H v r) (e : asD r m = some d) : Dp K H v d := by
  cases r with
  | tp j => first | (cases hf; done) | (cases e; done) | (cases h1; done) | (cases h; done) | (cases h7; done) | (cases h2; done)
  | val c =>
    cases e
    exact rr_dp h
  | ref k =>
    obtain ⟨a, rfl, h⟩ := h
    unfold asD at e
    simp only at e
    split at e
    · rename_i ds hm
      cases e
      obtain ⟨xs, h1, h2⟩ := S.obj k _ a hm h
      exact Dp.lst (.inl (.inl h1)) (dps_mono off_same h2)
    · cases e
def pEqD (neg : Bool) (a b : R) (m : M) : Option (R × M) := (asD a m).bind fun d => (asD b m).bind fun e => if (SeqAt.shaped d && SeqAt.shaped e) = true then some (.val (.bool (if neg then !PyData.eqv d e else PyData.eqv d e)), m) else none
def pEq := pEqD false
def pNe := pEqD true
def pInD (neg : Bool) (a b : R) (m : M) : Option (R × M) := (asD a m).bind fun d => (asLT b m).bind fun es => if (SeqAt.shaped d && PyData.canLayAll0 es) = true then some (.val (.bool (if neg then !(es.any fun z => PyData.eqv z d) else es.any fun z => PyData.eqv z d)), m) else none
def pIn := pInD false
def pNin := pInD true
def isNone : R → Bool
  | .val .none => true
  | _ => false
def pIs (neg : Bool) (a b : R) (m : M) : Option (R × M) := if isNone b = true then some (.val (.bool (if neg then !isNone a else isNone a)), m) else none
def pIsN := pIs false
def pIsnt := pIs true
section
variable {X : Cx} {k : Nat}
theorem o_eq (hr : Room k X.A) : OpR X (compareOp .Eq) (r2P ζ X.K pEq) := by
  intro pins s σ H x y v u Q I rx ry q
  obtain ⟨φ, m, r1, r2, r, m', S, R1, R2, hf, k⟩ := q
  obtain ⟨d, h1, hf⟩ := bind_some_iff hf
  obtain ⟨e, h2, hf⟩ := bind_some_iff hf
  split at hf
  · rename_i hc
    cases hf
    rw [Bool.and_eq_true] at hc
    exact op_eqD hr.units pins s σ H x y v u Q I rx ry ⟨d, e, asD_dp S R1 h1, asD_dp S R2 h2, hc.1, hc.2, k φ H _ .refl S (Dp.bl _)⟩
  · cases hf
theorem o_ne (hr : Room k X.A) : OpR X (compareOp .NotEq) (r2P ζ X.K pNe) := by
  intro pins s σ H x y v u Q I rx ry q
  obtain ⟨φ, m, r1, r2, r, m', S, R1, R2, hf, k⟩ := q
  obtain ⟨d, h1, hf⟩ := bind_some_iff hf
  obtain ⟨e, h2, hf⟩ := bind_some_iff hf
  split at hf
  · rename_i hc
    cases hf
    rw [Bool.and_eq_true] at hc
    exact op_neD hr.units pins s σ H x y v u Q I rx ry ⟨d, e, asD_dp S R1 h1, asD_dp S R2 h2, hc.1, hc.2, k φ H _ .refl S (Dp.bl _)⟩
  · cases hf
theorem in_ok {K : PySem.W.Frag} {φ : Ad} {H : Hp} {m : M} {v : V} {r : R} {es : List D} (S : SR ζ K φ H m) (h : RR K φ H v r) (e : asLT r m = some es) : Dp K H v (.list es) ∨ Dp K H v (.tuple es) := by
  unfold asLT at e
  split at e
  · cases e
    exact .inr (rr_dp h)
  · obtain ⟨a, xs, rfl, h2, h3⟩ := seqL_of S h e
    exact .inl (.lst h2 (dps_mono off_same h3))
theorem in_room {d : D} {es : List D} (hr : Room k X.A) (h : SeqAt.shaped d = true) : X.A.units + 1 + min (PyData.depthAll es) d.depth < cLine := by
  have h1 := hr.un
  have h2 := SeqAt.depth_of_shaped h
  have h3 := Nat.min_le_right (PyData.depthAll es) d.depth
  omega
theorem o_in (hr : Room k X.A) : OpR X (compareOp .In) (r2P ζ X.K pIn) := by
  intro pins s σ H x y v u Q I rx ry q
  obtain ⟨φ, m, r1, r2, r, m', S, R1, R2, hf, k⟩ := q
  obtain ⟨d, h1, hf⟩ := bind_some_iff hf
  obtain ⟨es, h2, hf⟩ := bind_some_iff hf
  split at hf
  · rename_i hc
    cases hf
    rw [Bool.and_eq_true] at hc
    obtain ⟨as, q1⟩ := Dp.reads I d x v (asD_dp S R1 h1) rx
    rcases in_ok S R2 h2 with hd | hd
    · obtain ⟨bs, q2⟩ := Dp.reads I _ y u hd ry
      exact SeqAt.in_list_reads q2 q1 hc.2 (SeqAt.canLay_of_shaped hc.1) (in_room hr hc.1) ⟨.bl _, H, I, rfl, k φ H _ .refl S (Dp.bl _)⟩
    · obtain ⟨bs, q2⟩ := Dp.reads I _ y u hd ry
      exact SeqAt.in_tuple_reads q2 q1 hc.2 (SeqAt.canLay_of_shaped hc.1) (in_room hr hc.1) ⟨.bl _, H, I, rfl, k φ H _ .refl S (Dp.bl _)⟩
  · cases hf
theorem o_nin (hr : Room k X.A) : OpR X (compareOp .NotIn) (r2P ζ X.K pNin) := by
  intro pins s σ H x y v u Q I rx ry q
  obtain ⟨φ, m, r1, r2, r, m', S, R1, R2, hf, k⟩ := q
  obtain ⟨d, h1, hf⟩ := bind_some_iff hf
  obtain ⟨es, h2, hf⟩ := bind_some_iff hf
  split at hf
  · rename_i hc
    cases hf
    rw [Bool.and_eq_true] at hc
    obtain ⟨as, q1⟩ := Dp.reads I d x v (asD_dp S R1 h1) rx
    rcases in_ok S R2 h2 with hd | hd
    · obtain ⟨bs, q2⟩ := Dp.reads I _ y u hd ry
      exact SeqAt.notIn_list_reads q2 q1 hc.2 (SeqAt.canLay_of_shaped hc.1) (in_room hr hc.1) ⟨.bl _, H, I, rfl, k φ H _ .refl S (Dp.bl _)⟩
    · obtain ⟨bs, q2⟩ := Dp.reads I _ y u hd ry
      exact SeqAt.notIn_tuple_reads q2 q1 hc.2 (SeqAt.canLay_of_shaped hc.1) (in_room hr hc.1) ⟨.bl _, H, I, rfl, k φ H _ .refl S (Dp.bl _)⟩
  · cases hf
theorem isN_val {K : PySem.W.Frag} {φ : Ad} {H : Hp} {v : V} {r : R} (h : RR K φ H v r) : decide (v = .non) = isNone r := by
  cases r with
  | tp j =>
    obtain ⟨a, vs, e, _⟩ := h
    rw [e]
    rfl
  | ref i =>
    obtain ⟨a, rfl, _⟩ := h
    rfl
  | val d =>
    have h' : Dp K (off φ H) v d := h
    cases h' <;> rfl
theorem isN_non {K : PySem.W.Frag} {φ : Ad} {H : Hp} {v : V} {r : R} (h : RR K φ H v r) (e : isNone r = true) : v = .non := by
  rw [← isN_val h] at e
  exact of_decide_eq_true e
theorem o_isN : OpR X (compareOp .Is) (r2P ζ X.K pIsN) := by
  intro pins s σ H x y v u Q I rx ry q
  obtain ⟨φ, m, r1, r2, r, m', S, R1, R2, hf, k⟩ := q
  unfold pIsN pIs at hf
  split at hf
  · rename_i he
    cases hf
    exact op_isN pins s σ H x y v u Q I rx ry ⟨isN_non R2 he, by rw [isN_val R1]; exact k φ H _ .refl S (Dp.bl _)⟩
  · cases hf
theorem o_isnt : OpR X (compareOp .IsNot) (r2P ζ X.K pIsnt) := by
  intro pins s σ H x y v u Q I rx ry q
  obtain ⟨φ, m, r1, r2, r, m', S, R1, R2, hf, k⟩ := q
  unfold pIsnt pIs at hf
  split at hf
  · rename_i he
    cases hf
    exact op_notN pins s σ H x y v u Q I rx ry ⟨isN_non R2 he, by rw [isN_val R1]; exact k φ H _ .refl S (Dp.bl _)⟩
  · cases hf
end

/-! ### -x, xs[i], xs[i:j] -/
def pNeg (a : R) (m : M) : Option (R × M) := (asI a).bind fun i => some (.val (.int (-i)), m)
def pIdx (a b : R) (m : M) : Option (R × M) := (asLT a m).bind fun ds => (asI b).bind fun i => (atI ds i).bind fun d => some (.val d, m)
theorem DpAll.atI {K : PySem.W.Frag} {H : Hp} {ds : List D} {vs : List V} {i : Int} {d : D} (h : DpAll K H vs ds) (e : L2.atI ds i = some d) : ∃ v, L2.atI vs i = some v ∧ Dp K H v d := by
  unfold L2.atI at e ⊢
  rw [DpAll.len h]
  obtain ⟨j, h1, h2⟩ := bind_some_iff e
  obtain ⟨v, h3, h4⟩ := DpAll.get h h2
  exact ⟨v, by rw [h1]; exact h3, h4⟩
def cutD (xs : List D) (lo hi : Option Int) : List D := (xs.drop (HT.sIx xs.length 0 lo)).take (HT.sIx xs.length xs.length hi - HT.sIx xs.length 0 lo)
theorem DpAll.cut {K : PySem.W.Frag} {H : Hp} {ds : List D} {vs : List V} (h : DpAll K H vs ds) (lo hi : Option Int) : DpAll K H (cutV vs lo hi) (cutD ds lo hi) := by
  unfold cutV cutD
  rw [DpAll.len h]
  exact DpAll.take _ (DpAll.drop _ h)
abbrev OF := Sl → M → Option (Option Int × M)
def tO' (ζ : Tbs) (K : PySem.W.Frag) (f : OF) : TO := fun σ H Q => ∃ φ env m o m', SR ζ K φ H m ∧ ER K φ H σ env ∧ f env m = some (o, m') ∧ ∀ φ' H', Gr φ H φ' H' → SR ζ K φ' H' m' → Q o H'
def oNone : OF := fun _ m => some (none, m)
def oSome (f : EF) : OF := fun env m => (f env m).bind fun x => (asI x.1).bind fun i => some (some i, x.2)
def eSlT (f : EF) (l h : OF) : EF := fun env m => (f env m).bind fun x => (l env x.2).bind fun y => (h env y.2).bind fun z => match x.1 with
  | .val (.tuple ds) => some (.val (.tuple (cutD ds y.1 z.1)), z.2)
  | _ => none
def nSlL (f : EF) (l h : OF) : NF := fun env m => (f env m).bind fun x => (l env x.2).bind fun y => (h env y.2).bind fun z => (asL x.1 z.2).bind fun ds => some (cutD ds y.1 z.1, z.2)
section
variable {X : Cx} {a b e : Expr} {oe lo hi : Option Expr} {f g : EF} {fl fh : OF} {pos p2 : Pos}
theorem u_neg : UnR X (unaryOp .USub) (r1P ζ X.K pNeg) := by
  intro pins s σ H x v Q I rx q
  obtain ⟨φ, m, r1, r, m', S, R1, hf, k⟩ := q
  obtain ⟨i, h1, hf⟩ := bind_some_iff hf
  have e1 := asI_some h1
  subst e1
  have x1 := rr_int R1
  cases hf
  exact un_neg pins s σ H x v Q I rx ⟨i, x1, k φ H _ .refl S (Dp.int _)⟩
theorem ix_p : IxR X (r2P ζ X.K pIdx) := by
  intro value slice pins s σ H x y v u Q I rx ry q hsub
  obtain ⟨φ, m, r1, r2, r, m', S, R1, R2, hf, k⟩ := q
  obtain ⟨ds, h1, hf⟩ := bind_some_iff hf
  obtain ⟨i, h2, hf⟩ := bind_some_iff hf
  obtain ⟨d, h3, hf⟩ := bind_some_iff hf
  cases hf
  have e2 := asI_some h2
  subst e2
  have x2 := rr_int R2
  obtain ⟨p, xs, rfl, hs, hd⟩ := seqLT_of S R1 h1
  obtain ⟨z, h4, h5⟩ := DpAll.atI hd h3
  have q := k φ H z .refl S h5
  rcases hs with hs | hs
  · exact ix_list value slice pins s σ H _ y v u Q I rx ry ⟨p, xs, i, z, rfl, x2, hs, h4, q⟩ hsub
  · exact ix_tup value slice pins s σ H _ y v u Q I rx ry ⟨p, xs, i, z, rfl, x2, hs, h4, q⟩ hsub
theorem x_ix (ha : PE X a (tE ζ X.K f)) (hb : PE X b (tE ζ X.K g)) (hs : PlainIx b := by exact fun _ _ => rfl) : PE X (.Subscript a b pos) (tE ζ X.K (eBin pIdx f g)) :=
  pe_imp (pe_ix ix_p ha hb hs) fun _ _ _ q => two_imp q
theorem po_n : PO X none (tO' ζ X.K oNone) := ⟨fun pins s σ H Q I q => by
  obtain ⟨φ, env, m, o, m', S, E, hf, k⟩ := q
  cases hf
  exact po_none.run pins s σ H Q I (k φ H .refl S)⟩
theorem po_s (h : PE X e (tE ζ X.K f)) : PO X (some e) (tO' ζ X.K (oSome f)) := ⟨fun pins s σ H Q I q => by
  refine (po_some h).run pins s σ H Q I ?_
  obtain ⟨φ, env, m, o, m', S, E, hf, k⟩ := q
  obtain ⟨⟨r1, m1⟩, h1, hf⟩ := bind_some_iff hf
  obtain ⟨i, h2, hf⟩ := bind_some_iff hf
  cases hf
  have e2 := asI_some h2
  simp only at e2
  subst e2
  exact ⟨φ, env, m, _, m1, S, E, h1, fun φ1 H1 v g1 S1 R1 => ⟨i, rr_int R1, k φ1 H1 g1 S1⟩⟩⟩
theorem x_slT (ha : PE X a (tE ζ X.K f)) (hl : PO X lo (tO' ζ X.K fl)) (hh : PO X hi (tO' ζ X.K fh)) : PE X (.Subscript a (.Slice lo hi none p2) pos) (tE ζ X.K (eSlT f fl fh)) := pe_imp (pe_slice sl_tupA ha hl hh) fun σ H Q q => by
  obtain ⟨φ, env, m, r, m', S, E, hf, k⟩ := q
  obtain ⟨⟨r1, m1⟩, h1, hf⟩ := bind_some_iff hf
  obtain ⟨⟨o1, m2⟩, h2, hf⟩ := bind_some_iff hf
  obtain ⟨⟨o2, m3⟩, h3, hf⟩ := bind_some_iff hf
  cases r1 with
  | tp j => first | (cases hf; done) | (cases e; done) | (cases h1; done) | (cases h; done) | (cases h7; done) | (cases h2; done)
  | ref j => cases hf
  | val d1 => cases d1 with
  | tuple ds =>
    cases hf
    refine ⟨φ, env, m, _, m1, S, E, h1, fun φ1 H1 v g1 S1 R1 => ?_⟩
    refine ⟨φ1, env, m1, o1, m2, S1, E.mono g1, h2, fun φ2 H2 g2 S2 => ?_⟩
    refine ⟨φ2, env, m2, o2, _, S2, E.mono (g1.trans g2), h3, fun φ3 H3 g3 S3 => ?_⟩
    obtain ⟨p, xs, rfl, hs, hd⟩ := seqT_of (R1.mono (g2.trans g3))
    have hn := DpAll.len hd
    refine ⟨p, xs, rfl, hs, fun hw => ?_, fun hw q hq => ?_⟩
    · have e : cutD ds o1 o2 = ds := by
        unfold cutD
        rw [← hn, hw.1, hw.2, List.drop_zero, Nat.sub_zero, hn, List.take_length]
      rw [e] at k
      exact k φ3 H3 _ (g1.trans (g2.trans g3)) S3 (R1.mono (g2.trans g3))
    · exact k φ3 _ _ (g1.trans (g2.trans (g3.trans (gr_alloc hq)))) (S3.alloc hq) (rr_newT S3 hq (DpAll.cut hd o1 o2))
  | _ => cases hf
theorem n_slL (ha : PE X a (tE ζ X.K f)) (hl : PO X lo (tO' ζ X.K fl)) (hh : PO X hi (tO' ζ X.K fh)) : PE X (.Subscript a (.Slice lo hi none p2) pos) (tN ζ X.K (nSlL f fl fh)) := pe_imp (pe_slice sl_list ha hl hh) fun σ H Q q => by
  obtain ⟨φ, env, m, r, m', S, E, hf, k⟩ := q
  obtain ⟨⟨r1, m1⟩, h1, hf⟩ := bind_some_iff hf
  obtain ⟨⟨o1, m2⟩, h2, hf⟩ := bind_some_iff hf
  obtain ⟨⟨o2, m3⟩, h3, hf⟩ := bind_some_iff hf
  obtain ⟨ds, h4, hf⟩ := bind_some_iff hf
  cases hf
  refine ⟨φ, env, m, _, m1, S, E, h1, fun φ1 H1 v g1 S1 R1 => ?_⟩
  refine ⟨φ1, env, m1, o1, m2, S1, E.mono g1, h2, fun φ2 H2 g2 S2 => ?_⟩
  refine ⟨φ2, env, m2, o2, _, S2, E.mono (g1.trans g2), h3, fun φ3 H3 g3 S3 => ?_⟩
  obtain ⟨p, xs, rfl, hs, hd⟩ := seqL_of S3 (R1.mono (g2.trans g3)) h4
  exact ⟨p, xs, rfl, hs, fun q hq => k φ3 H3 q _ (g1.trans (g2.trans g3)) S3 hq (DpAll.cut hd o1 o2)⟩
end
end Ev

set_option Elab.async false
set_option linter.all false
set_option maxRecDepth 100000
/-! Comprehensions. -/
namespace Ev
open PySem PySem.Spec PyProof.Rows L2

/-! ### targets: names, tuples of targets -/
mutual
inductive Pat where
  | nm (i : Nat)
  | tp (ps : Pats)
inductive Pats where
  | nil
  | cons (p : Pat) (ps : Pats)
end
def Pats.len : Pats → Nat
  | .nil => 0
  | .cons _ ps => ps.len + 1
mutual
def gPat (ζ : Tbs) (K : PySem.W.Frag) : Pat → TG
  | .nm i => gName i
  | .tp ps => gTup K ps.len (gPats ζ K ps)
def gPats (ζ : Tbs) (K : PySem.W.Frag) : Pats → TGs
  | .nil => gNil
  | .cons p ps => gCons (gPat ζ K p) (gPats ζ K ps)
end
mutual
def bindP : Pat → D → Sl → Option Sl
  | .nm i, d, env => some (env.set i (some (.val d)))
  | .tp ps, d, env => match d with
    | .tuple ds => bindPs ps ds env
    | _ => none
def bindPs : Pats → List D → Sl → Option Sl
  | .nil, ds, env => match ds with
    | [] => some env
    | _ => none
  | .cons p ps, ds, env => match ds with
    | d :: ds => (bindP p d env).bind (bindPs ps ds)
    | [] => none
end
mutual
def Pat.within (vs : List Nat) : Pat → Bool
  | .nm i => decide (i ∈ vs)
  | .tp ps => ps.within vs
def Pats.within (vs : List Nat) : Pats → Bool
  | .nil => true
  | .cons p ps => p.within vs && ps.within vs
end
def wipeE (env : Sl) : List Nat → Sl
  | [] => env
  | v :: vs => (wipeE env vs).set v none
theorem getElem?_wipe {σ : L2.St} {i : Nat} : ∀ {vs : List Nat}, i ∈ vs → ∀ x, (wipe σ vs)[i]? ≠ some (some x)
  | vs, hi, x, e => (wipe_some e).2 hi
theorem wipe_set {σ : L2.St} {i : Nat} {x : Option V} {vs : List Nat} (hi : i ∈ vs) : wipe (σ.set i x) vs = wipe σ vs := by
  induction vs with
  | nil => cases hi
  | cons v vs ih =>
    unfold wipe
    by_cases hv : i ∈ vs
    · rw [ih hv]
    · have e : i = v := (List.mem_cons.mp hi).resolve_right hv
      subst e
      have key : ∀ ws : List Nat, i ∉ ws → wipe (σ.set i x) ws = (wipe σ ws).set i x := by
        intro ws
        induction ws with
        | nil => intro _; rfl
        | cons w ws ihw =>
          intro hw
          unfold wipe
          rw [ihw (fun z => hw (List.mem_cons_of_mem _ z)), List.set_comm _ _ (fun z : i = w => hw (by rw [z]; exact List.mem_cons_self))]
      rw [key vs hv, List.set_set]
theorem er_wipe {K : PySem.W.Frag} {φ : Ad} {H : Hp} {σ : L2.St} {env : Sl} (e : ER K φ H σ env) : ∀ vs : List Nat, ER K φ H (wipe σ vs) (wipeE env vs)
  | [] => e
  | v :: vs => by
    have ih := er_wipe e vs
    unfold wipe wipeE
    refine ⟨by rw [List.length_set, List.length_set]; exact ih.len, fun i r he => ?_⟩
    by_cases hi : i = v
    · subst hi
      by_cases hl : i < (wipeE env vs).length
      · rw [List.getElem?_set_self hl] at he
        cases he
      · rw [List.getElem?_eq_none (by rw [List.length_set]; omega)] at he
        cases he
    · rw [List.getElem?_set_ne (fun z => hi z.symm)] at he ⊢
      exact ih.at_ i r he
section
variable {K : PySem.W.Frag} {φ : Ad} {H : Hp} {vs : List Nat}
mutual
theorem bindP_ok : ∀ (p : Pat) {d : D} {v : V} {σ : L2.St} {env env' : Sl}, ER K φ H σ env → Dp K (off φ H) v d → bindP p d env = some env' → p.within vs = true → ∃ σ', (∀ Q : L2.St → Hp → Prop, Q σ' H → gPat ζ K p v σ H Q) ∧ ER K φ H σ' env' ∧ wipe σ' vs = wipe σ vs
  | .nm i, d, v, σ, env, env', E, R, e, w => by
    simp only [bindP] at e
    cases e
    simp only [Pat.within, decide_eq_true_eq] at w
    exact ⟨σ.set i (some v), fun Q q => by simp only [gPat]; exact q, E.set (r := .val d) R i, wipe_set w⟩
  | .tp ps, d, v, σ, env, env', E, R, e, w => by
    simp only [bindP] at e
    split at e
    · rename_i ds
      simp only [Pat.within] at w
      cases R with
      | tup hs ha =>
        obtain ⟨σ', h1, h2, h3⟩ := bindPs_ok ps E ha e w
        refine ⟨σ', fun Q q => ?_, h2, h3⟩
        simp only [gPat]
        exact ⟨_, _, rfl, sqT_mono off_same hs, h4 ps _ _ ha e, h1 Q q⟩
    · cases e
where
  h4 : ∀ (ps : Pats) (env env' : Sl) {us : List V} {ds : List D}, DpAll K (off φ H) us ds → bindPs ps ds env = some env' → us.length = ps.len
    | .nil, _, _, _, ds, h, e => by
      simp only [bindPs] at e
      split at e
      · cases h
        rfl
      · cases e
    | .cons p ps, _, _, _, ds, h, e => by
      simp only [bindPs] at e
      split at e
      · obtain ⟨e1, h1, h2⟩ := bind_some_iff e
        cases h with
        | cons a t =>
          rw [List.length_cons, h4 ps _ _ t h2]
          rfl
      · cases e
theorem bindPs_ok : ∀ (ps : Pats) {ds : List D} {us : List V} {σ : L2.St} {env env' : Sl}, ER K φ H σ env → DpAll K (off φ H) us ds → bindPs ps ds env = some env' → ps.within vs = true → ∃ σ', (∀ Q : L2.St → Hp → Prop, Q σ' H → gPats ζ K ps us σ H Q) ∧ ER K φ H σ' env' ∧ wipe σ' vs = wipe σ vs
  | .nil, ds, us, σ, env, env', E, R, e, w => by
    simp only [bindPs] at e
    split at e
    · cases e
      cases R
      exact ⟨σ, fun Q q => by simp only [gPats]; exact ⟨rfl, q⟩, E, rfl⟩
    · cases e
  | .cons p ps, ds, us, σ, env, env', E, R, e, w => by
    simp only [bindPs] at e
    split at e
    · obtain ⟨e1, h1, h2⟩ := bind_some_iff e
      simp only [Pats.within, Bool.and_eq_true] at w
      cases R with
      | cons a t =>
        obtain ⟨σ1, q1, E1, w1⟩ := bindP_ok p E a h1 w.1
        obtain ⟨σ2, q2, E2, w2⟩ := bindPs_ok ps E1 t h2 w.2
        refine ⟨σ2, fun Q q => ?_, E2, w2.trans w1⟩
        simp only [gPats]
        exact ⟨_, _, rfl, q1 _ (q2 Q q)⟩
    · cases e
end
end
/-! ### [e for p in it if t] -/
def clp (src : Src) (p : Pat) (tt : TF) (te : EF) (env : Sl) : Nat → Nat → M → Option (List D × M)
  | 0, i, m => (src i m).bind fun o => match o with
    | none => some ([], m)
    | some _ => none
  | n + 1, i, m => (src i m).bind fun o => match o with
    | none => some ([], m)
    | some d => (bindP p d env).bind fun e => (tt e m).bind fun t => if t.1 = true then (te e t.2).bind fun y => (asD0 y.1).bind fun d' => (clp src p tt te env n (i + 1) y.2).bind fun z => some (d' :: z.1, z.2) else clp src p tt te env n (i + 1) t.2
where
  asD0 : R → Option D
    | .val d => some d
    | _ => none
def nComp (it : IF) (p : Pat) (vs : List Nat) (tt : TF) (te : EF) : NF := fun env m => (it env m).bind fun x => if x.1.2 ≤ sizeLine then clp x.1.1 p tt te (wipeE env vs) x.1.2 0 x.2 else none
/-- over a list -/
def clpL (p : Pat) (tt : TF) (te : EF) (env : Sl) : List D → M → Option (List D × M)
  | [], m => some ([], m)
  | d :: ds, m => (bindP p d env).bind fun e => (tt e m).bind fun t => if t.1 = true then (te e t.2).bind fun y => (clp.asD0 y.1).bind fun d' => (clpL p tt te env ds y.2).bind fun z => some (d' :: z.1, z.2) else clpL p tt te env ds t.2
theorem clp_srcL {p : Pat} {tt : TF} {te : EF} {env : Sl} : ∀ (ds all : List D) (i : Nat) (m : M), all.drop i = ds → clp (srcL all) p tt te env ds.length i m = clpL p tt te env ds m
  | [], all, i, m, h => by
    have e : all[i]? = none := List.getElem?_eq_none (by simpa using h)
    simp [clp, srcL, e, clpL]
  | d :: ds, all, i, m, h => by
    have e : all[i]? = some d := by
      have := congrArg (·[0]?) h
      simpa using this
    have h' : all.drop (i + 1) = ds := by
      have := congrArg (List.drop 1) h
      simpa [List.drop_drop, Nat.add_comm] using this
    have ih := fun m => clp_srcL (p := p) (tt := tt) (te := te) (env := env) ds all (i + 1) m h'
    simp only [List.length_cons, clp, srcL, e, Option.bind_some, clpL, ih]
theorem nComp_L {it : IF} {p : Pat} {vs : List Nat} {tt : TF} {te : EF} {env : Sl} {m m' : M} {ds : List D} (h : it env m = iL ds m') (hl : ds.length ≤ sizeLine) : nComp it p vs tt te env m = clpL p tt te (wipeE env vs) ds m' := by
  unfold nComp
  rw [h]
  show (if ds.length ≤ sizeLine then clp (srcL ds) p tt te (wipeE env vs) ds.length 0 m' else none) = _
  rw [if_pos hl]
  exact clp_srcL ds ds 0 m' rfl

/-- without one object -/
def drp (H : Hp) (p : Addr) : Hp := fun b => if b = p then none else H b
theorem drp_self {H : Hp} {p : Addr} : drp H p p = none := if_pos rfl
theorem drp_some {H : Hp} {p b : Addr} {u : HO} : drp H p b = some u ↔ b ≠ p ∧ H b = some u := by
  unfold drp
  by_cases h : b = p
  · rw [if_pos h]
    exact Iff.intro (fun z => nomatch z) (fun z => absurd h z.1)
  · rw [if_neg h]
    exact Iff.intro (fun z => And.intro h z) (fun z => z.2)
theorem drp_upd {H : Hp} {p : Addr} {o : HO} : drp (upd H p o) p = drp H p := by
  funext b
  unfold drp
  by_cases h : b = p
  · rw [if_pos h, if_pos h]
  · rw [if_neg h, if_neg h, upd_ne h]
theorem drp_none {H : Hp} {p : Addr} (h : H p = none) : drp H p = H := by
  funext b
  unfold drp
  by_cases e : b = p
  · rw [if_pos e, e, h]
  · rw [if_neg e]
theorem upd_drp {H : Hp} {p : Addr} {o : HO} (h : H p = some o) : upd (drp H p) p o = H := by
  funext b
  unfold upd drp
  by_cases e : b = p
  · rw [if_pos e, e, h]
  · rw [if_neg e, if_neg e]
theorem off_hide {φ : Ad} {H : Hp} {p : Addr} : off (φ.hide p) H = off φ (drp H p) := by
  funext b
  unfold off
  by_cases h : b ∈ φ.all
  · have h2 : b ∈ (φ.hide p).all := by
      rcases Ad.mem.mp h with z | z
      · exact Ad.mem.mpr (.inl z)
      · exact Ad.mem.mpr (.inr (List.mem_cons_of_mem _ z))
    rw [if_pos h, if_pos h2]
  · by_cases e : b = p
    · have h2 : b ∈ (φ.hide p).all := Ad.mem.mpr (.inr (by rw [e]; exact List.mem_cons_self))
      rw [if_pos h2, if_neg h, e, drp_self]
      rfl
    · have h2 : b ∉ (φ.hide p).all := fun z => by
        rcases Ad.mem.mp z with z | z
        · exact h (Ad.mem.mpr (.inl z))
        · rcases List.mem_cons.mp z with z | z
          · exact e z
          · exact h (Ad.mem.mpr (.inr z))
      rw [if_neg h, if_neg h2]
      unfold drp
      rw [if_neg e]
section
variable {K : PySem.W.Frag} {φ φ' : Ad} {H H' : Hp} {m m' : M} {p : Addr}
theorem nodup_hide (h : φ.all.Nodup) (np : p ∉ φ.all) : (φ.hide p).all.Nodup := by
  unfold Ad.all Ad.hide at *
  rw [List.nodup_append] at *
  obtain ⟨h1, h2, h3⟩ := h
  refine ⟨h1, ?_, fun a ha b hb => ?_⟩
  · exact List.nodup_cons.mpr ⟨fun z => np (List.mem_append_right _ z), h2⟩
  · rcases List.mem_cons.mp (show b ∈ p :: φ.h from hb) with e | e
    · subst e
      exact fun z => np (List.mem_append_left _ (z ▸ ha))
    · exact h3 a ha b e
theorem SR.hide (S : SR ζ K φ H m) {o : HO} (h : H p = none) (no : isTb o = false := by rfl) : SR ζ K (φ.hide p) (upd H p o) m := by
  refine ⟨S.len, nodup_hide S.nd (S.new h), fun i ob a e1 e2 => ?_, fun a ha => ?_, S.teq, fun q hq => List.mem_cons_of_mem _ (S.tin q hq), S.tab.ext fun b u e => upd_stay h e⟩
  · rw [off_hide, drp_upd, drp_none h]
    exact (S.obj i ob a e1 e2).mono (fun _ _ z => z) fun u z => upd_stay h z
  · rcases List.mem_cons.mp ha with e | e
    · exact .inl ⟨o, by rw [e]; exact upd_same, no⟩
    · exact (S.hid a e).imp (fun ⟨u, q, n⟩ => ⟨u, upd_stay h q, n⟩) id
theorem SR.show_ (S : SR ζ K (φ.hide p) H m) {xs : List V} (hp : H p = some (.lst xs)) : SR ζ K φ (drp H p) m := by
  have ntab : ∀ b u, H b = some u → ((∃ ps, u = .tbl ps) ∨ ∃ q, u = LamX.CodeO b q) → b ≠ p := fun b u e k z => by
    rw [z, hp] at e
    cases e
    rcases k with ⟨ps, k⟩ | ⟨q, k⟩
    · cases k
    · exact codeO_lst k
  have nd := S.nd
  have np : p ∉ φ.all := by
    unfold Ad.all Ad.hide at nd
    rw [List.nodup_append] at nd
    obtain ⟨h1, h2, h3⟩ := nd
    intro z
    rcases Ad.mem.mp z with z | z
    · exact h3 p z p List.mem_cons_self rfl
    · exact (List.nodup_cons.mp h2).1 z
  refine ⟨S.len, ?_, fun i ob a e1 e2 => ?_, fun a ha => ?_, S.teq, fun q hq => ?_, tabs_keep S.tab fun b u e k => drp_some.mpr ⟨ntab b u e k, e⟩⟩
  · unfold Ad.all Ad.hide at nd
    rw [List.nodup_append] at nd
    unfold Ad.all
    rw [List.nodup_append]
    exact ⟨nd.1, (List.nodup_cons.mp nd.2.1).2, fun a ha b hb => nd.2.2 a ha b (List.mem_cons_of_mem _ hb)⟩
  · have q := S.obj i ob a e1 e2
    rw [off_hide] at q
    have na : a ≠ p := fun z => np (Ad.mem.mpr (.inl (z ▸ List.mem_of_getElem? e2)))
    exact q.mono (fun _ _ z => z) fun u z => drp_some.mpr ⟨na, z⟩
  · have na : a ≠ p := fun z => np (Ad.mem.mpr (.inr (z ▸ ha)))
    exact (S.hid a (List.mem_cons_of_mem _ ha)).imp (fun ⟨u, q, n⟩ => ⟨u, drp_some.mpr ⟨na, q⟩, n⟩) id
  · rcases List.mem_cons.mp (show q.1 ∈ p :: φ.h from S.tin q hq) with z | z
    · obtain ⟨ps, h1, _⟩ := S.tab q hq
      exact absurd z (ntab _ _ h1 (.inl ⟨ps, rfl⟩))
    · exact z
theorem SR.hidSet (S : SR ζ K (φ.hide p) H m) {o : HO} {xs : List V} (hp : H p = some (.lst xs)) (no : isTb o = false := by rfl) : SR ζ K (φ.hide p) (upd H p o) m := by
  refine ⟨S.len, S.nd, fun i ob a e1 e2 => ?_, fun a ha => ?_, S.teq, S.tin, tabs_write S.tab hp⟩
  · have q := S.obj i ob a e1 e2
    rw [off_hide] at q
    rw [off_hide, drp_upd]
    have na : a ≠ p := fun z => S.apart (List.mem_of_getElem? e2) (by rw [z]; exact List.mem_cons_self)
    exact q.mono (fun _ _ z => z) fun u z => by rw [upd_ne na]; exact z
  · by_cases e : a = p
    · exact .inl ⟨o, by rw [e]; exact upd_same, no⟩
    · exact (S.hid a ha).imp (fun ⟨u, q, n⟩ => ⟨u, by rw [upd_ne e]; exact q, n⟩) id
theorem Gr.unhide (g : Gr (φ.hide p) H φ' H') : ∃ φ2 : Ad, φ' = φ2.hide p ∧ Gr φ (drp H p) φ2 (drp H' p) := by
  obtain ⟨s', h', t'⟩ := φ'
  have e : h' = p :: φ.h := g.eqh
  subst e
  have et : t' = φ.t := g.eqt
  subst et
  refine ⟨⟨s', φ.h, φ.t⟩, rfl, g.pre, rfl, rfl, ?_, fun a ha u e n => ?_, fun a o u e => by rw [drp_some] at e ⊢; exact ⟨e.1, g.frz a o u e.2⟩⟩
  · have q := g.same
    rw [off_hide] at q
    rw [show (⟨s', p :: φ.h, φ.t⟩ : Ad) = (⟨s', φ.h, φ.t⟩ : Ad).hide p from rfl, off_hide] at q
    exact q
  · rw [drp_some] at e ⊢
    exact ⟨e.1, g.stay a (List.mem_cons_of_mem _ ha) u e.2 n⟩
theorem gw_hide : Gw φ (drp H p) (φ.hide p) H := ⟨List.prefix_refl _, by rw [off_hide]; exact fun _ _ z => z, fun a o u e => (drp_some.mp e).2⟩
end
theorem wipe_idem (σ : L2.St) (vs : List Nat) : wipe (wipe σ vs) vs = wipe σ vs := by
  apply List.ext_getElem?
  intro j
  by_cases hj : j ∈ vs
  · have a1 := @getElem?_wipe σ j vs hj
    have a2 := @getElem?_wipe (wipe σ vs) j vs hj
    have l1 := wipe_length σ vs
    have l2 := wipe_length (wipe σ vs) vs
    by_cases hl : j < σ.length
    · have b1 : (wipe σ vs)[j]? = some ((wipe σ vs)[j]'(by omega)) := List.getElem?_eq_getElem _
      have b2 : (wipe (wipe σ vs) vs)[j]? = some ((wipe (wipe σ vs) vs)[j]'(by omega)) := List.getElem?_eq_getElem _
      cases c1 : (wipe σ vs)[j]'(by omega) with
      | some x => rw [c1] at b1; exact absurd b1 (a1 x)
      | none =>
        cases c2 : (wipe (wipe σ vs) vs)[j]'(by omega) with
        | some x => rw [c2] at b2; exact absurd b2 (a2 x)
        | none => rw [b1, b2, c1, c2]
    · rw [List.getElem?_eq_none (by omega), List.getElem?_eq_none (by omega)]
  · rw [wipe_out hj]
theorem lc_imp {K : PySem.W.Frag} {it : IF} {p : Pat} {vs : List Nat} {tt : TF} {te : EF} {σ : L2.St} {H : Hp} {Q : VK} (hw : p.within vs = true) (q : tN ζ K (nComp it p vs tt te) σ H Q) : tLc (tI ζ K it) (gPat ζ K p) (tT ζ K tt) (tE ζ K te) vs σ H Q := by
  obtain ⟨φ, env, m, ds, m', S, E, hf, k⟩ := q
  obtain ⟨⟨⟨src, n⟩, m1⟩, h1, hf⟩ := bind_some_iff hf
  simp only at hf
  split at hf
  case isFalse => cases hf
  rename_i hn
  refine ⟨φ, env, m, src, n, m1, S, E, h1, fun φ1 H1 J g1 S1 JJ => fun P hP => ?_⟩
  have E1 := E.mono g1
  refine ⟨fun i nn H => ∃ φ2 m2 acc ads rest, Gr φ1 H1 φ2 (drp H P) ∧ SR ζ K (φ2.hide P) H m2 ∧ H P = some (.lst acc) ∧ DpAll K (off (φ2.hide P) H) acc ads ∧ ads.length ≤ i ∧ i + nn ≤ n ∧ clp src p tt te (wipeE env vs) nn i m2 = some (rest, m') ∧ ads ++ rest = ds, ⟨n, φ1, m1, [], [], ds, ?_, S1.hide hP, upd_same, .nil, Nat.zero_le _, by omega, hf, rfl⟩, ?_⟩
  · rw [drp_upd, drp_none hP]
    exact .refl
  intro i nn H2 ⟨φ2, m2, acc, ads, rest, g2, S2, hp2, hd2, hl2, hb2, hc2, ha2⟩
  have gw : Gw φ1 H1 (φ2.hide P) H2 := g2.w.trans gw_hide
  have cas : ∃ o, src i m2 = some o := by
    cases nn <;> (obtain ⟨o, ho, _⟩ := bind_some_iff hc2; exact ⟨o, ho⟩)
  obtain ⟨o, ho⟩ := cas
  cases o with
  | none =>
    have e : rest = [] ∧ m2 = m' := by
      cases nn <;> (simp only [clp, ho, Option.bind_some] at hc2; cases hc2; exact ⟨rfl, rfl⟩)
    obtain ⟨e1, e2⟩ := e
    subst e1 e2
    rw [List.append_nil] at ha2
    subst ha2
    refine .inl ⟨JJ.stop _ _ m2 i gw S2 ho, ?_⟩
    rw [off_hide] at hd2
    have := k φ2 (drp H2 P) P acc (g1.trans g2) (S2.show_ hp2) drp_self hd2
    rw [upd_drp hp2] at this
    exact this
  | some d =>
    cases nn with
    | zero => simp [clp, ho] at hc2
    | succ nn =>
      refine .inr ⟨JJ.go _ _ m2 i d gw S2 ho, fun H' => ∃ φ2 m2 acc ads rest, Gr φ1 H1 φ2 (drp H' P) ∧ SR ζ K (φ2.hide P) H' m2 ∧ H' P = some (.lst acc) ∧ DpAll K (off (φ2.hide P) H') acc ads ∧ ads.length ≤ i + 1 ∧ i + 1 + nn ≤ n ∧ clp src p tt te (wipeE env vs) nn (i + 1) m2 = some (rest, m') ∧ ads ++ rest = ds,
        fun H' z => ⟨nn, Nat.lt_succ_self nn, z⟩, fun x H3 hy => ?_⟩
      obtain ⟨g3, S3, R3⟩ := JJ.yld _ _ m2 i d x H3 gw S2 ho hy
      simp only [clp, ho, Option.bind_some] at hc2
      obtain ⟨e4, h4, hc2⟩ := bind_some_iff hc2
      obtain ⟨⟨b, m5⟩, h5, hc2⟩ := bind_some_iff hc2
      have E3 : ER K (φ2.hide P) H3 (wipe σ vs) (wipeE env vs) := (er_wipe (E1.monoW gw) vs).mono g3
      obtain ⟨σ4, q4, E4, w4⟩ := bindP_ok p E3 R3 h4 hw
      refine q4 _ ⟨w4.trans (by
        have := wipe_idem σ vs
        exact this), ?_⟩
      refine ⟨φ2.hide P, e4, m2, b, m5, S3, E4, h5, fun φ5' H5 g5 S5 => ?_⟩
      have g35 := g3.trans g5
      obtain ⟨φ5, rfl, g5'⟩ := Gr.unhide g35
      have hp5 : H5 P = some (.lst acc) := g35.stay P List.mem_cons_self _ hp2 (fun ps z => by cases z)
      have hd5 := dps_mono g35.same hd2
      cases b with
      | false =>
        refine iteF ?_
        simp only [Bool.false_eq_true, if_false] at hc2
        exact ⟨φ5, m5, acc, ads, rest, g2.trans g5', S5, hp5, hd5, by omega, by omega, hc2, ha2⟩
      | true =>
        refine iteT ?_
        simp only [if_true] at hc2
        obtain ⟨⟨y, m6⟩, h6, hc2⟩ := bind_some_iff hc2
        obtain ⟨d', h7, hc2⟩ := bind_some_iff hc2
        obtain ⟨⟨zs, m8⟩, h8, hc2⟩ := bind_some_iff hc2
        cases hc2
        have hyv : y = .val d' := by
          cases y with
          | tp j => first | (cases hf; done) | (cases e; done) | (cases h1; done) | (cases h; done) | (cases h7; done) | (cases h2; done)
          | ref j => cases h7
          | val d => cases h7; rfl
        subst hyv
        refine ⟨φ5.hide P, e4, m5, _, m6, S5, E4.mono g5, h6, fun φ6' H6 v6 g6 S6 R6 => ?_⟩
        have g36 := g35.trans g6
        obtain ⟨φ6, rfl, g6'⟩ := Gr.unhide g36
        have hp6 : H6 P = some (.lst acc) := g36.stay P List.mem_cons_self _ hp2 (fun ps z => by cases z)
        have hd6 := dps_mono g36.same hd2
        refine ⟨acc, hp6, ?_, φ6, m6, acc ++ [v6], ads ++ [d'], zs, ?_, S6.hidSet hp6, upd_same, ?_, ?_, by omega, h8, ?_⟩
        · rw [DpAll.len hd2]
          omega
        · rw [drp_upd]
          exact g2.trans g6'
        · rw [off_hide, drp_upd, ← off_hide]
          exact DpAll.append hd6 (.cons R6 .nil)
        · rw [List.length_append]
          simp
          exact hl2
        · rw [List.append_assoc]
          exact ha2
def tTrue : TF := fun _ m => some (true, m)
theorem pts_imp {X : Cx} {es : List Expr} {t t' : TT} (h : PTs X es t) (k : ∀ σ H Q, t' σ H Q → t σ H Q) : PTs X es t' := ⟨fun pins s σ H Q I q => h.run pins s σ H Q I (k σ H Q q)⟩
section
variable {X : Cx} {c : Expr} {tc : TF}
theorem ts_nil : PTs X [] (tT ζ X.K tTrue) := pts_imp pts_nil fun σ H Q q => by
  obtain ⟨φ, env, m, b, m', S, E, hf, k⟩ := q
  cases hf
  exact k φ H .refl S
theorem ts_one (h : PT X c (tT ζ X.K tc)) : PTs X [c] (tT ζ X.K tc) := pts_one h
/-- a block's context -/
abbrev Cb (X : Cx) (scope : Scope) (s : Shared) (H : Hp) (C : Addr) (cl : List (Str × Addr)) (fp : List Addr) : Cx := X.blk s H scope (compEnvC scope cl C X.env) fp
theorem n_comp {elt tg iter : Expr} {ifs : List Expr} {scope : Scope} {own : List (Str × Nat)} {pos : Pos} {it : IF} {p : Pat} {tt : TF} {te : EF} (hc : X.calm = true) (hN : X.N.Nodup) (hi : PI X tg iter (tI ζ X.K it)) (ok : BlkOk X.N X.env.scope scope own) (hw : p.within (own.map (·.2)) = true)
    (hg : ∀ s H C cl fp, PG (Cb X scope s H C cl fp) tg (gPat ζ X.K p)) (ht : ∀ s H C cl fp, PTs (Cb X scope s H C cl fp) ifs (tT ζ X.K tt)) (he : ∀ s H C cl fp, PE (Cb X scope s H C cl fp) elt (tE ζ X.K te)) (hs : ∀ x, foldedSetIterable iter X.env x = pure x := by intro _; rfl) :
    PE X (.ListComp elt [⟨tg, iter, ifs, 0⟩] scope pos) (tN ζ X.K (nComp it p (own.map (·.2)) tt te)) := pe_imp (pe_lc hc hN hi ok hg ht he hs) fun _ _ _ q => lc_imp hw q
/-- name = [..] -/
def sNewC (i : Nat) (f : EF) : SF := sAsg f (gNm i)
theorem s_setC {i : Nat} {y : Str} {py : Pos} {elt tg iter : Expr} {ifs : List Expr} {scope : Scope} {own : List (Str × Nat)} {pos spos : Pos} {it : IF} {p : Pat} {tt : TF} {te : EF} (hc : X.calm = true) (hN : X.N.Nodup) (hy : X.N[i]? = some y) (hyl : X.env.scope.names.lookup y = some .local)
    (hsw : swapsWith (.ListComp elt [⟨tg, iter, ifs, 0⟩] scope pos) (some (.Name y py)) spos.line X.env = pure true) (hi : PI X tg iter (tI ζ X.K it)) (ok : BlkOk X.N X.env.scope scope own) (hw : p.within (own.map (·.2)) = true)
    (hg : ∀ s H C cl fp, PG (Cb X scope s H C cl fp) tg (gPat ζ X.K p)) (ht : ∀ s H C cl fp, PTs (Cb X scope s H C cl fp) ifs (tT ζ X.K tt)) (he : ∀ s H C cl fp, PE (Cb X scope s H C cl fp) elt (tE ζ X.K te)) (hs : ∀ x, foldedSetIterable iter X.env x = pure x := by intro _; rfl) :
    PS X (.Assign [.Name y py] (.ListComp elt [⟨tg, iter, ifs, 0⟩] scope pos) spos) (tS ζ X.K (sAsg (eL (nComp it p (own.map (·.2)) tt te)) (gNm i))) := ps_imp (ps_setLc hc hN hy hyl hsw hi ok hg ht he hs) fun W σ H q => by
  obtain ⟨φ, env, m, fl, S, E, hf, k⟩ := q
  obtain ⟨⟨r1, m1⟩, h1, hf⟩ := bind_some_iff hf
  obtain ⟨⟨ds, m2⟩, h2, h1⟩ := bind_some_iff h1
  cases h1
  cases hf
  refine lc_imp hw ⟨φ, env, m, ds, m2, S, E, h2, fun φ1 H1 p vs g1 S1 hp hd => ?_⟩
  have g2 := g1.trans (gr_alloc (o := .lst vs) hp)
  exact k φ1 _ _ g2 (S1.alloc hp) ((E.mono g2).set (rr_newL S1 hp hd) i)
theorem s_setCN {i : Nat} {y : Str} {py : Pos} {elt tg iter : Expr} {ifs : List Expr} {scope : Scope} {own : List (Str × Nat)} {pos spos : Pos} {it : IF} {p : Pat} {tt : TF} {te : EF} (hc : X.calm = true) (hN : X.N.Nodup) (hy : X.N[i]? = some y) (hyl : X.env.scope.names.lookup y = some .local)
    (hsw : swapsWith (.ListComp elt [⟨tg, iter, ifs, 0⟩] scope pos) (some (.Name y py)) spos.line X.env = pure true) (hi : PI X tg iter (tI ζ X.K it)) (ok : BlkOk X.N X.env.scope scope own) (hw : p.within (own.map (·.2)) = true)
    (hg : ∀ s H C cl fp, PG (Cb X scope s H C cl fp) tg (gPat ζ X.K p)) (ht : ∀ s H C cl fp, PTs (Cb X scope s H C cl fp) ifs (tT ζ X.K tt)) (he : ∀ s H C cl fp, PE (Cb X scope s H C cl fp) elt (tE ζ X.K te)) (hs : ∀ x, foldedSetIterable iter X.env x = pure x := by intro _; rfl) :
    PS X (.Assign [.Name y py] (.ListComp elt [⟨tg, iter, ifs, 0⟩] scope pos) spos) (tS ζ X.K (sAsg (eNew (nComp it p (own.map (·.2)) tt te)) (gNm i))) := ps_imp (ps_setLc hc hN hy hyl hsw hi ok hg ht he hs) fun W σ H q => by
  obtain ⟨φ, env, m, fl, S, E, hf, k⟩ := q
  obtain ⟨⟨r1, m1⟩, h1, hf⟩ := bind_some_iff hf
  obtain ⟨⟨ds, m2⟩, h2, h1⟩ := bind_some_iff h1
  cases h1
  cases hf
  refine lc_imp hw ⟨φ, env, m, ds, m2, S, E, h2, fun φ1 H1 p vs g1 S1 hp hd => ?_⟩
  have g2 := g1.trans (gr_enter (o := .lst vs) hp)
  have R : RR X.K (φ1.add p) (upd H1 p (.lst vs)) (.ref p) (.ref m2.length) := by
    refine ⟨p, rfl, ?_⟩
    show (φ1.s ++ [p])[m2.length]? = some p
    rw [← S1.len, List.getElem?_append_right (Nat.le_refl _), Nat.sub_self]
    rfl
  exact k _ _ _ g2 (S1.enter hp hd) ((E.mono g2).set R i)
end
/-- loops over patterns -/
def gP (p : Pat) : GF := fun r env m => match r with
  | .val d => (bindP p d env).bind fun e => some (e, m)
  | _ => none
theorem gp_ok {X : Cx} {tg : Expr} {p : Pat} (h : PG X tg (gPat ζ X.K p)) (hw : ∃ vs, p.within vs = true) : PG X tg (tG ζ X.K (gP p)) := tg_imp h fun v σ H Q q => by
  obtain ⟨φ, env, m, r, e', m', S, E, Rv, hf, k⟩ := q
  obtain ⟨vs, hw⟩ := hw
  cases r with
  | tp j => first | (cases hf; done) | (cases e; done) | (cases h1; done) | (cases h; done) | (cases h7; done) | (cases h2; done)
  | ref j => cases hf
  | val d =>
    obtain ⟨e1, h1, hf⟩ := bind_some_iff hf
    cases hf
    obtain ⟨σ', q1, E1, _⟩ := bindP_ok p E Rv h1 hw
    exact q1 Q (k φ σ' H .refl S E1)
end Ev

set_option Elab.async false
set_option linter.all false
set_option maxRecDepth 100000
/-! Built-in functions and methods. -/
namespace Ev
open PySem PySem.Spec PyProof.Rows L2

abbrev PF := List R → M → Option (R × M)
def p1 (p : R → M → Option (R × M)) : PF := fun rs m => match rs with
  | [a] => p a m
  | _ => none
def p2 (p : R → R → M → Option (R × M)) : PF := fun rs m => match rs with
  | [a, b] => p a b m
  | _ => none
def pOrs (p q : PF) : PF := fun rs m => match p rs m with
  | some x => some x
  | none => q rs m
section
variable {X : Cx} {f : Value} {k : Nat}
theorem c_or {p q : PF} (h1 : CallR X f (rsP ζ X.K p)) (h2 : CallR X f (rsP ζ X.K q)) : CallR X f (rsP ζ X.K (pOrs p q)) := by
  intro pins s σ H xs us Q I rx z
  obtain ⟨φ, m, rs, r, m', S, RS, hf, kk⟩ := z
  unfold pOrs at hf
  split at hf
  · rename_i e
    cases hf
    exact h1 pins s σ H xs us Q I rx ⟨φ, m, rs, r, m', S, RS, e, kk⟩
  · exact h2 pins s σ H xs us Q I rx ⟨φ, m, rs, r, m', S, RS, hf, kk⟩
/-- a rule of one value -/
theorem c_one {p : R → M → Option (R × M)} (h : ∀ (pins : List (Addr × Obj)) (s : Shared) (σ : L2.St) (H : Hp) (v : V) (us : List Value) (Q : VK) (φ : Ad) (m : M) (a r : R) (m' : M), Inv X pins σ H s → Vals [v] us → SR ζ X.K φ H m → RR X.K φ H v a → p a m = some (r, m') →
    ValK ζ X.K φ H r m' Q → wpAny (model X.prog X.w) X.A (call f us) (EP X pins σ Q) X.xe s) : CallR X f (rsP ζ X.K (p1 p)) := by
  intro pins s σ H xs us Q I rx z
  obtain ⟨φ, m, rs, r, m', S, RS, hf, kk⟩ := z
  unfold p1 at hf
  split at hf
  · cases RS with
    | cons a t =>
      cases t
      exact h pins s σ H _ us Q φ m _ r m' I rx S a hf kk
  · cases hf
theorem c_two {p : R → R → M → Option (R × M)} (h : ∀ (pins : List (Addr × Obj)) (s : Shared) (σ : L2.St) (H : Hp) (v v2 : V) (us : List Value) (Q : VK) (φ : Ad) (m : M) (a b r : R) (m' : M), Inv X pins σ H s → Vals [v, v2] us → SR ζ X.K φ H m → RR X.K φ H v a → RR X.K φ H v2 b → p a b m = some (r, m') →
    ValK ζ X.K φ H r m' Q → wpAny (model X.prog X.w) X.A (call f us) (EP X pins σ Q) X.xe s) : CallR X f (rsP ζ X.K (p2 p)) := by
  intro pins s σ H xs us Q I rx z
  obtain ⟨φ, m, rs, r, m', S, RS, hf, kk⟩ := z
  unfold p2 at hf
  split at hf
  · cases RS with
    | cons a t =>
      cases t with
      | cons a2 t2 =>
        cases t2
        exact h pins s σ H _ _ us Q φ m _ _ r m' I rx S a a2 hf kk
  · cases hf
end

/-! ### len, abs, min and max of two -/
def pLen := p1 fun r m => (asLT r m).bind fun ds => some (.val (.int ds.length), m)
def pAbs := p1 fun r m => (asI r).bind fun i => some (.val (.int (if i < 0 then -i else i)), m)
def pMin2 := p2 fun a b m => (asI a).bind fun i => (asI b).bind fun j => some (.val (.int (if j < i then j else i)), m)
def pMax2 := p2 fun a b m => (asI a).bind fun i => (asI b).bind fun j => some (.val (.int (if j > i then j else i)), m)
def pInt := p1 fun r m => match r with
  | .val (.int i) => some (.val (.int i), m)
  | .val (.bool b) => some (.val (.int (if b then 1 else 0)), m)
  | _ => none
/-- all of them ints -/
def asIs : List D → Option (List Int)
  | [] => some []
  | .int i :: ds => (asIs ds).bind fun is => some (i :: is)
  | _ => none
def asBs : List D → Option (List Bool)
  | [] => some []
  | .bool i :: ds => (asBs ds).bind fun is => some (i :: is)
  | _ => none
theorem asIs_eq : ∀ {ds : List D} {ns : List Int}, asIs ds = some ns → ds = ns.map .int
  | [], _, e => by cases e; rfl
  | d :: ds, ns, e => by
    cases d with
    | int i =>
      obtain ⟨is, h1, h2⟩ := bind_some_iff e
      cases h2
      rw [asIs_eq h1]
      rfl
    | _ => cases e
theorem asBs_eq : ∀ {ds : List D} {ns : List Bool}, asBs ds = some ns → ds = ns.map .bool
  | [], _, e => by cases e; rfl
  | d :: ds, ns, e => by
    cases d with
    | bool i =>
      obtain ⟨is, h1, h2⟩ := bind_some_iff e
      cases h2
      rw [asBs_eq h1]
      rfl
    | _ => cases e
theorem asIs_ints : ∀ ns : List Int, asIs (ns.map .int) = some ns
  | [] => rfl
  | n :: ns => by
    show (asIs (ns.map .int)).bind _ = _
    rw [asIs_ints ns]
    rfl
theorem asBs_bools : ∀ ns : List Bool, asBs (ns.map .bool) = some ns
  | [] => rfl
  | n :: ns => by
    show (asBs (ns.map .bool)).bind _ = _
    rw [asBs_bools ns]
    rfl
theorem bools_of_dpAll {K : PySem.W.Frag} {H : Hp} : ∀ {ns : List Bool} {vs : List V}, DpAll K H vs (ns.map PyData.bool) → vs = ns.map V.bl
  | [], _, h => by cases h; rfl
  | n :: r, _, h => by
    cases h with
    | cons a t =>
      cases a
      rw [bools_of_dpAll t]
      rfl
def pSum := p1 fun r m => (asLT r m).bind fun ds => (asIs ds).bind fun ns => some (.val (.int ns.sum), m)
def pAll := p1 fun r m => (asL r m).bind fun ds => (asBs ds).bind fun ns => some (.val (.bool (ns.all id)), m)
def pAny := p1 fun r m => (asL r m).bind fun ds => (asBs ds).bind fun ns => some (.val (.bool (ns.any id)), m)
def pTupleOf := p1 fun r m => match r with
  | .val (.tuple ds) => some (.val (.tuple ds), m)
  | r => (asL r m).bind fun ds => some (.val (.tuple ds), m)
/-- they can be compared with one another -/
def alikeB (ds : List D) : Bool := (ds.all fun x => ds.all fun y => PySem.W.alike x y) && ds.all fun x => match x with
  | .none => false
  | _ => true
theorem alikeB_ok {ds : List D} (h : alikeB ds = true) : PySem.W.AlikeAll ds := by
  unfold alikeB at h
  rw [Bool.and_eq_true, List.all_eq_true, List.all_eq_true] at h
  refine ⟨fun x hx y hy => List.all_eq_true.mp (h.1 x hx) y hy, fun x hx e => ?_⟩
  have := h.2 x hx
  rw [e] at this
  cases this
def smallAll (ds : List D) : Bool := decide (PyData.depthAll ds ≤ 60)
def pMinL := p1 fun r m => (asLT r m).bind fun ds => match ds with
  | [] => none
  | d :: ds => if (alikeB (d :: ds) && smallAll (d :: ds)) = true then some (.val (PySem.W.minD d ds), m) else none
def pMaxL := p1 fun r m => (asLT r m).bind fun ds => match ds with
  | [] => none
  | d :: ds => if (alikeB (d :: ds) && smallAll (d :: ds)) = true then some (.val (PySem.W.maxD d ds), m) else none
def pMin := pOrs pMin2 pMinL
def pMax := pOrs pMax2 pMaxL
def pRepr := p1 fun r m => (asD r m).bind fun d => if (d.showable && !d.hasDict && decide (d.depth ≤ 60) && decide (d.shown.length ≤ sizeLine)) = true then some (.val (.str d.shown), m) else none
section
variable {X : Cx} {k : Nat}
theorem one_val {v : V} {us : List Value} (h : Vals [v] us) : ∃ u, us = [u] ∧ RelV v u := Vals.one h
theorem c_len : CallR X (.builtin "len") (rsP ζ X.K pLen) := c_one fun pins s σ H v us Q φ m a r m' I rx S ra hf kk => by
  obtain ⟨ds, h1, hf⟩ := bind_some_iff hf
  cases hf
  obtain ⟨p, xs, rfl, hs, hd⟩ := seqLT_of S ra h1
  exact call_len_seq pins s σ H _ us Q I rx ⟨p, xs, rfl, hs, by rw [DpAll.len hd]; exact kk φ H _ .refl S (Dp.int _)⟩
theorem c_abs : CallR X (.builtin "abs") (rsP ζ X.K pAbs) := c_one fun pins s σ H v us Q φ m a r m' I rx S ra hf kk => by
  obtain ⟨i, h1, hf⟩ := bind_some_iff hf
  cases hf
  have e := asI_some h1
  subst e
  have e := rr_int ra
  subst e
  exact call_abs pins s σ H _ us Q I rx ⟨i, rfl, kk φ H _ .refl S (Dp.int _)⟩
theorem c_min2 (hc : X.calm = true) : CallR X (.builtin "min") (rsP ζ X.K pMin2) := c_two fun pins s σ H v v2 us Q φ m a b r m' I rx S ra rb hf kk => by
  obtain ⟨i, h1, hf⟩ := bind_some_iff hf
  obtain ⟨j, h2, hf⟩ := bind_some_iff hf
  cases hf
  have e := asI_some h1
  subst e
  have e := asI_some h2
  subst e
  have e := rr_int ra
  subst e
  have e := rr_int rb
  subst e
  exact call_min2 hc pins s σ H _ us Q I rx ⟨i, j, rfl, kk φ H _ .refl S (Dp.int _)⟩
theorem c_max2 (hc : X.calm = true) : CallR X (.builtin "max") (rsP ζ X.K pMax2) := c_two fun pins s σ H v v2 us Q φ m a b r m' I rx S ra rb hf kk => by
  obtain ⟨i, h1, hf⟩ := bind_some_iff hf
  obtain ⟨j, h2, hf⟩ := bind_some_iff hf
  cases hf
  have e := asI_some h1
  subst e
  have e := asI_some h2
  subst e
  have e := rr_int ra
  subst e
  have e := rr_int rb
  subst e
  exact call_max2 hc pins s σ H _ us Q I rx ⟨i, j, rfl, kk φ H _ .refl S (Dp.int _)⟩
theorem c_int : CallR X (.type "int") (rsP ζ X.K pInt) := c_one fun pins s σ H v us Q φ m a r m' I rx S ra hf kk => by
  split at hf
  · cases hf
    have e := rr_int ra
    subst e
    exact call_int1 pins s σ H _ us Q I rx (.inl ⟨_, rfl, kk φ H _ .refl S (Dp.int _)⟩)
  · cases hf
    have e := rr_bool ra
    subst e
    exact call_int1 pins s σ H _ us Q I rx (.inr ⟨_, rfl, kk φ H _ .refl S (Dp.int _)⟩)
  · cases hf
theorem c_sum (hc : X.calm = true) : CallR X (.builtin "sum") (rsP ζ X.K pSum) := c_one fun pins s σ H v us Q φ m a r m' I rx S ra hf kk => by
  obtain ⟨ds, h1, hf⟩ := bind_some_iff hf
  obtain ⟨ns, h2, hf⟩ := bind_some_iff hf
  cases hf
  have e := asIs_eq h2
  subst e
  obtain ⟨p, xs, rfl, hs, hd⟩ := seqLT_of S ra h1
  have e := ints_of_dpAll hd
  subst e
  have fin := kk φ H (.int ns.sum) .refl S (Dp.int _)
  rcases hs with hs | hs
  · exact cr_sum hc pins s σ H _ us Q I rx ⟨p, ns, rfl, hs, fin⟩
  · obtain ⟨its, rv, pl, hz⟩ := I.tuple hs
    obtain ⟨u, rfl, ru⟩ := one_val rx
    cases ru
    obtain ⟨xs, e⟩ := (rv.ints).allInts.items
    have hn : numsOf (intItems xs).toList = ns := by rw [← e]; exact (rv.ints).numsOf
    rw [nums_intItems] at hn
    rw [e] at pl
    have hlt : p < s.heap.objs.size := pl.lt
    refine PySem.call_sum_walkG (PySem.wpAny_pyIter_tuple pl ?_)
    refine ⟨_, _, _, _, _, _, numAt xs, rfl, Walks.tuple (A := X.A.in1) (I.ok.hd hc) _ p (Nat.ne_of_lt hlt) (intItems xs), ⟨⟨_, Heap.get?_push_size _ rfl, rfl, rfl⟩, Heap.IsTuple.push pl _⟩, fun b hb => ?_, (fun _ _ => intItems_at), fun h' tk t' hk => ?_⟩
    · show b < (s.heap.push _).objs.size
      rw [Heap.size_push]
      rcases List.mem_cons.mp hb with rfl | hb
      · exact Nat.lt_succ_self _
      · rcases List.mem_cons.mp hb with rfl | hb
        · exact Nat.lt_succ_of_lt hlt
        · cases hb
    · have hsz : (intItems xs).size = xs.size := by simp [intItems]
      rw [hsz, preSum_eq, List.take_of_length_le (by simp), hn]
      refine ⟨.int ns.sum, H, I.kept (t' := tk) fun b o e => hk b o (fun z => ?_) (Heap.get?_push_of_some _ e), ⟨_, rfl⟩, fin⟩
      exact absurd (Heap.lt_size e) ((List.mem_singleton.mp z) ▸ Nat.lt_irrefl _)
theorem c_all (hc : X.calm = true) : CallR X (.builtin "all") (rsP ζ X.K pAll) := c_one fun pins s σ H v us Q φ m a r m' I rx S ra hf kk => by
  obtain ⟨ds, h1, hf⟩ := bind_some_iff hf
  obtain ⟨ns, h2, hf⟩ := bind_some_iff hf
  cases hf
  have e := asBs_eq h2
  subst e
  obtain ⟨p, xs, rfl, hs, hd⟩ := seqL_of S ra h1
  have e := bools_of_dpAll hd
  subst e
  exact cr_all hc pins s σ H _ us Q I rx ⟨p, ns, rfl, hs, kk φ H _ .refl S (Dp.bl _)⟩
theorem c_any (hc : X.calm = true) : CallR X (.builtin "any") (rsP ζ X.K pAny) := c_one fun pins s σ H v us Q φ m a r m' I rx S ra hf kk => by
  obtain ⟨ds, h1, hf⟩ := bind_some_iff hf
  obtain ⟨ns, h2, hf⟩ := bind_some_iff hf
  cases hf
  have e := asBs_eq h2
  subst e
  obtain ⟨p, xs, rfl, hs, hd⟩ := seqL_of S ra h1
  have e := bools_of_dpAll hd
  subst e
  exact cr_any hc pins s σ H _ us Q I rx ⟨p, ns, rfl, hs, kk φ H _ .refl S (Dp.bl _)⟩
theorem c_tuple : CallR X (.type "tuple") (rsP ζ X.K pTupleOf) := c_one fun pins s σ H v us Q φ m a r m' I rx S ra hf kk => by
  have lst : ∀ ds, asL a m = some ds → ValK ζ X.K φ H (.val (.tuple ds)) m Q → wpAny (model X.prog X.w) X.A (call (.type "tuple") us) (EP X pins σ Q) X.xe s := fun ds h1 kk => by
    obtain ⟨p, xs, rfl, hs, hd⟩ := seqL_of S ra h1
    exact call_tuple_of pins s σ H _ us Q I rx ⟨p, xs, rfl, .inl ⟨hs, fun q hq => kk φ _ _ (gr_alloc hq) (S.alloc hq) (rr_newT S hq hd)⟩⟩
  split at hf
  · cases hf
    obtain ⟨p, xs, rfl, hs, hd⟩ := seqT_of ra
    exact call_tuple_of pins s σ H _ us Q I rx ⟨p, xs, rfl, .inr ⟨hs, kk φ H _ .refl S ra⟩⟩
  · obtain ⟨ds, h1, hf⟩ := bind_some_iff hf
    cases hf
    exact lst ds h1 kk
theorem val_at {φ : Ad} {H : Hp} {pins : List (Addr × Obj)} {s : Shared} {σ : L2.St} {ds : List D} {xs : List V} {its : List Value} {i : Nat} {u : Value} {d : D} {h' : Heap} {bs : List Addr} (I : Inv X pins σ H s) (hd : DpAll X.K (off φ H) xs ds) (rv : Vals xs its)
    (hu : its[i]? = some u) (k : ∀ b o, s.heap.get? b = some o → h'.get? b = some o) (r : Reads h' u d bs) : ∃ v, RelV v u ∧ Dp X.K (off φ H) v d := by
  have hi : i < xs.length := by
    rw [rv.length]
    exact (List.getElem?_eq_some_iff.mp hu).1
  obtain ⟨d0, h1, h2⟩ := DpAll.get' hd (List.getElem?_eq_getElem hi)
  obtain ⟨u', h3, h4⟩ := rv.get (List.getElem?_eq_getElem hi)
  rw [hu] at h3
  cases h3
  obtain ⟨as, q⟩ := Dp.reads I d0 _ u (dp_mono off_same h2) h4
  have q' := Reads.keeps k q
  have e := (Reads.unique q' d bs r).1
  rw [e] at h2
  exact ⟨_, h4, h2⟩
theorem c_minL (hc : X.calm = true) (hr : Room k X.A) : CallR X (.builtin "min") (rsP ζ X.K pMinL) := c_one fun pins s σ H v us Q φ m a r m' I rx S ra hf kk => by
  obtain ⟨ds, h1, hf⟩ := bind_some_iff hf
  cases ds with
  | nil => cases hf
  | cons d ds =>
    simp only at hf
    split at hf
    · rename_i hcond
      cases hf
      rw [Bool.and_eq_true] at hcond
      have hal := alikeB_ok hcond.1
      have hsm : PyData.depthAll (d :: ds) ≤ 60 := of_decide_eq_true hcond.2
      have hun := hr.un
      have hu : X.A.units + 1 + PyData.depthAll (d :: ds) < cLine := by omega
      obtain ⟨p, xs, rfl, hs, hd⟩ := seqLT_of S ra h1
      obtain ⟨u, rfl, ru⟩ := one_val rx
      cases ru
      have hd' := dps_mono off_same hd
      have fin : ∀ (its : List Value), Vals xs its → ∀ (i : Nat) v h' tk bs, its[i]? = some v → Reads h' v (PySem.W.minD d ds) bs → (∀ b o, s.heap.get? b = some o → h'.get? b = some o) → EP X pins σ Q v { s with heap := h', toks := tk } := by
        intro its rv i u h' tk bs e r k
        obtain ⟨v, h4, h2⟩ := val_at I hd rv e k r
        exact ⟨v, H, I.kept (t' := tk) k, h4, kk φ H v .refl S h2⟩
      rcases hs with hs | hs
      · obtain ⟨its, rv, pl, hz⟩ := I.list hs
        obtain ⟨as, hR⟩ := Dp.readsAll I (d :: ds) xs its hd' rv
        exact PySem.W.min_list_data (I.ok.hd hc) pl.isList (by simpa using hR) hal hu fun i v h' tk bs e => fin its rv i v h' tk bs (by simpa using e)
      · obtain ⟨its, rv, pl, hz⟩ := I.tuple hs
        obtain ⟨as, hR⟩ := Dp.readsAll I (d :: ds) xs its hd' rv
        exact PySem.W.min_tuple_data (I.ok.hd hc) pl (by simpa using hR) hal hu fun i v h' tk bs e => fin its rv i v h' tk bs (by simpa using e)
    · cases hf
theorem c_maxL (hc : X.calm = true) (hr : Room k X.A) : CallR X (.builtin "max") (rsP ζ X.K pMaxL) := c_one fun pins s σ H v us Q φ m a r m' I rx S ra hf kk => by
  obtain ⟨ds, h1, hf⟩ := bind_some_iff hf
  cases ds with
  | nil => cases hf
  | cons d ds =>
    simp only at hf
    split at hf
    · rename_i hcond
      cases hf
      rw [Bool.and_eq_true] at hcond
      have hal := alikeB_ok hcond.1
      have hsm : PyData.depthAll (d :: ds) ≤ 60 := of_decide_eq_true hcond.2
      have hun := hr.un
      have hu : X.A.units + 1 + PyData.depthAll (d :: ds) < cLine := by omega
      obtain ⟨p, xs, rfl, hs, hd⟩ := seqLT_of S ra h1
      obtain ⟨u, rfl, ru⟩ := one_val rx
      cases ru
      have hd' := dps_mono off_same hd
      have fin : ∀ (its : List Value), Vals xs its → ∀ (i : Nat) v h' tk bs, its[i]? = some v → Reads h' v (PySem.W.maxD d ds) bs → (∀ b o, s.heap.get? b = some o → h'.get? b = some o) → EP X pins σ Q v { s with heap := h', toks := tk } := by
        intro its rv i u h' tk bs e r k
        obtain ⟨v, h4, h2⟩ := val_at I hd rv e k r
        exact ⟨v, H, I.kept (t' := tk) k, h4, kk φ H v .refl S h2⟩
      rcases hs with hs | hs
      · obtain ⟨its, rv, pl, hz⟩ := I.list hs
        obtain ⟨as, hR⟩ := Dp.readsAll I (d :: ds) xs its hd' rv
        exact PySem.W.max_list_data (I.ok.hd hc) pl.isList (by simpa using hR) hal hu fun i v h' tk bs e => fin its rv i v h' tk bs (by simpa using e)
      · obtain ⟨its, rv, pl, hz⟩ := I.tuple hs
        obtain ⟨as, hR⟩ := Dp.readsAll I (d :: ds) xs its hd' rv
        exact PySem.W.max_tuple_data (I.ok.hd hc) pl (by simpa using hR) hal hu fun i v h' tk bs e => fin its rv i v h' tk bs (by simpa using e)
    · cases hf
theorem c_min (hc : X.calm = true) (hr : Room k X.A) : CallR X (.builtin "min") (rsP ζ X.K pMin) := c_or (c_min2 hc) (c_minL hc hr)
theorem c_max (hc : X.calm = true) (hr : Room k X.A) : CallR X (.builtin "max") (rsP ζ X.K pMax) := c_or (c_max2 hc) (c_maxL hc hr)
theorem c_repr (hg : X.A.guards = some []) (hr : Room k X.A) : CallR X (.builtin "repr") (rsP ζ X.K pRepr) := c_one fun pins s σ H v us Q φ m a r m' I rx S ra hf kk => by
  obtain ⟨d, h1, hf⟩ := bind_some_iff hf
  split at hf
  · rename_i hc
    cases hf
    simp only [Bool.and_eq_true, decide_eq_true_eq, Bool.not_eq_true'] at hc
    obtain ⟨⟨⟨c1, c2⟩, c3⟩, c4⟩ := hc
    have hd := asD_dp S ra h1
    obtain ⟨u, rfl, ru⟩ := one_val rx
    obtain ⟨as, q⟩ := Dp.reads I d v u hd ru
    have hun := hr.un
    have fin := kk φ H (.str d.shown) .refl S (Dp.str _)
    have cont : ∀ b, u = .ref b → wpAny (model X.prog X.w) X.A (call (.builtin "repr") [u]) (EP X pins σ Q) X.xe s := fun b e => by
      subst e
      refine PySem.repr_of_reads' (hsz := c4) q c1 (fun z => by rw [c2] at z; cases z) hg (by omega) (fun _ _ z => z) fun h' u tk kp => ?_
      exact ⟨.str d.shown, H, I.kept (t' := tk) kp, ⟨_, rfl⟩, fin⟩
    cases hd with
    | non =>
      cases ru
      exact PySem.P.repr_of_none ⟨.str _, H, I.tok _, ⟨_, rfl⟩, fin⟩
    | bl b =>
      cases ru
      exact PySem.P.repr_of_bool ⟨.str _, H, I.tok _, ⟨_, rfl⟩, fin⟩
    | int i =>
      obtain ⟨t, rfl⟩ := ru
      exact PySem.P.repr_of_int (of_decide_eq_true c1) ⟨.str _, H, I.tok _, ⟨_, rfl⟩, fin⟩
    | str z =>
      obtain ⟨t, rfl⟩ := ru
      exact PySem.P.repr_of_str (hsz := c4) ⟨.str _, H, I.tok _, ⟨_, rfl⟩, fin⟩
    | lst hs ha =>
      cases ru
      exact cont _ rfl
    | tup hs ha =>
      cases ru
      exact cont _ rfl
  · cases hf
end

/-! ### isinstance -/
inductive Ty where
  | int | bool | str | tuple | list
def Ty.nm : Ty → String
  | .int => "int"
  | .bool => "bool"
  | .str => "str"
  | .tuple => "tuple"
  | .list => "list"
def isA (t : Ty) : R → Bool
  | .val (.int _) => match t with
    | .int => true
    | _ => false
  | .val (.bool _) => match t with
    | .int => true
    | .bool => true
    | _ => false
  | .val (.str _) => match t with
    | .str => true
    | _ => false
  | .val (.tuple _) => match t with
    | .tuple => true
    | _ => false
  | .val (.list _) => match t with
    | .list => true
    | _ => false
  | .ref _ => match t with
    | .list => true
    | _ => false
  | _ => false
def eIsA (t : Ty) (f : EF) : EF := fun env m => (f env m).bind fun x => match x.1 with
  | .ref k => (x.2[k]?).bind fun o => match o with
    | .lst _ => some (.val (.bool (isA t (.ref k))), x.2)
    | .dct _ _ _ => none
  | .val d => some (.val (.bool (isA t (.val d))), x.2)
  | .tp _ => none
section
variable {X : Cx} {e : Expr} {f : EF} {p0 p1 pos : Pos} {x y : Str}
theorem kb_list (t : Ty) : kitB "list" t.nm = some (isA t (.val (.list []))) := by cases t <;> decide +kernel
theorem kb_none (t : Ty) : kitB "NoneType" t.nm = some (isA t (.val .none)) := by cases t <;> decide +kernel
theorem kb_bool (t : Ty) : kitB "bool" t.nm = some (isA t (.val (.bool true))) := by cases t <;> decide +kernel
theorem kb_int (t : Ty) : kitB "int" t.nm = some (isA t (.val (.int 0))) := by cases t <;> decide +kernel
theorem kb_str (t : Ty) : kitB "str" t.nm = some (isA t (.val (.str (Str.ofString "")))) := by cases t <;> decide +kernel
theorem kb_tuple (t : Ty) : kitB "tuple" t.nm = some (isA t (.val (.tuple []))) := by cases t <;> decide +kernel
theorem tyx_T {K : PySem.W.Frag} {H : Hp} {a : Addr} {xs : List V} (h : SqT K H a xs) : TyX K H (.ref a) (.type "tuple") := by
  rcases h with (h | ⟨o, h⟩) | ⟨o, its, n, h1, h2, _⟩
  · exact .base (.tup h)
  · exact .fTuple h
  · exact .kTuple h1 h2
theorem tyx_L {K : PySem.W.Frag} {H : Hp} {a : Addr} {xs : List V} (h : SqL K H a xs) : TyX K H (.ref a) (.type "list") := by
  rcases h with (h | ⟨o, h⟩) | ⟨o, its, n, h1, h2, _⟩
  · exact .base (.lst h)
  · exact .base (.frz h)
  · exact .kList h1 h2
theorem x_isa (t : Ty) (hx : y = Str.ofString t.nm) (he : PE X e (tE ζ X.K f)) (hg : Gl X "isinstance") (hm : X.mg "isinstance" = none) (hg2 : Gl X y) (hm2 : X.mg y = none) (hv2 : bootBuiltins y = some (.type t.nm)) (hn2 : y ≠ "__name__" := by decide) (hd2 : (y == ("__debug__" : Str)) = false := by decide)
    (s1 : starEach [e, .Name y p1] X.env = (false, eval e X.env) :: starEach [.Name y p1] X.env := by rfl) (hpl : (backTo pos (starEach [.Name y p1] X.env)).any (·.1) = false := by rfl) : PE X (.Call (.Name "isinstance" p0) [e, .Name y p1] [] pos) (tE ζ X.K (eIsA t f)) := by
  refine pe_imp (pe_callB (call_isi (X := X)) hg hm (by decide +kernel) (pa_cons he (pa_cons (pe_bltn (v := .ty t.nm) hg2 hm2 hv2 rfl hn2 hd2) pa_nil) s1) (he := s1) (hpl := hpl)) fun σ H Q q => ?_
  obtain ⟨φ, env, m, r, m', S, E, hf, k⟩ := q
  obtain ⟨⟨r1, m1⟩, h1, hf⟩ := bind_some_iff hf
  refine ⟨φ, env, m, r1, m1, S, E, h1, fun φ1 H1 v g1 S1 R1 => ?_⟩
  have goal : ∀ b ty, r = .val (.bool b) → m' = m1 → TyX X.K H1 v (.type ty) → kitB ty t.nm = some b → rIsi X.K [v, .ty t.nm] H1 Q := fun b ty e1 e2 h2 h3 => by
    subst e1 e2
    exact ⟨v, .ty t.nm, .type ty, .type t.nm, b, rfl, .ty _, h2, kit_ty h3, k φ1 H1 _ g1 S1 (Dp.bl _)⟩
  show rIsi X.K [v, .ty t.nm] H1 Q
  cases r1 with
  | tp j => first | (cases hf; done) | (cases e; done) | (cases h1; done) | (cases h; done) | (cases h7; done) | (cases h2; done)
  | ref j =>
    obtain ⟨o, ho, hf⟩ := bind_some_iff hf
    obtain ⟨a, rfl, ha⟩ := R1
    cases o with
    | dct t lk kvs => cases hf
    | lst ds =>
      cases hf
      obtain ⟨xs, h3, h4⟩ := S1.obj j _ a ho ha
      exact goal _ "list" rfl rfl (tyx_L (.inl (.inl h3))) (kb_list t)
  | val d =>
    have R1' : Dp X.K (off φ1 H1) v d := R1
    cases R1' with
    | non =>
      cases hf
      exact goal _ "NoneType" rfl rfl (.base .non) (kb_none t)
    | bl b =>
      cases hf
      exact goal _ "bool" rfl rfl (.base (.bl b)) (kb_bool t)
    | int i =>
      cases hf
      exact goal _ "int" rfl rfl (.base (.int i)) (kb_int t)
    | str z =>
      cases hf
      exact goal _ "str" rfl rfl (.base (.str z)) (kb_str t)
    | lst hs ha =>
      cases hf
      exact goal _ "list" rfl rfl (tyx_L (off_same.seq hs)) (kb_list t)
    | tup hs ha =>
      cases hf
      exact goal _ "tuple" rfl rfl (tyx_T (sqT_mono off_same hs)) (kb_tuple t)
end
end Ev

set_option Elab.async false
set_option linter.all false
set_option maxRecDepth 100000
/-! Methods of lists, stores to items, x op= y, enumerate, the law's end. -/
namespace Ev
open PySem PySem.Spec PyProof.Rows L2

/-! ### methods of lists -/
abbrev MF := R → List R → M → Option (R × M)
def rmP (ζ : Tbs) (K : PySem.W.Frag) (p : MF) : V → List V → Hp → VK → Prop := fun x xs H Q => ∃ φ m r0 rs r m', SR ζ K φ H m ∧ RR K φ H x r0 ∧ RRs K φ H xs rs ∧ p r0 rs m = some (r, m') ∧ ValK ζ K φ H r m' Q
/-- the receiver is a list -/
def eBM (p : MF) (f : EF) (fa : AF) : EF := fun env m => (f env m).bind fun x => (asL x.1 x.2).bind fun _ => (fa env x.2).bind fun y => p x.1 y.1 y.2
section
variable {X : Cx} {o e : Expr} {es : List Expr} {f : EF} {fa : AF} {p : MF} {id : String} {name : Str} {apos cpos : Pos}
theorem bm_imp {K : PySem.W.Frag} {σ : L2.St} {H : Hp} {Q : VK} (q : tE ζ K (eBM p f fa) σ H Q) : tBM K "list" (rmP ζ K p) (tE ζ K f) (tA ζ K fa) σ H Q := by
  obtain ⟨φ, env, m, r, m', S, E, hf, k⟩ := q
  obtain ⟨⟨r1, m1⟩, h1, hf⟩ := bind_some_iff hf
  obtain ⟨ds, h2, hf⟩ := bind_some_iff hf
  obtain ⟨⟨rs, m3⟩, h3, hf⟩ := bind_some_iff hf
  refine ⟨φ, env, m, r1, m1, S, E, h1, fun φ1 H1 v g1 S1 R1 => ?_⟩
  obtain ⟨a, xs, rfl, hs, hd⟩ := seqL_of S1 R1 h2
  refine ⟨.inl ⟨rfl, xs, hs⟩, φ1, env, m1, rs, m3, S1, E.mono g1, h3, fun φ2 H2 vs g2 S2 R2 => ?_⟩
  exact ⟨φ2, m3, r1, rs, r, m', S2, R1.mono g2, R2, hf, fun φ3 H3 v3 g3 S3 R3 => k φ3 H3 v3 (g1.trans (g2.trans g3)) S3 R3⟩
theorem x_bm (slot : Slot "list" name id) (hty : typeOf (.builtin id) = pure (.type "method_descriptor")) (hm : MtR X id (rmP ζ X.K p)) (ho : PE X o (tE ζ X.K f)) (ha : PA X (e :: es) (tA ζ X.K fa))
    (hbase : attributeBase o name X.env (eval o X.env) = eval o X.env := by rfl)
    (hfew : ((backTo cpos (starEach (e :: es) X.env)).all (fun x => !x.1) && (backToKw cpos (keywordEach [] X.env)).all (fun x => x.1.isSome)
      && decide ((e :: es).length + ([] : List Keyword).length + (if ([] : List Keyword).isEmpty then 0 else 1) < 30)) = true := by rfl)
    (hline : (apos.endLine == cpos.line) = true := by rfl) (hs : starEach (e :: es) X.env = (false, eval e X.env) :: starEach es X.env := by rfl) (hplain : (backTo cpos (starEach es X.env)).any (·.1) = false := by rfl) :
    PE X (.Call (.Attribute o name apos) (e :: es) [] cpos) (tE ζ X.K (eBM p f fa)) :=
  pe_imp (pe_bm PySem.F.plainAttrs_list slot hty hm ho ha hbase hfew hline hs hplain) fun _ _ _ q => bm_imp q
end
def pAppend : MF := fun r rs m => match r, rs with
  | .ref k, [.val d] => (m[k]?).bind fun o => match o with
    | .lst ds => if ds.length < sizeLine then some (.val .none, m.set k (.lst (ds ++ [d]))) else none
    | .dct _ _ _ => none
  | _, _ => none
/-- the first place of an equal item -/
def firstEq (d : D) : List D → Option Nat
  | [] => none
  | e :: es => if PyData.eqv e d = true then some 0 else (firstEq d es).bind fun j => some (j + 1)
def pIndex : MF := fun r rs m => match rs with
  | [a] => (asD a m).bind fun d => (asL r m).bind fun ds => if (SeqAt.shaped (.list ds) && SeqAt.shaped d) = true then (firstEq d ds).bind fun j => some (.val (.int j), m) else none
  | _ => none
theorem firstEq_at : ∀ {d : D} {ds : List D} {j : Nat}, firstEq d ds = some j → ∃ z, ds[j]? = some z ∧ PyData.eqv z d = true ∧ ∀ (i : Nat) (z' : D), i < j → ds[i]? = some z' → PyData.eqv z' d = false
  | d, [], j, h => by cases h
  | d, e :: es, j, h => by
    unfold firstEq at h
    split at h
    · rename_i he
      cases h
      exact ⟨e, rfl, he, fun i z' hi => absurd hi (Nat.not_lt_zero _)⟩
    · rename_i he
      obtain ⟨i, h1, h2⟩ := bind_some_iff h
      cases h2
      obtain ⟨z, a, b, c⟩ := firstEq_at h1
      refine ⟨z, a, b, fun j z' hj hz => ?_⟩
      cases j with
      | zero =>
        cases hz
        simpa using he
      | succ j => exact c j z' (Nat.lt_of_succ_lt_succ hj) hz
section
variable {X : Cx} {k : Nat}
theorem m_append : MtR X "list.append" (rmP ζ X.K pAppend) := by
  intro pins s σ H x xs v us Q I rx rxs h
  obtain ⟨φ, m, r0, rs, r, m', S, R0, RS, hf, kk⟩ := h
  unfold pAppend at hf
  split at hf
  · rename_i k d
    obtain ⟨ob, ho, hf⟩ := bind_some_iff hf
    cases ob with
    | dct t lk kvs => cases hf
    | lst ds =>
      simp only at hf
      split at hf
      · rename_i hl
        cases hf
        obtain ⟨a, rfl, ha⟩ := R0
        obtain ⟨zs, h3, h4⟩ := S.obj k _ a ho ha
        cases RS with
        | cons r1 t1 =>
          cases t1
          have hin : a ∈ φ.s := List.mem_of_getElem? ha
          refine mt_append pins s σ H _ _ v us Q I rx rxs ⟨a, zs, _, rfl, rfl, h3, by rw [DpAll.len h4]; exact hl, ?_⟩
          exact kk φ _ _ (gr_write hin (S.apart hin) (nf_lst h3)) (S.write ha (DpAll.append h4 (.cons r1 .nil))) Dp.non
      · cases hf
  · cases hf
theorem m_index (hr : Room k X.A) : MtR X "list.index" (rmP ζ X.K pIndex) := by
  intro pins s σ H x xs v us Q I rx rxs h
  obtain ⟨φ, m, r0, rs, r, m', S, R0, RS, hf, kk⟩ := h
  unfold pIndex at hf
  split at hf
  · obtain ⟨d, h1, hf⟩ := bind_some_iff hf
    obtain ⟨ds, h2, hf⟩ := bind_some_iff hf
    split at hf
    · rename_i hc
      obtain ⟨j, h3, hf⟩ := bind_some_iff hf
      cases hf
      rw [Bool.and_eq_true] at hc
      obtain ⟨z, e1, e2, e3⟩ := firstEq_at h3
      cases RS with
      | cons r1 t1 =>
        cases t1
        obtain ⟨a, zs, rfl, hs, hd⟩ := seqL_of S R0 h2
        have hun := hr.un
        refine mt_indexD (by omega) pins s σ H _ _ v us Q I rx rxs ⟨a, _, d, ds, j, z, rfl, rfl, .lst hs (dps_mono off_same hd), asD_dp S r1 h1, hc.1, hc.2, e1, e2, e3, kk φ H _ .refl S (Dp.int _)⟩
    · cases hf
  · cases hf
end

/-! ### o[i] = v, o[i] op= v, x op= v -/
def pSet (o i v : R) (m : M) : Option M := match o, v with
  | .ref k, .val d => (m[k]?).bind fun ob => match ob with
    | .lst ds => (asI i).bind fun z => (ixN ds.length z).bind fun j => some (m.set k (.lst (ds.set j d)))
    | .dct _ _ _ => none
  | _, _ => none
def rSetP (ζ : Tbs) (K : PySem.W.Frag) (p : R → R → R → M → Option M) : V → V → V → Hp → (Hp → Prop) → Prop := fun o i v H Q => ∃ φ m r1 r2 r3 m', SR ζ K φ H m ∧ RR K φ H o r1 ∧ RR K φ H i r2 ∧ RR K φ H v r3 ∧ p r1 r2 r3 m = some m' ∧
  ∀ φ' H', Gr φ H φ' H' → SR ζ K φ' H' m' → Q H'
def gSubF (p : R → R → R → M → Option M) (f g : EF) : GF := fun r env m => (f env m).bind fun x => (g env x.2).bind fun y => (p x.1 y.1 r y.2).bind fun m' => some (env, m')
/-- x op= e -/
def sAugF (p : R → R → M → Option (R × M)) (i : Nat) (f : EF) : SF := fun env m => (eVar i env m).bind fun x => (f env m).bind fun y => (p x.1 y.1 y.2).bind fun z => some (.nx (env.set i (some z.1)) z.2)
/-- o[i] op= e -/
def sAugSF (q : R → R → M → Option (R × M)) (p : R → R → R → M → Option M) (f g h : EF) : SF := fun env m => (f env m).bind fun x => (g env x.2).bind fun y => (pIdx x.1 y.1 y.2).bind fun z => (h env z.2).bind fun w => (q z.1 w.1 w.2).bind fun u => (p x.1 y.1 u.1 u.2).bind fun m' => some (.nx env m')
section
variable {X : Cx} {o i e : Expr} {f g h : EF} {pos tpos pos' : Pos}
theorem set_ok : PSet X (rSetP ζ X.K pSet) := by
  intro pins s σ H o i v ov iv u Q I ro ri rv z
  obtain ⟨φ, m, r1, r2, r3, m', S, R1, R2, R3, hf, kk⟩ := z
  unfold pSet at hf
  split at hf
  · rename_i k d
    obtain ⟨ob, ho, hf⟩ := bind_some_iff hf
    cases ob with
    | dct t lk kvs => cases hf
    | lst ds =>
      obtain ⟨n, h2, hf⟩ := bind_some_iff hf
      obtain ⟨j, h3, hf⟩ := bind_some_iff hf
      cases hf
      have e2 := asI_some h2
      subst e2
      have e2 := rr_int R2
      subst e2
      obtain ⟨a, rfl, ha⟩ := R1
      obtain ⟨zs, h4, h5⟩ := S.obj k _ a ho ha
      have hin : a ∈ φ.s := List.mem_of_getElem? ha
      exact set_list pins s σ H _ _ v ov iv u Q I ro ri rv ⟨a, zs, n, j, rfl, rfl, h4, by rw [DpAll.len h5]; exact h3, kk φ _ (gr_write hin (S.apart hin) (nf_lst h4)) (S.write ha (DpAll.set R3 j h5))⟩
  · cases hf
theorem g_sub {p : R → R → R → M → Option M} (ho : PE X o (tE ζ X.K f)) (hi : PE X i (tE ζ X.K g)) (hs : PSet X (rSetP ζ X.K p))
    (ha : ∀ v, assign (.Subscript o i pos) X.env v = (do
      let ov ← holding [v] (eval o X.env)
      let iv ← holding [v, ov] (eval i X.env)
      standAt pos
      holding [v, ov, iv] (setItem ov iv v)
      release [v, ov, iv] []) := by intros; rfl) : PG X (.Subscript o i pos) (tG ζ X.K (gSubF p f g)) := tg_imp (pg_sub ho hi hs ha) fun v σ H Q q => by
  obtain ⟨φ, env, m, r, e', m', S, E, Rv, hf, k⟩ := q
  obtain ⟨⟨r1, m1⟩, h1, hf⟩ := bind_some_iff hf
  obtain ⟨⟨r2, m2⟩, h2, hf⟩ := bind_some_iff hf
  obtain ⟨m3, h3, hf⟩ := bind_some_iff hf
  cases hf
  refine ⟨φ, env, m, r1, m1, S, E, h1, fun φ1 H1 v1 g1 S1 R1 => ?_⟩
  refine ⟨φ1, env, m1, r2, m2, S1, E.mono g1, h2, fun φ2 H2 v2 g2 S2 R2 => ?_⟩
  exact ⟨φ2, m2, r1, r2, r, m', S2, R1.mono g2, R2, Rv.mono (g1.trans g2), h3, fun φ3 H3 g3 S3 => k φ3 σ H3 (g1.trans (g2.trans g3)) S3 (E.mono (g1.trans (g2.trans g3)))⟩
theorem s_aug {n : Nat} {x : Str} {op : Operator} {p : R → R → M → Option (R × M)} (hN : X.N.Nodup) (hi : X.N[n]? = some x) (hx : Loc X.env.scope x) (he : PE X e (tE ζ X.K f)) (ho : OpR X (inplaceOp op) (r2P ζ X.K p)) (hf : X.fn x = true ∨ X.env.scope.names.lookup x = some .local := by first | exact .inl rfl | exact .inr rfl | assumption) :
    PS X (.AugAssign (.Name x pos') op e pos) (tS ζ X.K (sAugF p n f)) := ps_imp (ps_aug (ti := r2P ζ X.K p) hN hi hx he ho hf) fun W σ H q => by
  obtain ⟨φ, env, m, fl, S, E, hf, k⟩ := q
  obtain ⟨⟨r1, m1⟩, h1, hf⟩ := bind_some_iff hf
  obtain ⟨⟨r2, m2⟩, h2, hf⟩ := bind_some_iff hf
  obtain ⟨⟨r3, m3⟩, h3, hf⟩ := bind_some_iff hf
  cases hf
  have hr : env[n]? = some (some r1) ∧ m = m1 := by
    unfold eVar at h1
    split at h1
    · rename_i r' h
      cases h1
      exact ⟨h, rfl⟩
    · cases h1
  obtain ⟨v, q1, q2⟩ := E.get hr.1
  refine ⟨v, q1, φ, env, m, r2, m2, S, E, h2, fun φ1 H1 v2 g1 S1 R2 => ?_⟩
  exact ⟨φ1, m2, r1, r2, r3, m3, S1, q2.mono g1, R2, h3, fun φ2 H2 v3 g2 S2 R3 => k φ2 _ H2 (g1.trans g2) S2 ((E.mono (g1.trans g2)).set R3 n)⟩
theorem get_ok : PGet X (r2P ζ X.K pIdx) := by
  intro pins s σ H o i ov iv Q I ro ri q
  obtain ⟨φ, m, r1, r2, r, m', S, R1, R2, hf, k⟩ := q
  obtain ⟨ds, h1, hf⟩ := bind_some_iff hf
  obtain ⟨n, h2, hf⟩ := bind_some_iff hf
  obtain ⟨d, h3, hf⟩ := bind_some_iff hf
  cases hf
  have e2 := asI_some h2
  subst e2
  have x2 := rr_int R2
  subst x2
  obtain ⟨p, xs, rfl, hs, hd⟩ := seqLT_of S R1 h1
  obtain ⟨z, h4, h5⟩ := DpAll.atI hd h3
  have fin := k φ H z .refl S h5
  cases ro
  obtain ⟨t, rfl⟩ := ri
  obtain ⟨j, a1, a2, a3, a4, a5⟩ := atI_get h4
  have hn := line63
  have main : ∀ (its : List Value) (rv : Vals xs its) (hz : xs.length ≤ sizeLine), ∃ w, its[j]? = some w ∧ EP X pins σ Q w s ∧ (0 ≤ n → n.toNat = j) ∧ (¬ 0 ≤ n → (n + (its.toArray.size : Int)).toNat = j) ∧ n < 2 ^ 63 ∧ -(its.toArray.size : Int) ≤ n ∧ -(2 ^ 63) ≤ n := by
    intro its rv hz
    obtain ⟨w, ew, rw'⟩ := rv.get a2
    have hl := rv.length
    refine ⟨w, ew, ⟨z, H, I, rw', fin⟩, fun h0 => ?_, fun h0 => ?_, by omega, by rw [List.size_toArray]; omega, by omega⟩
    · rw [seqIndex_of h0 a5] at a1
      exact Option.some.inj a1
    · rw [seqIndex_neg (by omega) a4] at a1
      rw [List.size_toArray, ← hl]
      exact Option.some.inj a1
  rcases hs with hs | hs
  · obtain ⟨its, rv, pl, hz⟩ := I.list hs
    obtain ⟨w, ew, fin, b1, b2, b3, b4, b5⟩ := main its rv hz
    by_cases h0 : 0 ≤ n
    · exact wpAny_getItem_list pl.isList h0 b3 (by rw [b1 h0]; simpa using ew) fin
    · exact wpAny_getItem_list_neg pl.isList (by omega) b4 b5 (by rw [b2 h0]; simpa using ew) fin
  · obtain ⟨its, rv, pl, hz⟩ := I.tuple hs
    obtain ⟨w, ew, fin, b1, b2, b3, b4, b5⟩ := main its rv hz
    exact PyProof.Rows.getItem_tuple pl b5 b3 (by rw [List.size_toArray, ← rv.length]; exact a1) (by simpa using ew) fin
theorem s_augS {op : Operator} {q : R → R → M → Option (R × M)} {p : R → R → R → M → Option M} (ho : PE X o (tE ζ X.K f)) (hi : PE X i (tE ζ X.K g)) (he : PE X e (tE ζ X.K h)) (hp : OpR X (inplaceOp op) (r2P ζ X.K q)) (hs : PSet X (rSetP ζ X.K p))
    (ha : ∀ ov iv new, augStore i ov iv new = (do holding [new, ov, iv] (setItem ov iv new); release [new, ov, iv] []; pure .next) := by intros; rfl) : PS X (.AugAssign (.Subscript o i tpos) op e pos) (tS ζ X.K (sAugSF q p f g h)) :=
  ps_imp (ps_augS (tip := r2P ζ X.K q) ho hi get_ok he hp hs ha) fun W σ H z => by
  obtain ⟨φ, env, m, fl, S, E, hf, k⟩ := z
  obtain ⟨⟨r1, m1⟩, h1, hf⟩ := bind_some_iff hf
  obtain ⟨⟨r2, m2⟩, h2, hf⟩ := bind_some_iff hf
  obtain ⟨⟨r3, m3⟩, h3, hf⟩ := bind_some_iff hf
  obtain ⟨⟨r4, m4⟩, h4, hf⟩ := bind_some_iff hf
  obtain ⟨⟨r5, m5⟩, h5, hf⟩ := bind_some_iff hf
  obtain ⟨m6, h6, hf⟩ := bind_some_iff hf
  cases hf
  refine ⟨φ, env, m, r1, m1, S, E, h1, fun φ1 H1 v1 g1 S1 R1 => ?_⟩
  refine ⟨φ1, env, m1, r2, m2, S1, E.mono g1, h2, fun φ2 H2 v2 g2 S2 R2 => ?_⟩
  refine ⟨φ2, m2, r1, r2, r3, m3, S2, R1.mono g2, R2, h3, fun φ3 H3 v3 g3 S3 R3 => ?_⟩
  refine ⟨φ3, env, m3, r4, m4, S3, E.mono (g1.trans (g2.trans g3)), h4, fun φ4 H4 v4 g4 S4 R4 => ?_⟩
  refine ⟨φ4, m4, r3, r4, r5, m5, S4, R3.mono g4, R4, h5, fun φ5 H5 v5 g5 S5 R5 => ?_⟩
  have gg := g1.trans (g2.trans (g3.trans (g4.trans g5)))
  exact ⟨φ5, m5, r1, r2, r5, m6, S5, R1.mono (g2.trans (g3.trans (g4.trans g5))), R2.mono (g3.trans (g4.trans g5)), R5, h6, fun φ6 H6 g6 S6 => k φ6 σ H6 (gg.trans g6) S6 (E.mono (gg.trans g6))⟩
theorem oi_add : OpR X (inplaceOp .Add) (r2P ζ X.K pAddI) := o_ii0 iop_add fun _ _ _ => .int _
theorem oi_sub : OpR X (inplaceOp .Sub) (r2P ζ X.K pSub) := o_ii0 iop_sub fun _ _ _ => .int _
def mulSmall (i j : Int) : Bool := decide ((-(2 ^ 64) < i ∧ i < 2 ^ 64) ∨ (-(2 ^ 64) < j ∧ j < 2 ^ 64))
def pMulS := pII mulSmall fun i j => .int (i * j)
theorem oi_mul : OpR X (inplaceOp .Mult) (r2P ζ X.K pMulS) := o_ii iop_mul (fun i j h => (of_decide_eq_true h : (-(2 ^ 64) < i ∧ i < 2 ^ 64) ∨ (-(2 ^ 64) < j ∧ j < 2 ^ 64))) fun _ _ _ => .int _
end

/-! ### enumerate -/
def enumD (ds : List D) : List D := ds.zipIdx.map fun p => .tuple [.int (p.2 : Nat), p.1]
theorem enumD_at {ds : List D} {i : Nat} : (enumD ds)[i]? = (ds[i]?).map fun d => .tuple [.int (i : Nat), d] := by
  unfold enumD
  rw [List.getElem?_map, List.getElem?_zipIdx]
  cases ds[i]? <;> simp
def srcE (k : Nat) : Src := fun i m => match m[k]? with
  | some (.lst ds) => some ((ds[i]?).map fun d => .tuple [.int (i : Nat), d])
  | _ => none
def itEnumL (f : AF) : IF := fun env m => (f env m).bind fun x => match x.1 with
  | [.val (.list ds)] => iL (enumD ds) x.2
  | [.ref k] => match x.2[k]? with
    | some (.lst ds) => some ((srcE k, ds.length), x.2)
    | _ => none
  | _ => none
def itEnumT (f : AF) : IF := fun env m => (f env m).bind fun x => match x.1 with
  | [.val (.tuple ds)] => iL (enumD ds) x.2
  | _ => none
theorem pair_new {K : PySem.W.Frag} {φ : Ad} {H : Hp} {m : M} {T : Addr} {i : Nat} {x : V} {d : D} (S : SR ζ K φ H m) (hT : H T = none) (h : Dp K (off φ H) x d) :
    Gr φ H φ (upd H T (.tup [.int (i : Nat), x])) ∧ SR ζ K φ (upd H T (.tup [.int (i : Nat), x])) m ∧ RR K φ (upd H T (.tup [.int (i : Nat), x])) (.ref T) (.val (.tuple [.int (i : Nat), d])) :=
  ⟨gr_alloc hT, S.alloc hT, rr_newT S hT (.cons (.int _) (.cons h .nil))⟩
theorem jok_enum {K : PySem.W.Frag} {φ : Ad} {H : Hp} {a : Addr} {xs : List V} {ds : List D} (h : SqL K (off φ H) a xs) (hd : DpAll K (off φ H) xs ds) : JOk ζ K (Ite K a) φ H (srcL (enumD ds)) where
  stop := fun φ' H' m i g S e => ⟨xs, (off_same.seq (g.same.seq h)), by
    have e' : (enumD ds)[i]? = none := Option.some.inj e
    rw [enumD_at, Option.map_eq_none_iff] at e'
    rw [DpAll.len hd]
    exact List.getElem?_eq_none_iff.mp e'⟩
  go := fun φ' H' m i d g S e => by
    have e' : (enumD ds)[i]? = some d := Option.some.inj e
    rw [enumD_at, Option.map_eq_some_iff] at e'
    obtain ⟨d', e', _⟩ := e'
    obtain ⟨v, h1, h2⟩ := DpAll.get hd e'
    exact ⟨xs, v, off_same.seq (g.same.seq h), h1⟩
  yld := fun φ' H' m i d x H'' g S e y => by
    have e' : (enumD ds)[i]? = some d := Option.some.inj e
    rw [enumD_at, Option.map_eq_some_iff] at e'
    obtain ⟨d', e', rfl⟩ := e'
    obtain ⟨v, h1, h2⟩ := DpAll.get hd e'
    obtain ⟨T, z, rfl, hT, rfl, y⟩ := y
    have q := y xs (off_same.seq (g.same.seq h))
    rw [h1] at q
    cases q
    exact pair_new S hT (dp_mono g.same h2)
theorem jok_enumR {K : PySem.W.Frag} {φ : Ad} {H : Hp} {k : Nat} {a : Addr} (h : φ.s[k]? = some a) : JOk ζ K (Ite K a) φ H (srcE k) where
  stop := fun φ' H' m i g S e => by
    unfold srcE at e
    split at e
    · rename_i ds hm
      obtain ⟨xs, h1, h2⟩ := S.obj k _ a hm (prefix_get g.pre h)
      have e' := Option.some.inj e
      rw [Option.map_eq_none_iff] at e'
      exact ⟨xs, .inl (.inl h1), by rw [DpAll.len h2]; exact List.getElem?_eq_none_iff.mp e'⟩
    · cases e
  go := fun φ' H' m i d g S e => by
    unfold srcE at e
    split at e
    · rename_i ds hm
      obtain ⟨xs, h1, h2⟩ := S.obj k _ a hm (prefix_get g.pre h)
      have e' := Option.some.inj e
      rw [Option.map_eq_some_iff] at e'
      obtain ⟨d', e', _⟩ := e'
      obtain ⟨v, h3, h4⟩ := DpAll.get h2 e'
      exact ⟨xs, v, .inl (.inl h1), h3⟩
    · cases e
  yld := fun φ' H' m i d x H'' g S e y => by
    unfold srcE at e
    split at e
    · rename_i ds hm
      obtain ⟨xs, h1, h2⟩ := S.obj k _ a hm (prefix_get g.pre h)
      have e' := Option.some.inj e
      rw [Option.map_eq_some_iff] at e'
      obtain ⟨d', e', rfl⟩ := e'
      obtain ⟨v, h3, h4⟩ := DpAll.get h2 e'
      obtain ⟨T, z, rfl, hT, rfl, y⟩ := y
      have q := y xs (.inl (.inl h1))
      rw [h3] at q
      cases q
      exact pair_new S hT h4
    · cases e
section
variable {X : Cx} {e : Expr} {fa : AF} {p pos tpos : Pos} {elts : List Expr} {kk : Nat}
theorem i_enumL (hg : Gl X "enumerate") (hm : X.mg "enumerate" = none) (ha : PA X [e] (tA ζ X.K fa)) (hs : starEach [e] X.env = [(false, eval e X.env)] := by rfl) : PI X (.Tuple elts kk tpos) (.Call (.Name "enumerate" p) [e] [] pos) (tI ζ X.K (itEnumL fa)) :=
  pi_imp (pi_enum hg hm ha hs) fun σ H Q q => by
  obtain ⟨φ, env, m, src, n, m', S, E, hf, k⟩ := q
  obtain ⟨⟨rs, m1⟩, h1, hf⟩ := bind_some_iff hf
  refine ⟨φ, env, m, rs, m1, S, E, h1, fun φ1 H1 vs g1 S1 R1 => ?_⟩
  simp only at hf
  split at hf
  · rename_i ds
    cases hf
    cases R1 with
    | cons a1 t1 =>
      cases t1
      have a1' : Dp X.K (off φ1 H1) _ (.list ds) := a1
      cases a1' with
      | lst hs ha => exact ⟨_, _, rfl, off_same.seq hs, k φ1 H1 _ g1 S1 (jok_enum hs ha)⟩
  · rename_i j
    split at hf
    · rename_i ds hmj
      cases hf
      cases R1 with
      | cons a1 t1 =>
        cases t1
        obtain ⟨ad, rfl, e2⟩ := a1
        obtain ⟨xs, h3, h4⟩ := S1.obj j _ ad hmj e2
        exact ⟨ad, xs, rfl, .inl (.inl h3), k φ1 H1 _ g1 S1 (jok_enumR e2)⟩
    · cases hf
  · cases hf
end
section
variable {prog : Program} {w : World} {A : Around} {E : Value → Shared → Prop} {s : Shared}
theorem enum_endT {e it l : Addr} {i : Nat} {items : Array Value} {old : Value} {Q : Option Value → Shared → Prop} (hh : A.handled = none)
    (he : IsEnum s.heap e it i old) (hit : s.heap.IsTupleIter it l i) (hl : s.heap.IsTuple l items) (hx : items[i]? = none)
    (hQ : ∀ h', Heap.ExtBut it s.heap h' → Q none { s with heap := h' }) : wpAny (model prog w) A (pyNext (.ref e)) Q E s := by
  have ty : s.TypeIs (.ref e) "enumerate" := ⟨_, he, rfl⟩
  unfold pyNext
  refine wpAny_bind (wpAny_attempt (wpAny_callSpecial?_slot (name := Str.ofString "__next__") ty
    F.slot_enumerate_next (wpAny_call_entry F.slot_enumerate_next ty F.entry_enumerate_next ?_
      (F.args_enumerate_next_1 _))))
  show wpAny _ _ (field (.ref e) 2 >>= _) _ _ _
  refine wpAny_bind (wpAny_field he rfl (x := .ref it) rfl ?_)
  refine wpAny_bind (PySem.wpAny_nextOf_tuple_end hh hit hl hx fun h' x he' ⟨o, ho, hc⟩ => ?_)
  exact wpAny_bind (wpAny_isInstance (T := "StopIteration") (b := true) ⟨o, ho, hc⟩ isSubtype_stop
    (wpAny_pure (hQ _ he')))
theorem meets_enumT (t : Addr) (items : Array Value) :
    Meets (Builtin.«enumerate.__new__» ⟨[.type "enumerate", .ref t], []⟩) (fun _ R s => s.heap.IsTuple t items ∧
      R (.ok (.ret (.ref (s.heap.push { cls := .type "tuple_iterator", data := .fields #[.ref t, .int 0 0] }).objs.size)))
        { s with heap := (s.heap.push { cls := .type "tuple_iterator", data := .fields #[.ref t, .int 0 0] }).push { cls := .type "enumerate", data := .fields #[.none, .bool false, .ref s.heap.objs.size, rawInt 0, .none, .none] } }) :=
  .of_wp fun prog w A R s h => by
    obtain ⟨hp, g, d, tk, os⟩ := s
    obtain ⟨hT, h⟩ := h
    have hsub := sub_enumerate
    have q1 : ∀ {A' : Around} {E : Value → Shared → Prop} {Q : Value → Shared → Prop}, Q (.ref hp.objs.size) ⟨hp.push { cls := .type "tuple_iterator", data := .fields #[.ref t, .int 0 0] }, g, d, tk, os⟩ → wpAny (model prog w) A' (pyIter (.ref t)) Q E ⟨hp, g, d, tk, os⟩ :=
      fun q => wpAny_pyIter_tuple hT q
    wp_walk using q1
    refine wpAny_stack_any fun st => wpAny_pure ?_
    split
    · rename_i c _ _ _ _ _
      cases (c == Value.type "enumerate")
      · wp_walk using q1
        exact ⟨_, rfl, h⟩
      · wp_walk using q1
        exact ⟨_, rfl, h⟩
    · wp_walk using q1
      exact ⟨_, rfl, h⟩
theorem call_enumT {t : Addr} {items : Array Value} {Q : Value → Shared → Prop} (hT : s.heap.IsTuple t items)
    (h : ∀ h', IsEnum h' (s.heap.objs.size + 1) s.heap.objs.size 0 .none → h'.IsTupleIter s.heap.objs.size t 0 → (∀ b o, s.heap.get? b = some o → h'.get? b = some o) → Q (.ref (s.heap.objs.size + 1)) { s with heap := h' }) :
    wpAny (model prog w) A (call (.type "enumerate") [.ref t]) Q E s := by
  refine callType_new F.called_enumerate (by decide) (F.typeCall_enumerate_1 _) (F.newCall_enumerate_1 _)
    (fun obj => F.args_object_init_2 obj _) F.entry_enumerate_new (meets_enumT t items) ⟨hT, ?_⟩
  have hz : (s.heap.push { cls := .type "tuple_iterator", data := .fields #[.ref t, .int 0 0] }).objs.size = s.heap.objs.size + 1 := Heap.size_push ..
  show _ ∧ _
  rw [hz]
  have he : IsEnum ((s.heap.push { cls := .type "tuple_iterator", data := .fields #[.ref t, .int 0 0] }).push { cls := .type "enumerate", data := .fields #[.none, .bool false, .ref s.heap.objs.size, rawInt 0, .none, .none] }) (s.heap.objs.size + 1) s.heap.objs.size 0 .none := by
    have q := Heap.get?_push_size (s.heap.push { cls := .type "tuple_iterator", data := .fields #[.ref t, .int 0 0] }) (o := { cls := .type "enumerate", data := .fields #[.none, .bool false, .ref s.heap.objs.size, rawInt 0, .none, .none] }) rfl
    rw [hz] at q
    exact q
  exact ⟨⟨_, he, rfl⟩, h _ he ⟨_, Heap.get?_push_of_some _ (Heap.get?_push_size _ rfl), rfl, rfl⟩ fun b o x => Heap.get?_push_of_some _ (Heap.get?_push_of_some _ x)⟩
end
/-- the tuple at a, each item in a new pair -/
def ItE (K : PySem.W.Frag) (a : Addr) : It :=
  ⟨fun i H => ∃ (xs : List V) (x : V), SqT K H a xs ∧ xs[i]? = some x, fun i H v H' => ∃ T x, v = .ref T ∧ H T = none ∧ H' = upd H T (.tup [.int (i : Nat), x]) ∧ ∀ xs, SqT K H a xs → xs[i]? = some x, fun i H => ∃ xs : List V, SqT K H a xs ∧ xs.length ≤ i⟩
theorem turn_enumT {P : Program} {w : World} {K : PySem.W.Frag} {elts : List Expr} {kk : Nat} {tpos : Pos} (a e it : Addr) :
    Turn P w K (.Tuple elts kk tpos) (ItE K a) [e, it] e (fun i h => (∃ old, IsEnum h e it ((i : Nat) : Int) old) ∧ h.IsTupleIter it a i ∧ e ≠ it) where
  mem := List.mem_cons_self
  obj := by
    rintro i h ⟨⟨old, he⟩, ⟨o, ho, hc, hd⟩, _⟩ b hb
    rcases List.mem_cons.mp hb with rfl | hb
    · exact ⟨_, he, fun v q => nomatch q⟩
    · obtain rfl := List.mem_singleton.mp hb
      exact ⟨o, ho, fun v q => by rw [hd] at q; cases q⟩
  keep := by
    rintro i h h' ⟨⟨old, he⟩, ⟨o, ho, r⟩, hne⟩ k
    exact ⟨⟨old, k e List.mem_cons_self _ he⟩, ⟨o, k it (by simp) o ho, r⟩, hne⟩
  item := by
    rintro X rfl rfl rfl hc i pins s σ H E I hf ⟨⟨old, he⟩, hit, hne⟩ ⟨xs, x, hq, hx⟩
    obtain ⟨its, rv, p, hz⟩ := I.tuple hq
    obtain ⟨u, hu, ru⟩ := rv.get hx
    have hel : e < s.heap.objs.size := Heap.lt_size he
    have hil : it < s.heap.objs.size := by
      obtain ⟨_, q, _⟩ := hit
      exact Heap.lt_size q
    have nea : e ≠ a := fun z => by
      obtain ⟨o, ho, hcl, _⟩ := p
      have he' : s.heap.get? e = _ := he
      rw [z, ho] at he'
      cases he'
      exact absurd (show Value.type "enumerate" = Value.type "tuple" from hcl) (by decide)
    have nia : a ≠ it := fun z => by
      obtain ⟨o, ho, hcl, _⟩ := p
      obtain ⟨o2, ho2, hc2, _⟩ := hit
      rw [← z, ho] at ho2
      cases ho2
      rw [hcl] at hc2
      exact absurd hc2 (by decide)
    have hul : i < its.toArray.size := by
      have := (List.getElem?_eq_some_iff.mp hu).1
      simpa using this
    refine PySem.wpAny_pyNext_enum_itemC (PySem.Draws.tuple (A := X.A.in1) (I.ok.hd hc) it a nia its.toArray) he ⟨hit, p⟩ hul hne (by simp [hne, nea]) fun z h' tk hP ho hit' hT hsz hk => ?_
    have ez : z = u := by
      have hP' : its.toArray[i]? = some z := hP
      have hP2 : its[i]? = some z := by simpa using hP'
      rw [hu] at hP2
      exact (Option.some.inj hP2).symm
    subst ez
    refine ⟨_, rfl, wpAny_letOwnedTupleGo_enum (s := { s with heap := h', toks := tk + 1 }) ho fun h'' he' sb => ?_⟩
    have hT2 : h''.get? s.heap.objs.size = some { cls := .type "tuple", data := .seq #[.int i tk, z] } := (sb.2 _ (Nat.ne_of_gt hel)).trans hT
    have new : ObjOk X.prog X.w (upd H s.heap.objs.size (.tup [.int (i : Nat), x])) h'' s.heap.objs.size (.tup [.int (i : Nat), x]) :=
      ⟨by show 2 ≤ sizeLine; decide, [.int i tk, z], .cons ⟨_, rfl⟩ (.cons ru .nil), ⟨_, hT2, rfl, _, rfl⟩⟩
    have I1 : Inv X pins σ (upd H s.heap.objs.size (.tup [.int (i : Nat), x])) { s with heap := h'', toks := tk + 1 } :=
      I.turnedNew (ch := [e, it]) (fun b ob hb q => (sb.2 b fun z => hb (by simp [z])).trans (hk b ob (fun z => hb (by simp [z])) (fun z => hb (by simp [z])) q)) hf (Nat.le_refl _) new
    refine ⟨.ref s.heap.objs.size, _, I1, rfl, ⟨_, x, rfl, I.hok.fresh (Nat.le_refl _), rfl, fun ys hy => by rw [I.tuple_inj hy hq]; exact hx⟩, ⟨⟨z, ?_⟩, ?_, hne⟩, fun b hb => ?_⟩
    · have e1 : ((i + 1 : Nat) : Int) = (i : Int) + 1 := by omega
      rw [e1]
      exact he'
    · obtain ⟨⟨o2, ho2, r2⟩, _⟩ := hit'
      exact ⟨o2, (sb.2 it (Ne.symm hne)).trans ho2, r2⟩
    · have hb' : b < s.heap.objs.size := by
        rcases List.mem_cons.mp hb with rfl | hb
        · exact hel
        · obtain rfl := List.mem_singleton.mp hb
          exact hil
      rw [upd_ne (Nat.ne_of_lt hb')]
      exact (hf b hb).1
  done := by
    rintro X rfl rfl rfl hc i pins s σ H E I hf ⟨⟨old, he⟩, hit, hne⟩ ⟨xs, hq, hx⟩
    obtain ⟨its, rv, p, hz⟩ := I.tuple hq
    obtain ⟨f0, f1, f2, f3, f4, f5⟩ := hf it (by simp)
    have hl := rv.length
    have nia : a ≠ it := fun z => by
      obtain ⟨o, ho, hcl, _⟩ := p
      obtain ⟨o2, ho2, hc2, _⟩ := hit
      rw [← z, ho] at ho2
      cases ho2
      rw [hcl] at hc2
      exact absurd hc2 (by decide)
    refine enum_endT (I.ok.hd hc) he hit p (by rw [Array.getElem?_eq_none_iff, List.size_toArray]; omega) fun h' eb => ⟨rfl, I.turned (t' := s.toks) (fun b o hb q => eb b o hb q) f0 f1 f3 f4 f5⟩
  self := fun A i s Q E st h => by
    obtain ⟨⟨_, he⟩, _⟩ := st
    exact wpAny_pyIter_enum he h
def iEnumT (K : PySem.W.Frag) (ta : TA) : TI := fun σ H R => ta σ H fun vs H1 => ∃ a xs, vs = [.ref a] ∧ SqT K H1 a xs ∧ R (ItE K a) H1
theorem pi_enumT {X : Cx} {e : Expr} {ta : TA} {p pos tpos : Pos} {elts : List Expr} {kk : Nat} (hg : Gl X "enumerate") (hm : X.mg "enumerate" = none) (ha : PA X [e] ta) (hs : starEach [e] X.env = [(false, eval e X.env)] := by rfl) :
    PI X (.Tuple elts kk tpos) (.Call (.Name "enumerate" p) [e] [] pos) (iEnumT X.K ta) := by
  refine ⟨fun pins s σ H R I h => ?_⟩
  refine Call_ (ld_blt I hg hm boot_enumerate (PyProof.Rows.callWith_type1 (thn (ha.run pos pins s σ H _ I h)
    fun us s1 ⟨vs, H1, I1, r1, q1⟩ => ?_) hs rfl))
  obtain ⟨a, xs, rfl, hq, q⟩ := q1
  obtain ⟨u, rfl, r⟩ := one_val r1
  cases r
  obtain ⟨its, rv, pt, hz⟩ := I1.tuple hq
  refine call_enumT pt fun h' he hit hk => wpAny_pyIter_enum he ?_
  have I2 : Inv X pins σ H1 { s1 with heap := h' } := I1.kept (t' := s1.toks) hk
  refine ⟨s1.heap.objs.size + 1, [s1.heap.objs.size + 1, s1.heap.objs.size], _, _, H1, rfl, I2, turn_enumT a (s1.heap.objs.size + 1) s1.heap.objs.size, ⟨⟨.none, he⟩, hit, Nat.succ_ne_self _⟩, fun b hb => ?_, q⟩
  have hle : s1.heap.objs.size ≤ b := by
    rcases List.mem_cons.mp hb with rfl | hb
    · exact Nat.le_add_right _ _
    · rw [List.mem_singleton.mp hb]
      exact Nat.le_refl _
  exact I1.fpOk hle (I1.hok.fresh hle)
theorem jok_enumT {K : PySem.W.Frag} {φ : Ad} {H : Hp} {a : Addr} {xs : List V} {ds : List D} (h : SqT K (off φ H) a xs) (hd : DpAll K (off φ H) xs ds) : JOk ζ K (ItE K a) φ H (srcL (enumD ds)) where
  stop := fun φ' H' m i g S e => ⟨xs, (sqT_mono off_same (sqT_mono g.same h)), by
    have e' : (enumD ds)[i]? = none := Option.some.inj e
    rw [enumD_at, Option.map_eq_none_iff] at e'
    rw [DpAll.len hd]
    exact List.getElem?_eq_none_iff.mp e'⟩
  go := fun φ' H' m i d g S e => by
    have e' : (enumD ds)[i]? = some d := Option.some.inj e
    rw [enumD_at, Option.map_eq_some_iff] at e'
    obtain ⟨d', e', _⟩ := e'
    obtain ⟨v, h1, h2⟩ := DpAll.get hd e'
    exact ⟨xs, v, sqT_mono off_same (sqT_mono g.same h), h1⟩
  yld := fun φ' H' m i d x H'' g S e y => by
    have e' : (enumD ds)[i]? = some d := Option.some.inj e
    rw [enumD_at, Option.map_eq_some_iff] at e'
    obtain ⟨d', e', rfl⟩ := e'
    obtain ⟨v, h1, h2⟩ := DpAll.get hd e'
    obtain ⟨T, z, rfl, hT, rfl, y⟩ := y
    have q := y xs (sqT_mono off_same (sqT_mono g.same h))
    rw [h1] at q
    cases q
    exact pair_new S hT (dp_mono g.same h2)
section
variable {X : Cx} {e : Expr} {fa : AF} {p pos tpos : Pos} {elts : List Expr} {kk : Nat}
theorem i_enumT (hg : Gl X "enumerate") (hm : X.mg "enumerate" = none) (ha : PA X [e] (tA ζ X.K fa)) (hs : starEach [e] X.env = [(false, eval e X.env)] := by rfl) : PI X (.Tuple elts kk tpos) (.Call (.Name "enumerate" p) [e] [] pos) (tI ζ X.K (itEnumT fa)) :=
  pi_imp (pi_enumT hg hm ha hs) fun σ H Q q => by
  obtain ⟨φ, env, m, src, n, m', S, E, hf, k⟩ := q
  obtain ⟨⟨rs, m1⟩, h1, hf⟩ := bind_some_iff hf
  refine ⟨φ, env, m, rs, m1, S, E, h1, fun φ1 H1 vs g1 S1 R1 => ?_⟩
  simp only at hf
  split at hf
  · rename_i ds
    cases hf
    cases R1 with
    | cons a1 t1 =>
      cases t1
      have a1' : Dp X.K (off φ1 H1) _ (.tuple ds) := a1
      cases a1' with
      | tup hs ha => exact ⟨_, _, rfl, sqT_mono off_same hs, k φ1 H1 _ g1 S1 (jok_enumT hs ha)⟩
  · cases hf
end
end Ev

set_option Elab.async false
set_option linter.all false
set_option maxRecDepth 100000
/-! list(x), and the end of a law's row. -/
namespace Ev
open PySem PySem.Spec PyProof.Rows L2

/-- T(x) that makes a new list -/
def nList (f : AF) : NF := fun env m => (f env m).bind fun x => match x.1 with
  | [r] => (asLT r x.2).bind fun ds => some (ds, x.2)
  | _ => none
section
variable {X : Cx} {e : Expr} {es : List Expr} {fa : AF} {pos p0 : Pos}
theorem n_list (hg : Gl X "list") (hm : X.mg "list" = none) (ha : PA X (e :: es) (tA ζ X.K fa))
    (he : starEach (e :: es) X.env = (false, eval e X.env) :: starEach es X.env := by rfl) (hpl : (backTo pos (starEach es X.env)).any (·.1) = false := by rfl) : PE X (.Call (.Name "list" p0) (e :: es) [] pos) (tN ζ X.K (nList fa)) :=
  pe_imp (pe_callTy (T := "list") call_list_of hg hm (by decide +kernel) ha (he := he) (hpl := hpl)) fun σ H Q q => by
  obtain ⟨φ, env, m, ds, m', S, E, hf, k⟩ := q
  obtain ⟨⟨rs, m1⟩, h1, hf⟩ := bind_some_iff hf
  refine ⟨φ, env, m, rs, m1, S, E, h1, fun φ1 H1 vs g1 S1 R1 => ?_⟩
  simp only at hf
  split at hf
  · obtain ⟨es, h2, hf⟩ := bind_some_iff hf
    cases hf
    cases R1 with
    | cons a1 t1 =>
      cases t1
      obtain ⟨p, xs, rfl, hs, hd⟩ := seqLT_of S1 a1 h2
      exact ⟨p, xs, rfl, hs, fun l hl => k φ1 H1 l xs g1 S1 hl hd⟩
  · cases hf
end

/-! ### the law's end -/
/-- the law's function at a script -/
def spLaw (K : PySem.W.Frag) (F : Fn) : Sp := fun vs H Q _ => ∃ (a : Addr) (ns : List Int), vs = [.ref a] ∧ SqL K H a (ns.map V.int) ∧ ns.length ≤ 63 ∧ ∃ m, F [.val (.list (ns.map .int))] [] = some (.val (.bool true), m) ∧ ∀ H', Q (.bl true) H'
theorem FnG.imp {P : Program} {w : World} {K : PySem.W.Frag} {mg : Str → Option Value} {base : Heap} {k : Nat} {f : Addr} {fd : FuncData} {ps : List Str} {sp sp' : Sp} (F : FnG P w K mg base k f fd ps sp) (h : ∀ vs H Q E, sp' vs H Q E → sp vs H Q E) : FnG P w K mg base k f fd ps sp' :=
  ⟨fun vs H Q E q => F.len vs H Q E (h _ _ _ _ q), fun A outer s H args us vs Q E hg hr e0 hb hv q => F.go A outer s H args us vs Q E hg hr e0 hb hv (h _ _ _ _ q)⟩
/-- the tables of code objects, all still empty -/
structure TabsAt (K : PySem.W.Frag) (h : Heap) (cs : List (Addr × Addr × Str)) : Prop where
  at_ : ∀ p ∈ cs, h.get? p.2.1 = some { cls := .none, data := .fields #[] }
  out : ∀ p ∈ cs, K.lookup p.2.1 = none
  code : ∀ p ∈ cs, PySem.W.CodeHd h p.1 p.2.1
  nd : (cs.map fun p => p.2.1).Nodup
def tabT (cs : List (Addr × Addr × Str)) : List (Addr × Str) := cs.map fun p => (p.2.1, p.2.2)
theorem law_sp {K : PySem.W.Frag} {F : Fn} {vs : List V} {H : Hp} {Q : VK} {E : XK} (cs : List (Addr × Addr × Str)) (nd : (cs.map fun p => p.2.1).Nodup) (hT : ∀ p ∈ cs, H p.2.1 = some (.tbl #[])) (ha : ∀ a, vs = [.ref a] → a ∉ cs.map fun p => p.2.1) (h : spLaw K F vs H Q E) : spF (tabT cs) K 1 F vs H Q E := by
  obtain ⟨a, ns, rfl, hs, _, m, hF, q⟩ := h
  have na : a ∉ (⟨[], cs.map fun p => p.2.1, tabT cs⟩ : Ad).all := fun z => ha a rfl (by simpa [Ad.all] using z)
  refine ⟨rfl, ⟨[], cs.map fun p => p.2.1, tabT cs⟩, [], [.val (.list (ns.map .int))], .val (.bool true), m, ⟨rfl, by simpa [Ad.all] using nd, fun i o b e => by simp at e, fun b hb => ?_, rfl, fun p hp => ?_, fun p hp => ?_⟩, .cons ?_ .nil, hF, fun φ' H' v g S R => ?_⟩
  · obtain ⟨p, hp, e⟩ := List.mem_map.mp hb
    exact .inr ⟨p.2.2, List.mem_map.mpr ⟨p, hp, by rw [← e]⟩⟩
  · obtain ⟨c, hc, e⟩ := List.mem_map.mp hp
    rw [← e]
    exact List.mem_map.mpr ⟨c, hc, rfl⟩
  · obtain ⟨c, hc, e⟩ := List.mem_map.mp hp
    rw [← e]
    exact LamX.TabS.nil (hT c hc)
  · refine Dp.lst (xs := ns.map V.int) ?_ (dpAll_ints ns)
    rcases hs with hs | hs
    · left
      rcases hs with hs | ⟨o, hs⟩
      · exact .inl (off_some.mpr ⟨na, hs, rfl⟩)
      · exact .inr ⟨o, off_some.mpr ⟨na, hs, rfl⟩⟩
    · exact .inr hs
  · have e := rr_bool R
    subst e
    exact q H'
/-- a promise kept at the caller's own stand -/
theorem law_run {P : Program} {w : World} {K : PySem.W.Frag} {mg mb : Str → Option Value} {k : Nat} {fa a : Addr} {fd : FuncData} {x : Str} {F : Fn} {cs : List (Addr × Addr × Str)} {s₁ : Shared} {vs : List Value} {ns : List Int}
    (KX : K.In s₁.heap) (hns : s₁.heap.Ns mainGlobals mg) (hb : s₁.heap.Ns builtinsNs mb) (hbb : ∀ x : Str, x ≠ "__name__" → mb x = bootBuiltins x) (hlim : s₁.heap.NoLimit) (hg : s₁.gens = #[]) (TA : TabsAt K s₁.heap cs)
    (hbm : cs = [] ∨ ∃ (bm : Addr) (ob : Obj), mg "__builtins__" = some (.ref bm) ∧ bm ≠ builtinsNs ∧ s₁.heap.get? bm = some ob ∧ ob.cls = .type "module" ∧ ob.dict = some builtinsNs ∧ ob.data = .plain)
    (ha : s₁.heap.get? a = some { cls := .type "list", data := .seq vs.toArray }) (hi : IntsAre vs ns) (hl : ns.length ≤ sizeLine) (hr : Room k callerA)
    (FF : ∀ base : Heap, K.In base → base.Ns mainGlobals mg → (∀ p ∈ cs, LamX.TabB base mg p.1 p.2.1) → FnG P w K mg base k fa fd [x] (spF (tabT cs) K 1 F)) (hbind : ∀ (s : Shared) (u : Value), BindsTo s fd ⟨[u], []⟩ [(x, u)])
    (hsp : ∀ H : Hp, SqL K H a (ns.map V.int) → spLaw K F [.ref a] H (fun v _ => v = .bl true) fun _ _ _ => False) :
    codeAny (model P w) callerA (.call (.ref fa) ⟨[.ref a], []⟩) (fun r s' => r = .ok (.ret (.bool true)) ∧ OldK s₁.heap s'.heap ∧ s'.os = s₁.os ∧ AllBare s'.gens) s₁ := by
  have rv := vals_ints hi
  have lv := hi.length
  have isT : ∀ {b : Addr}, b ∈ cs.map (fun p => p.2.1) → s₁.heap.get? b = some { cls := .none, data := .fields #[] } := fun {b} z => by
    obtain ⟨p, hp, e⟩ := List.mem_map.mp z
    rw [← e]
    exact TA.at_ p hp
  have naT : a ∉ cs.map fun p => p.2.1 := fun z => by
    have q := isT z
    rw [ha] at q
    cases q
  -- what is tracked: the script (locked) at most, and the tables
  have main : ∀ H : Hp, (∀ b u, H b = some u → (b = a ∧ u = .frz { cls := .type "list", data := .seq vs.toArray } (.lst (ns.map V.int)) ∧ K.lookup a = none) ∨ (b ∈ (cs.map fun p => p.2.1) ∧ u = .tbl #[])) → (∀ p ∈ cs, H p.2.1 = some (.tbl #[])) → SqL K H a (ns.map V.int) →
      codeAny (model P w) callerA (.call (.ref fa) ⟨[.ref a], []⟩) (fun r s' => r = .ok (.ret (.bool true)) ∧ OldK s₁.heap s'.heap ∧ s'.os = s₁.os ∧ AllBare s'.gens) s₁ := by
    intro H hA hTT hS
    have hok : HOk P w H s₁.heap := fun b u q => by
      rcases hA b u q with ⟨rfl, rfl, _⟩ | ⟨z, rfl⟩
      · exact ⟨ha, by rw [List.length_map]; exact hl, vs, _, rv, ha⟩
      · exact isT z
    -- other objects stand in what lies below
    have below : ∀ {b : Addr} {o : Obj}, s₁.heap.get? b = some o → (∀ xs n, o.data ≠ .seq xs n) → o.data ≠ .fields #[] → (hidT s₁.heap H).get? b = some o := fun {b o} e d1 d2 => hidT_get e (by
      cases q : H b with
      | none => rfl
      | some u =>
        rcases hA b u q with ⟨rfl, _, _⟩ | ⟨z, _⟩
        · rw [ha] at e
          cases e
          exact absurd rfl (d1 _ _)
        · rw [isT z] at e
          cases e
          exact absurd rfl d2)
    have nsB : ∀ {b : Addr} {m : Str → Option Value}, s₁.heap.Ns b m → (hidT s₁.heap H).Ns b m := fun {b m} ⟨o, es, ep, e, d, r⟩ => ⟨o, es, ep, below e (fun _ _ z => by rw [d] at z; cases z) (fun z => by rw [d] at z; cases z), d, r⟩
    have KB : K.In (hidT s₁.heap H) := fun b o e => hidT_get (KX b o e) (by
      cases q : H b with
      | none => rfl
      | some u =>
        rcases hA b u q with ⟨rfl, _, n⟩ | ⟨z, _⟩
        · rw [n] at e
          cases e
        · obtain ⟨p, hp, ep⟩ := List.mem_map.mp z
          rw [← ep, TA.out p hp] at e
          cases e)
    have TB : ∀ p ∈ cs, LamX.TabB (hidT s₁.heap H) mg p.1 p.2.1 := fun p hp => by
      have ht := TA.at_ p hp
      constructor
      · have cd := TA.code p hp
        unfold PySem.W.CodeHd at cd ⊢
        obtain ⟨o, us, file, tf, flags, tg, inF, text, tt, e1, r1, r2, r3, more⟩ := cd
        refine ⟨o, us, file, tf, flags, tg, inF, text, tt, below e1 (fun xs n z => ?_) (fun z => ?_), r1, r2, r3, more⟩ <;> (rw [r2] at z; cases z)
        simp at r3
      · rcases hbm with z | ⟨bm, ob, b1, b2, b3, b4, b5, b6⟩
        · rw [z] at hp
          cases hp
        · have q := below b3 (fun xs n z => by rw [b6] at z; cases z) (fun z => by rw [b6] at z; cases z)
          refine ⟨bm, ob, b1, b2, fun z => ?_, fun z => ?_, q, b4, b5, b6⟩
          · obtain ⟨o, es, ep, e, hd, _⟩ := hns
            rw [z, e] at b3
            cases b3
            rw [hd] at b6
            cases b6
          · rw [z, ht] at b3
            cases b3
            cases b6
      · intro z
        obtain ⟨o, es, ep, e, hd, _⟩ := hns
        rw [z, ht] at e
        cases e
        cases hd
    have hM : Mod K mg (hidT s₁.heap H) := by
      obtain ⟨mc, c1, c2⟩ := hlim
      exact ⟨KB, nsB hns, ⟨mb, nsB hb, hbb⟩, ⟨mc, nsB c1, c2⟩⟩
    have e0 : Env0 P w K mg (hidT s₁.heap H) callerA [] s₁ H := ⟨rfl, hM, fun b o e => of_hidT e, Nat.le_of_eq (hidT_size _ _), trivial, fun b z => absurd z (by simp [frs]), hok, .of_eq hg⟩
    have sp0 := law_sp cs TA.nd hTT (fun b e => by cases e; exact naT) (hsp H hS)
    refine codeAny_mono ((FF _ KB (nsB hns) TB).go callerA [] s₁ H ⟨[.ref a], []⟩ [.ref a] [.ref a] _ _ rfl hr e0 (hbind s₁ (.ref a)) (.cons rfl .nil) sp0) fun r s' h => ?_
    cases r with
    | error e => exact (show False from h).elim
    | ok fl =>
      cases fl with
      | next => exact (show False from h).elim
      | brk => exact (show False from h).elim
      | cont => exact (show False from h).elim
      | ret u =>
        obtain ⟨v, H', os, bare, un, hok', r', q⟩ := h
        have q' : v = .bl true := q
        subst q'
        obtain rfl : u = Value.bool true := r'
        have same : ∀ b o, b ∉ (cs.map fun p => p.2.1) → s₁.heap.get? b = some o → s'.heap.get? b = some o := fun b o nb e => by
          cases q : H b with
          | none => exact un.keep b o e q (by simp [frs]) (by simp)
          | some u =>
            rcases hA b u q with ⟨rfl, rfl, _⟩ | ⟨z, _⟩
            · have z := un.frzs b _ _ q
              obtain ⟨e2, _⟩ := hok' b _ z
              rw [ha] at e
              cases e
              exact e2
            · exact absurd z nb
        have more : ∀ p ∈ cs, ∃ ps : Array Value, s'.heap.get? p.2.1 = some { cls := .none, data := .fields ps } := fun p hp => by
          obtain ⟨ps, z⟩ := un.tbls p.2.1 #[] (hTT p hp)
          exact ⟨_, hok' p.2.1 _ z⟩
        refine ⟨rfl, ⟨fun b o e => ?_, fun b o e => ?_⟩, os, bare⟩
        · by_cases nb : b ∈ cs.map fun p => p.2.1
          · obtain ⟨p, hp, rfl⟩ := List.mem_map.mp nb
            obtain ⟨ps, z⟩ := more p hp
            have e' := isT nb
            rw [e] at e'
            cases e'
            refine .inr (.inl ⟨((TA.code p hp).tab (TA.at_ p hp)).isCodeTable, rfl, #[], ps, rfl, ?_⟩)
            rw [Array.empty_append]
            exact z
          · exact .inl (same b o nb e)
        · by_cases nb : b ∈ cs.map fun p => p.2.1
          · obtain ⟨p, hp, rfl⟩ := List.mem_map.mp nb
            obtain ⟨ps, z⟩ := more p hp
            exact ⟨_, z⟩
          · exact ⟨o, same b o nb e⟩
  cases hk : K.lookup a with
  | some o =>
    have e := KX a o hk
    rw [ha] at e
    cases e
    refine main (fun b => if b ∈ (cs.map fun p => p.2.1) then some (.tbl #[]) else none) (fun b u z => ?_) (fun p hp => if_pos (List.mem_map.mpr ⟨p, hp, rfl⟩)) (.inr ⟨_, vs.toArray, _, hk, rfl, rfl, rfl, by rw [List.size_toArray, lv]; exact hl, by simpa using rv⟩)
    split at z
    · cases z
      exact .inr ⟨by assumption, rfl⟩
    · cases z
  | none =>
    refine main (fun b => if b = a then some (.frz { cls := .type "list", data := .seq vs.toArray } (.lst (ns.map V.int))) else if b ∈ (cs.map fun p => p.2.1) then some (.tbl #[]) else none) (fun b u z => ?_) (fun p hp => ?_) (.inl (.inr ⟨_, if_pos rfl⟩))
    · split at z
      · cases z
        exact .inl ⟨by assumption, rfl, hk⟩
      · split at z
        · cases z
          exact .inr ⟨by assumption, rfl⟩
        · cases z
    · have hm : p.2.1 ∈ cs.map fun p => p.2.1 := List.mem_map.mpr ⟨p, hp, rfl⟩
      show (if p.2.1 = a then _ else _) = _
      rw [if_neg (fun z => naT (by rw [← z]; exact hm)), if_pos hm]
/-- the goal that k_head leaves -/
theorem law_end {l : PySem.W.OpenLaw} {k : Nat} {q : Program} {loose : List Str} {XP : (Str → Option Value) → Heap → Prop} {YP : World → Heap → Prop} {d : DefRec} {F : Fn} {x : Str}
    (hn : l.most = some 63) (hdf : d.params.defaults = []) (hr : Room k callerA)
    (hF : ∀ (w : World) (mg : Str → Option Value) (fa : Addr) (h : Heap), YP w h → h.Ns mainGlobals mg → mg d.name = some (.ref fa) →
      ∃ (K : PySem.W.Frag) (fd : FuncData) (cs : List (Addr × Addr × Str)), K.In h ∧ TabsAt K h cs ∧ (∀ (s : Shared) (u : Value), BindsTo s fd ⟨[u], []⟩ [(x, u)]) ∧ ∀ base : Heap, K.In base → base.Ns mainGlobals mg → (∀ p ∈ cs, LamX.TabB base mg p.1 p.2.1) → FnG l.prog w K mg base k fa fd [x] (spF (tabT cs) K 1 F))
    (law : ∀ ns : List Int, ns.length ≤ 63 → ∃ m, F [.val (.list (ns.map .int))] [] = some (.val (.bool true), m)) :
    PySem.W.WalkO q loose XP YP l.row.toRowW d [] (fun f vs => PySem.call f vs) := by
  refine Att.attach_callB hn hdf fun w s₀ s₁ mg mb fa o pm cd doc a vs ns G Y ho hd hcd hmg hobj hints hlen hbits hg => ?_
  obtain ⟨K, fd, cs, KX, TA, hb, FF⟩ := hF w mg fa _ Y G.T.g hmg
  obtain ⟨bm, ob, b⟩ := G.T.bmain
  exact law_run KX G.T.g G.T.b G.T.builtins G.T.nolimit hg TA (.inr ⟨bm, ob, b⟩) hobj hints (Nat.le_trans hlen (by decide)) hr FF hb fun H hS => ⟨a, ns, rfl, hS, hlen, (law ns hlen).choose, (law ns hlen).choose_spec, fun _ => rfl⟩
end Ev

set_option Elab.async false
set_option linter.all false
set_option maxRecDepth 100000
/-! Rules that serve several kinds at once; what the generator writes. -/
namespace Ev
open PySem PySem.Spec PyProof.Rows L2

/-! ### walks over lists or tuples -/
def itAny (f : EF) : IF := fun env m => (f env m).bind fun x => match x.1 with
  | .val (.tuple ds) => iL ds x.2
  | .val (.list ds) => iL ds x.2
  | .ref k => match x.2[k]? with
    | some (.lst ds) => some ((srcR k, ds.length), x.2)
    | _ => none
  | _ => none
def itEnum (f : AF) : IF := fun env m => (f env m).bind fun x => match x.1 with
  | [.val (.tuple ds)] => iL (enumD ds) x.2
  | [.val (.list ds)] => iL (enumD ds) x.2
  | [.ref k] => match x.2[k]? with
    | some (.lst ds) => some ((srcE k, ds.length), x.2)
    | _ => none
  | _ => none
section
variable {X : Cx} {tg e : Expr} {f : EF} {fa : AF} {p pos tpos : Pos} {elts : List Expr} {kk : Nat}
/-- the list's or the tuple's own iterator -/
theorem iter_lt {pins : List (Addr × Obj)} {σ : L2.St} {s : Shared} {H : Hp} {R : It → Hp → Prop} {a : Addr} {xs : List V} (I : Inv X pins σ H s) (h : (SqL X.K H a xs ∧ R (Itl X.K a) H) ∨ (SqT X.K H a xs ∧ R (Itt X.K a) H)) :
    wpAny (model X.prog X.w) X.A (pyIter (.ref a)) (PIE X pins σ tg R) X.xe s := by
  have fp : ∀ b ∈ [s.heap.objs.size], FpOk X pins H b := fun b hb => by
    rw [List.mem_singleton.mp hb]
    exact I.fpOk (Nat.le_refl _) (I.hok.fresh (Nat.le_refl _))
  rcases h with ⟨hq, q⟩ | ⟨hq, q⟩
  · obtain ⟨its, rv, pl, hz⟩ := I.list hq
    exact wpAny_pyIter_list pl.isList ⟨s.heap.objs.size, [s.heap.objs.size], _, _, H, rfl, I.kept (t' := s.toks) fun b o e => Heap.get?_push_of_some _ e, turn_list a _, ⟨_, Heap.get?_push_size _ rfl, rfl, rfl⟩, fp, q⟩
  · obtain ⟨its, rv, pl, hz⟩ := I.tuple hq
    exact iter_tuple pl ⟨s.heap.objs.size, [s.heap.objs.size], _, _, H, rfl, I.kept (t' := s.toks) fun b o e => Heap.get?_push_of_some _ e, turn_tuple a _, ⟨_, Heap.get?_push_size _ rfl, rfl, rfl⟩, fp, q⟩
theorem i_any (he : PE X e (tE ζ X.K f)) : PI X tg e (tI ζ X.K (itAny f)) := ⟨fun pins s σ H R I q => by
  obtain ⟨φ, env, m, src, n, m', S, E, hf, k⟩ := q
  obtain ⟨⟨r, m1⟩, h1, hf⟩ := bind_some_iff hf
  refine thn (he.run pins s σ H (fun v H1 => ∃ a xs, v = .ref a ∧ ((SqL X.K H1 a xs ∧ R (Itl X.K a) H1) ∨ (SqT X.K H1 a xs ∧ R (Itt X.K a) H1))) I ⟨φ, env, m, r, m1, S, E, h1, fun φ1 H1 v g1 S1 R1 => ?_⟩) fun u s1 ⟨v, H1, I1, rv, a, xs, e, q⟩ => ?_
  · cases r with
    | tp j => first | (cases hf; done) | (cases e; done) | (cases h1; done) | (cases h; done) | (cases h7; done) | (cases h2; done)
    | val d =>
      cases d with
      | list ds =>
        cases hf
        have R1' : Dp X.K (off φ1 H1) v (.list ds) := R1
        cases R1' with
        | lst hs ha => exact ⟨_, _, rfl, .inl ⟨off_same.seq hs, k φ1 H1 _ g1 S1 (jok_list hs ha)⟩⟩
      | tuple ds =>
        cases hf
        have R1' : Dp X.K (off φ1 H1) v (.tuple ds) := R1
        cases R1' with
        | tup hs ha => exact ⟨_, _, rfl, .inr ⟨sqT_mono off_same hs, k φ1 H1 _ g1 S1 (jok_tup hs ha)⟩⟩
      | _ => cases hf
    | ref j =>
      simp only at hf
      split at hf
      · rename_i ds hm
        cases hf
        obtain ⟨ad, e1, e2⟩ := R1
        obtain ⟨xs, h3, h4⟩ := S1.obj j _ ad hm e2
        exact ⟨ad, xs, e1, .inl ⟨.inl (.inl h3), k φ1 H1 _ g1 S1 (jok_live e2)⟩⟩
      · cases hf
  · subst e
    cases rv
    exact iter_lt I1 q⟩
theorem i_enum (hg : Gl X "enumerate") (hm : X.mg "enumerate" = none) (ha : PA X [e] (tA ζ X.K fa)) (hs : starEach [e] X.env = [(false, eval e X.env)] := by rfl) : PI X (.Tuple elts kk tpos) (.Call (.Name "enumerate" p) [e] [] pos) (tI ζ X.K (itEnum fa)) := ⟨fun pins s σ H R I q => by
  obtain ⟨φ, env, m, src, n, m', S, E, hf, k⟩ := q
  obtain ⟨⟨rs, m1⟩, h1, hf⟩ := bind_some_iff hf
  by_cases ht : ∃ ds, rs = [.val (.tuple ds)]
  · obtain ⟨ds, rfl⟩ := ht
    cases hf
    exact (i_enumT hg hm ha hs).run pins s σ H R I ⟨φ, env, m, _, _, m1, S, E, by unfold itEnumT; rw [h1]; rfl, k⟩
  · refine (i_enumL hg hm ha hs).run pins s σ H R I ⟨φ, env, m, src, n, m', S, E, ?_, k⟩
    unfold itEnumL
    rw [h1]
    simp only [Option.bind_some]
    simp only at hf
    split at hf
    · exact absurd ⟨_, rfl⟩ ht
    · exact hf
    · exact hf
    · cases hf⟩
/-- xs[lo:hi], of a list or a tuple -/
def eSl (f : EF) (l h : OF) : EF := fun env m => (f env m).bind fun x => (l env x.2).bind fun y => (h env y.2).bind fun z => match x.1 with
  | .val (.tuple ds) => some (.val (.tuple (cutD ds y.1 z.1)), z.2)
  | r => (asL r z.2).bind fun ds => some (.val (.list (cutD ds y.1 z.1)), z.2)
theorem x_sl {a : Expr} {lo hi : Option Expr} {fl fh : OF} {p2 : Pos} (ha : PE X a (tE ζ X.K f)) (hl : PO X lo (tO' ζ X.K fl)) (hh : PO X hi (tO' ζ X.K fh)) : PE X (.Subscript a (.Slice lo hi none p2) pos) (tE ζ X.K (eSl f fl fh)) := ⟨fun pins s σ H Q I q => by
  obtain ⟨φ, env, m, r, m', S, E, hf, k⟩ := q
  obtain ⟨⟨r1, m1⟩, h1, hf⟩ := bind_some_iff hf
  obtain ⟨⟨o1, m2⟩, h2, hf⟩ := bind_some_iff hf
  obtain ⟨⟨o2, m3⟩, h3, hf⟩ := bind_some_iff hf
  by_cases ht : ∃ ds, r1 = .val (.tuple ds)
  · obtain ⟨ds, rfl⟩ := ht
    exact (x_slT ha hl hh).run pins s σ H Q I ⟨φ, env, m, r, m', S, E, by unfold eSlT; rw [h1]; simp only [Option.bind_some]; rw [h2]; simp only [Option.bind_some]; rw [h3]; exact hf, k⟩
  · simp only at hf
    split at hf
    · exact absurd ⟨_, rfl⟩ ht
    · exact (x_ofN (n_slL ha hl hh)).run pins s σ H Q I ⟨φ, env, m, r, m', S, E, by
        unfold eL nSlL
        rw [h1]
        simp only [Option.bind_some]
        rw [h2]
        simp only [Option.bind_some]
        rw [h3]
        simp only [Option.bind_some]
        obtain ⟨ds, h4, hf⟩ := bind_some_iff hf
        rw [h4]
        exact hf, k⟩⟩
/-- + of ints, tuples, lists -/
def pCatLf (a b : R) (m : M) : Option (R × M) := (asL a m).bind fun xs => (asL b m).bind fun ys => if xs.length + ys.length ≤ sizeLine then some (.val (.list (xs ++ ys)), m) else none
def pPlus : R → R → M → Option (R × M) := pOr pAddN pCatLf
theorem o_catLf : OpR X (binaryOp .Add) (r2P ζ X.K pCatLf) := by
  intro pins s σ H x y v u Q I rx ry q
  obtain ⟨φ, m, r1, r2, r, m', S, R1, R2, hf, k⟩ := q
  obtain ⟨xs, h1, hf⟩ := bind_some_iff hf
  obtain ⟨ys, h2, hf⟩ := bind_some_iff hf
  split at hf
  · rename_i hl
    cases hf
    exact o_catL pins s σ H x y v u Q I rx ry ⟨φ, m, r1, r2, xs, ys, S, R1, R2, h1, h2, hl, fun p vs hp hd => k φ _ _ (gr_alloc hp) (S.alloc hp) (rr_newL S hp hd)⟩
  · cases hf
theorem o_plus : OpR X (binaryOp .Add) (r2P ζ X.K pPlus) := o_or o_add o_catLf
/-- a name of the module -/
theorem x_glob {x : Str} {d : D} {v : V} {u : Value} (hg : Gl X x) (hm : X.mg x = some u) (r : RelV v u) (hv : ∀ H, Dp X.K H v d) (hd : (x == ("__debug__" : Str)) = false := by decide) : PE X (.Name x pos) (tE ζ X.K (eC d)) := x_c (pe_glob hg hm r hd) hv
theorem x_globI {x : Str} {i : Int} (hg : Gl X x) (hm : ∃ t, X.mg x = some (.int i t)) (hd : (x == ("__debug__" : Str)) = false := by decide) : PE X (.Name x pos) (tE ζ X.K (eC (.int i))) := by
  obtain ⟨t, hm⟩ := hm
  exact x_glob (v := .int i) hg hm ⟨t, rfl⟩ (fun _ => .int i) hd
/-! patterns -/
theorem p_name {i : Nat} {x : Str} (hN : X.N.Nodup) (hi : X.N[i]? = some x) (hx : Loc X.env.scope x) (hf : X.fn x = true ∨ X.env.scope.names.lookup x = some .local := by first | exact .inl rfl | exact .inr rfl | assumption) : PG X (.Name x pos) (gPat ζ X.K (.nm i)) := by
  rw [gPat]
  exact pg_name hN hi hx hf
theorem p_nil : PGs X [] (gPats ζ X.K .nil) := by
  rw [gPats]
  exact pgs_nil
theorem p_cons {es : List Expr} {q : Pat} {qs : Pats} (h1 : PG X e (gPat ζ X.K q)) (h2 : PGs X es (gPats ζ X.K qs)) (hs : (assignEach (e :: es) X.env).map (·.2) = assign e X.env :: (assignEach es X.env).map (·.2) := by rfl) : PGs X (e :: es) (gPats ζ X.K (.cons q qs)) := by
  rw [gPats]
  exact pgs_cons h1 h2 hs
theorem p_tup {es : List Expr} {k : Nat} {qs : Pats} (hc : X.calm = true) (h : PGs X es (gPats ζ X.K qs)) (hn : (assignEach es X.env).length = qs.len := by rfl) (hst : (assignEach es X.env).findIdx? (·.1) = none := by rfl) : PG X (.Tuple es k pos) (gPat ζ X.K (.tp qs)) := by
  rw [gPat]
  exact pg_tup hc h hn hst
/-! a, b, .. = x, y, .. by a tuple that is laid and taken apart -/
def setAll : List Nat → List R → Sl → Option Sl
  | [], [], env => some env
  | i :: is, r :: rs, env => setAll is rs (env.set i (some r))
  | _, _, _ => none
def sParG (is : List Nat) (f : AF) : SF := fun env m => (f env m).bind fun x => if x.1.length ≤ sizeLine then (setAll is x.1 env).bind fun e => some (.nx e x.2) else none
def gNames (is : List Nat) : TGs := match is with
  | [] => gNil
  | i :: is => gCons (gName i) (gNames is)
theorem gn_nil : PGs X [] (gNames []) := pgs_nil
theorem gn_cons {i : Nat} {is : List Nat} {x : Str} {es : List Expr} (hN : X.N.Nodup) (hi : X.N[i]? = some x) (hx : Loc X.env.scope x) (h : PGs X es (gNames is)) (hs : (assignEach (.Name x pos :: es) X.env).map (·.2) = assign (.Name x pos) X.env :: (assignEach es X.env).map (·.2) := by rfl)
    (hf : X.fn x = true ∨ X.env.scope.names.lookup x = some .local := by first | exact .inl rfl | exact .inr rfl | assumption) : PGs X (.Name x pos :: es) (gNames (i :: is)) := pgs_cons (pg_name hN hi hx hf) h hs
theorem gn_ok {K : PySem.W.Frag} {φ : Ad} {H : Hp} : ∀ {is : List Nat} {rs : List R} {vs : List V} {σ : L2.St} {env env' : Sl} {Q : L2.St → Hp → Prop}, ER K φ H σ env → RRs K φ H vs rs → setAll is rs env = some env' → (∀ σ', ER K φ H σ' env' → Q σ' H) → gNames is vs σ H Q
  | [], [], _, _, _, _, _, E, R, e, q => by
    cases e
    cases R
    exact ⟨rfl, q _ E⟩
  | i :: is, r :: rs, _, _, _, _, _, E, R, e, q => by
    cases R with
    | cons a t => exact ⟨_, _, rfl, gn_ok (E.set a i) t e q⟩
  | [], _ :: _, _, _, _, _, _, _, _, e, _ => by cases e
  | _ :: _, [], _, _, _, _, _, _, _, e, _ => by cases e
theorem s_parG {is : List Nat} {es ts : List Expr} {kt k2 : Nat} {pt pt2 : Pos} (hc : X.calm = true) (ha : PA X es (tA ζ X.K fa)) (hg : PGs X ts (gNames is)) (hn : (assignEach ts X.env).length = is.length := by rfl) (hst : (assignEach ts X.env).findIdx? (·.1) = none := by rfl)
    (hs : swapsWithSole [.Tuple ts kt pt] (.Tuple es k2 pt2) pos.line X.env = pure false := by rfl) (hw : swappedStores [.Tuple ts kt pt] (.Tuple es k2 pt2) X.env = pure none := by rfl) (h1 : (assignEach [.Tuple ts kt pt] X.env).map (·.2) = [assign (.Tuple ts kt pt) X.env] := by rfl) :
    PS X (.Assign [.Tuple ts kt pt] (.Tuple es k2 pt2) pos) (tS ζ X.K (sParG is fa)) := ps_imp (ps_asg (pe_tup ha) (pg_tup hc hg hn hst) hs hw h1) fun W σ H q => by
  obtain ⟨φ, env, m, fl, S, E, hf, k⟩ := q
  obtain ⟨⟨rs, m1⟩, h1, hf⟩ := bind_some_iff hf
  split at hf
  · rename_i hl
    obtain ⟨e1, h2, hf⟩ := bind_some_iff hf
    cases hf
    refine ⟨φ, env, m, rs, m1, S, E, h1, fun φ1 H1 vs g1 S1 R1 => ⟨by rw [Paired.len R1]; exact hl, fun p hp => ?_⟩⟩
    have g2 := g1.trans (gr_alloc (o := .tup vs) hp)
    have hlen : rs.length = is.length := len_setAll h2
    exact ⟨p, vs, rfl, .inl (.inl upd_same), by rw [Paired.len R1]; exact hlen, gn_ok (E.mono g2) (RRs.mono (gr_alloc (o := .tup vs) hp) R1) h2 fun σ' E' => k φ1 σ' _ g2 (S1.alloc hp) E'⟩
  · cases hf
where
  len_setAll : ∀ {is : List Nat} {rs : List R} {env env' : Sl}, setAll is rs env = some env' → rs.length = is.length
    | [], [], _, _, _ => rfl
    | i :: is, r :: rs, _, _, e => by
      rw [List.length_cons, List.length_cons, len_setAll (is := is) (rs := rs) e]
    | [], _ :: _, _, _, e => by cases e
    | _ :: _, [], _, _, e => by cases e
/-! tuple * int, at least two -/
def pRepT (a b : R) (m : M) : Option (R × M) := match a with
  | .val (.tuple ds) => (asI b).bind fun k => if ds ≠ [] ∧ 2 ≤ k ∧ k ≤ 1000 ∧ ds.length ≤ 1000 then some (.val (.tuple (List.replicate k.toNat ds).flatten), m) else none
  | _ => none
theorem o_repT : OpR X (binaryOp .Mult) (r2P ζ X.K pRepT) := by
  intro pins s σ H x y v u Q I rx ry q
  obtain ⟨φ, m, r1, r2, r, m', S, R1, R2, hf, k⟩ := q
  unfold pRepT at hf
  split at hf
  · rename_i ds
    obtain ⟨n, h2, hf⟩ := bind_some_iff hf
    split at hf
    · rename_i hc
      cases hf
      have e2 := asI_some h2
      subst e2
      obtain ⟨a, xs, rfl, hs, hd⟩ := seqT_of R1
      have hn := DpAll.len hd
      have hne : xs ≠ [] := fun z => hc.1 (List.length_eq_zero_iff.mp (by rw [← hn, z]; rfl))
      exact op_repT pins s σ H _ _ v u Q I rx ry ⟨a, n, xs, rfl, rr_int R2, hs, hne, hc.2.1, hc.2.2.1, by rw [hn]; exact hc.2.2.2, fun p hp => k φ _ _ (gr_alloc hp) (S.alloc hp) (rr_newT S hp (DpAll.rep hd _))⟩
    · cases hf
  · cases hf
end
/-! how many arguments -/
theorem la_nil : ∀ env m rs m', aNil env m = some (rs, m') → rs.length = 0 := fun env m rs m' h => by
  cases h
  rfl
theorem la_cons {f : EF} {g : AF} {n : Nat} (h : ∀ env m rs m', g env m = some (rs, m') → rs.length = n) : ∀ env m rs m', aCons f g env m = some (rs, m') → rs.length = n + 1 := fun env m rs m' e => by
  obtain ⟨⟨r1, m1⟩, h1, e⟩ := bind_some_iff e
  obtain ⟨⟨r2, m2⟩, h2, e⟩ := bind_some_iff e
  cases e
  rw [List.length_cons, h _ _ _ _ h2]
end Ev

set_option Elab.async false
set_option linter.all false
set_option maxRecDepth 100000
/-! xs[::-1]; what a def of the module is to its callers. -/
namespace Ev
open PySem PySem.Spec PyProof.Rows L2

section
variable {prog : Program} {w : World} {A : Around} {E : Value → Shared → Prop} {s : Shared}
theorem pick_back (xs : Array Value) : ((List.range xs.size).filterMap fun (m : Nat) => xs[(((xs.size : Int) - 1) + (m : Int) * (-1)).toNat]?).toArray = xs.toList.reverse.toArray := by
  have e : ((List.range xs.size).filterMap fun (m : Nat) => xs[(((xs.size : Int) - 1) + (m : Int) * (-1)).toNat]?) = (List.range xs.size).filterMap fun m => xs.toList.reverse[m]? := by
    have cg : ∀ (l : List Nat) (f g : Nat → Option Value), (∀ m ∈ l, f m = g m) → l.filterMap f = l.filterMap g := by
      intro l f g h
      induction l with
      | nil => rfl
      | cons a l ih => rw [List.filterMap_cons, List.filterMap_cons, h a List.mem_cons_self, ih fun m hm => h m (List.mem_cons_of_mem _ hm)]
    refine cg _ _ _ fun m hm => ?_
    have h := List.mem_range.mp hm
    rw [show (((xs.size : Int) - 1) + (m : Int) * (-1)).toNat = xs.size - 1 - m by omega, List.getElem?_reverse (by rw [Array.length_toList]; exact h), Array.length_toList, Array.getElem?_toList]
  rw [e]
  have h2 : xs.size = xs.toList.reverse.length := by simp
  rw [h2]
  congr 1
  have key : ∀ l : List Value, (List.range l.length).filterMap (fun m => l[m]?) = l := by
    intro l
    induction l with
    | nil => rfl
    | cons a l ih =>
      rw [List.length_cons, List.range_succ_eq_map, List.filterMap_cons]
      simp only [List.getElem?_cons_zero, List.filterMap_map]
      congr 1
  exact key _
theorem getItem_tuple_back {t sl : Addr} {items : Array Value} {vl vu vs : Value} {Q : Value → Shared → Prop} (ht : IsTup s.heap t items) (hs : s.heap.IsSliceOf sl vl vu vs) (pl : IsPart vl none) (pu : IsPart vu none) (ps : IsPart vs (some (-1)))
    (h : Q (.ref s.heap.objs.size) { s with heap := s.heap.push { cls := .type "tuple", data := .seq items.toList.reverse.toArray } })
    (hsz : items.size ≤ sizeLine) : wpAny (model prog w) A (getItem (.ref t) (.ref sl)) Q E s := by
  have htake : sizeOk (.seq items.toList.reverse.toArray) := by
    show items.toList.reverse.toArray.size ≤ sizeLine
    simp
    exact hsz
  obtain ⟨os, hos, hcs, hds⟩ := id hs
  have hTs : s.TypeIs (.ref sl) "slice" := ⟨os, hos, hcs⟩
  unfold getItem
  try with_reducible refine wpAny_holding ?_
  first | refine wpAny_bind (wpAny_pure ?_) | skip
  refine wpAny_bind (wpAny_sequenceKey ht.typeIs (by decide) ?_)
  refine wpAny_bind (wpAny_callSpecial?_slot (name := Str.ofString "__getitem__") ht.typeIs PyProof.Rows.slot_tuple_getitem
    (wpAny_call_entry PyProof.Rows.slot_tuple_getitem ht.typeIs entry_tuple_getitem ?_ (args_tuple_getitem _ _)))
  show wpAny _ _ (Builtin.Tuple.tupleItemsOf (.ref t) >>= _) _ _ s
  refine wpAny_bind (PyProof.Rows.tupleItemsOf_ ht ?_)
  refine wpAny_bind (wpAny_typeOf hTs ?_)
  rw [if_pos (by decide)]
  have places : Builtin.Slice.slicePlaces ((items.size : Int) - 1) (-1) (-1) = items.size := by
    unfold Builtin.Slice.slicePlaces
    have h1 : ¬ ((-1 : Int) > 0) := by decide
    simp only [h1, if_false, Int.neg_neg, Int.ediv_one]
    split <;> omega
  refine wpAny_bind ?_
  · unfold Builtin.Slice.sliceApplied Builtin.Slice.sliceFields
    refine wpAny_bind (wpAny_bind (wpAny_field hos hds (x := vl) rfl (wpAny_bind (wpAny_field hos hds (x := vu) rfl (wpAny_bind (wpAny_field hos hds (x := vs) rfl (wpAny_pure ?_)))))))
    refine wpAny_bind (HT.slicePart_ ps ?_)
    show wpAny _ _ (if ((-1 : Int) == 0) = true then _ else _) _ _ s
    rw [if_neg (by decide)]
    refine wpAny_bind (HT.slicePart_ pl (wpAny_bind (HT.slicePart_ pu (wpAny_bind (wpAny_pure ?_)))))
    show wpAny _ _ (pure (((items.size : Int) - 1), (-1 : Int), Builtin.Slice.slicePlaces ((items.size : Int) - 1) (-1) (-1))) _ _ s
    rw [places]
    refine wpAny_pure ?_
    have hno : ¬ (((((items.size : Int) - 1)) == 0 && (-1 : Int) == 1 && items.size == items.size) = true) := by
      intro q
      rw [Bool.and_eq_true, Bool.and_eq_true] at q
      exact absurd q.1.2 (by decide)
    show wpAny _ _ (if ((((items.size : Int) - 1)) == 0 && (-1 : Int) == 1 && items.size == items.size) = true then _ else _) _ _ s
    rw [if_neg hno, pick_back]
    first
      | exact wpAny_bind (m := Builtin.Tuple.tupleExact _) (wpAny_newObj_type (wpAny_pure ⟨_, rfl, wpAny_pure h⟩) htake)
      | exact wpAny_bind (m := Builtin.Tuple.tupleExact _) (wpAny_newObj_type (wpAny_bind (wpAny_pure (wpAny_pure ⟨_, rfl, wpAny_pure h⟩))) htake)
      | exact wpAny_bind (wpAny_bind (m := Builtin.Tuple.tupleExact _) (wpAny_newObj_type (wpAny_pure (wpAny_pure ⟨_, rfl, wpAny_pure h⟩)) htake))
      | exact wpAny_bind (wpAny_bind (m := Builtin.Tuple.tupleExact _) (wpAny_newObj_type (wpAny_pure ⟨_, rfl, wpAny_pure h⟩) htake))
end
def tRevT (K : PySem.W.Frag) (te : TE) : TE := fun σ H Q => te σ H fun x H1 => ∃ a xs, x = .ref a ∧ SqT K H1 a xs ∧ ∀ p, H1 p = none → Q (.ref p) (upd H1 p (.tup xs.reverse))
section
variable {X : Cx}
theorem pe_revT {e : Expr} {te : TE} {k : Nat} {p1 p2 p3 pos : Pos} (he : PE X e te) : PE X (.Subscript e (.Slice none none (some (.UnaryOp .USub (.Constant (.int 1) k p1) p2)) p3) pos) (tRevT X.K te) := by
  refine ⟨fun pins s σ H Q I h => ?_⟩
  refine Subscript_ (thn (he.run pins s σ H _ I h) fun v s1 ⟨x, H1, I1, r1, q1⟩ => ?_)
  obtain ⟨a, xs, ex, hx, q⟩ := q1
  subst ex
  cases r1
  have hst : PO X (some (.UnaryOp .USub (.Constant (.int 1) k p1) p2)) (tPart (tUn (rU fun i => .int (-i)) (tC (.int 1)))) := po_some (pe_un un_neg pe_int)
  refine wpAny_Slice (thn (po_none.run pins s1 σ H1 (fun o H2 => o = none ∧ H2 = H1) I1 ⟨rfl, rfl⟩) fun vl s2 ⟨l, H2, I2, pl, el, e2⟩ => ?_)
  subst el e2
  refine thn (po_none.run pins s2 σ H2 (fun o H3 => o = none ∧ H3 = H2) I2 ⟨rfl, rfl⟩) fun vu s3 ⟨u, H3, I3, pu, eu, e3⟩ => ?_
  subst eu e3
  refine thn (hst.run pins s3 σ H3 (fun o H4 => o = some (-1) ∧ H4 = H3) I3 ⟨1, rfl, -1, rfl, rfl, rfl⟩) fun vs s4 ⟨o, H4, I4, ps, eo, e4⟩ => ?_
  subst eo e4
  have I5 : Inv X pins σ H4 { s4 with heap := s4.heap.push { cls := .type "slice", data := .fields #[vl, vu, vs] } } := I4.kept (t' := s4.toks) fun b ob q => Heap.get?_push_of_some _ q
  obtain ⟨its, r, ht, hz⟩ := I5.tuple hx
  have hlen := r.length
  show wpAny (model X.prog X.w) X.A (subscriptTail e (.Slice none none (some (.UnaryOp .USub (.Constant (.int 1) k p1) p2)) p3) (.ref a) (.ref s4.heap.objs.size)) (EP X pins σ Q) X.xe { s4 with heap := s4.heap.push { cls := .type "slice", data := .fields #[vl, vu, vs] } }
  refine tail_any (ops := [.ref a, .ref s4.heap.objs.size]) ht.typeIs (PyProof.Rows.slot_tuple_getitem.lookup) ?_ (by with_unfolding_all rfl)
  refine getItem_tuple_back ht (Heap.IsSliceOf.new _ vl vu vs) pl pu ps ?_ (by rw [List.size_toArray]; omega)
  refine ⟨.ref _, _, I5.laid (t' := s4.toks) (o := .tup xs.reverse) (fun b ob q => Heap.get?_push_of_some _ q) (Nat.le_refl _) ?_, rfl, q _ (I5.hok.fresh (Nat.le_refl _))⟩
  exact ⟨by rw [List.length_reverse]; exact hz, _, r.reverse, IsTup.new _ _⟩
theorem DpAll.rev {K : PySem.W.Frag} {H : Hp} : ∀ {ds : List D} {vs : List V}, DpAll K H vs ds → DpAll K H vs.reverse ds.reverse
  | [], [], _ => .nil
  | _ :: _, _ :: _, .cons a t => by
    rw [List.reverse_cons, List.reverse_cons]
    exact DpAll.append (DpAll.rev t) (.cons a .nil)
/-- xs[::-1] -/
def eRev (f : EF) : EF := fun env m => (f env m).bind fun x => match x.1 with
  | .val (.tuple ds) => some (.val (.tuple ds.reverse), x.2)
  | r => (asL r x.2).bind fun ds => some (.val (.list ds.reverse), x.2)
theorem x_rev {a : Expr} {f : EF} {k : Nat} {p1 p2 p3 pos : Pos} (ha : PE X a (tE ζ X.K f)) : PE X (.Subscript a (.Slice none none (some (.UnaryOp .USub (.Constant (.int 1) k p1) p2)) p3) pos) (tE ζ X.K (eRev f)) := ⟨fun pins s σ H Q I q => by
  obtain ⟨φ, env, m, r, m', S, E, hf, k⟩ := q
  obtain ⟨⟨r1, m1⟩, h1, hf⟩ := bind_some_iff hf
  by_cases ht : ∃ ds, r1 = .val (.tuple ds)
  · obtain ⟨ds, rfl⟩ := ht
    cases hf
    exact (pe_revT ha).run pins s σ H Q I ⟨φ, env, m, _, _, S, E, h1, fun φ1 H1 v g1 S1 R1 => by
      obtain ⟨a, xs, rfl, hs, hd⟩ := seqT_of R1
      exact ⟨a, xs, rfl, hs, fun p hp => k φ1 _ _ (g1.trans (gr_alloc hp)) (S1.alloc hp) (rr_newT S1 hp (DpAll.rev hd))⟩⟩
  · simp only at hf
    split at hf
    · exact absurd ⟨_, rfl⟩ ht
    · obtain ⟨ds, h4, hf⟩ := bind_some_iff hf
      cases hf
      exact (pe_revL ha).run pins s σ H Q I ⟨φ, env, m, _, _, S, E, h1, fun φ1 H1 v g1 S1 R1 => by
        obtain ⟨a, xs, rfl, hs, hd⟩ := seqL_of S1 R1 h4
        exact ⟨a, xs, rfl, hs, fun p hp => k φ1 _ _ (g1.trans (gr_alloc hp)) (S1.alloc hp) (rr_newL S1 hp (DpAll.rev hd))⟩⟩⟩
end

/-! ### a def of the module -/
def HasDef (K : PySem.W.Frag) (mg : Str → Option Value) (x nm : Str) (st : Stmt) (ps : List Str) : Prop := ∃ f fd, mg x = some (.ref f) ∧ Fun K nm nm st f fd ∧ ∀ us : List Value, us.length = ps.length → bindArgs fd ⟨us, []⟩ = pure (ps.zip us)
def Okd (ζ : Tbs) (P : Program) (w : World) (K : PySem.W.Frag) (mg : Str → Option Value) (base : Heap) (k : Nat) (x : Str) (ps : List Str) (F : Fn) : Prop :=
  ∃ f fd, mg x = some (.ref f) ∧ PySem.W.keepIn K (.ref f) = true ∧ (∃ oc od osl, K.lookup f = some ⟨oc, od, .func fd, osl⟩) ∧ (∀ us : List Value, us.length = ps.length → bindArgs fd ⟨us, []⟩ = pure (ps.zip us)) ∧ FnG P w K mg base k f fd ps (spF ζ K ps.length F)
section
variable {P : Program} {w : World} {K : PySem.W.Frag} {mg : Str → Option Value} {base : Heap}
theorem hasDef {x nm : Str} {st : Stmt} {ps : List Str} {h : Heap} {f : Addr} {oc : Value} {od an : Option Addr} {osl : Array (Option Value)} {kV doc pm cdv ct : Value} (X : K.In h) (G : h.Ns mainGlobals mg)
    (b : ∀ (kV doc pm : Value) (an : Option Addr) (cdv ct : Value) (us : List Value), us.length = ps.length → bindArgs (PySem.W.fnOf nm nm (defArgs st) (defBody st) (defScope st) .none kV doc pm an cdv ct) ⟨us, []⟩ = pure (ps.zip us))
    (a : PySem.W.nsIn K mainGlobals x = some (some (.ref f))) (l : K.lookup f = some ⟨oc, od, .func (PySem.W.fnOf nm nm (defArgs st) (defBody st) (defScope st) .none kV doc pm an cdv ct), osl⟩)
    (c : PySem.W.codeIn K cdv nm = true) (k : PySem.W.keepIn K (.ref f) = true) : HasDef K mg x nm st ps :=
  ⟨f, _, PySem.W.mg_of X G a, fun_mk l c k, b _ _ _ _ _ _⟩
theorem okd_of {x nm : Str} {st : Stmt} {ps : List Str} {k : Nat} {Fm : Fn} (D : HasDef K mg x nm st ps) (h : ∀ f fd, Fun K nm nm st f fd → FnG P w K mg base k f fd ps (spF ζ K ps.length Fm)) : Okd ζ P w K mg base k x ps Fm := by
  obtain ⟨f, fd, hm, F, hB⟩ := D
  obtain ⟨oc, od, kV, doc, pm, an, cdv, ct, osl, e, l, c⟩ := F.ex
  exact ⟨f, fd, hm, F.kp, ⟨oc, od, osl, l⟩, hB, h f fd F⟩
theorem okd {x nm : Str} {st : Stmt} {N ps : List Str} {k n : Nat} {body : SF} (D : HasDef K mg x nm st ps) (S : FnScope N ps (defScope st)) (hn : N.length = n)
    (hb : ∀ f cdv A outer s H E, A.guards = some [] → Room k (A.deeper (envOfC nm (defScope st) s.heap.objs.size f cdv)) → PSs (Cf P w K mg base N nm st f cdv A outer s H E) (defBody st) (tS ζ K body)) : Okd ζ P w K mg base (k + 1) x ps (bodyF n body) :=
  okd_of D fun f fd F => fnF F S hn fun cdv A outer s H E _ => hb f cdv A outer s H E
theorem okdK {x nm : Str} {st : Stmt} {N ps : List Str} {k n : Nat} {body : SF} (D : HasDef K mg x nm st ps) (S : FnScope N ps (defScope st)) (hn : N.length = n)
    (hb : ∀ f cdv A outer s H E, A.guards = some [] → Room k (A.deeper (envOfC nm (defScope st) s.heap.objs.size f cdv)) → PSs (Cf P w K mg base N nm st f cdv A outer s H E) (defBody st) (tS ζ K body)) : Okd ζ P w K mg base (k + 1) x ps (bodyK n body) :=
  okd_of D fun f fd F => fnK F S hn fun cdv A outer s H E _ => hb f cdv A outer s H E
theorem endO {x nm : Str} {st : Stmt} {p : Str} {k : Nat} {Fm : Fn} {fa : Addr} {h : Heap} {cs : List (Addr × Addr × Str)} (X : K.In h) (D : HasDef K mg x nm st [p]) (TA : TabsAt K h cs) (O : ∀ base : Heap, (∀ p ∈ cs, LamX.TabB base mg p.1 p.2.1) → Okd (tabT cs) P w K mg base k x [p] Fm) (hmg : mg x = some (.ref fa)) :
    ∃ (K : PySem.W.Frag) (fd : FuncData) (cs : List (Addr × Addr × Str)), K.In h ∧ TabsAt K h cs ∧ (∀ (s : Shared) (u : Value), BindsTo s fd ⟨[u], []⟩ [(p, u)]) ∧ ∀ base : Heap, K.In base → base.Ns mainGlobals mg → (∀ p ∈ cs, LamX.TabB base mg p.1 p.2.1) → FnG P w K mg base k fa fd [p] (spF (tabT cs) K 1 Fm) := by
  obtain ⟨f, fd, hm, F, hB⟩ := D
  obtain ⟨oc, od, kV, doc, pm, an, cdv, ct, osl, e, l, c⟩ := F.ex
  rw [hm] at hmg
  cases hmg
  refine ⟨K, fd, cs, X, TA, fun s u => .of_eq (hB [u] rfl), fun base _ _ TB => ?_⟩
  obtain ⟨f2, fd2, hm2, _, ⟨oc2, od2, osl2, l2⟩, _, G⟩ := O base TB
  rw [hm] at hm2
  cases hm2
  rw [l] at l2
  cases l2
  exact G
end
theorem x_callO {X : Cx} {k : Nat} {ps : List Str} {x : Str} {p pos : Pos} {e : Expr} {es : List Expr} {fa : AF} {F : Fn} (O : Okd ζ X.prog X.w X.K X.mg X.base k x ps F) (hr : Room k X.A) (hgd : X.A.guards = some []) (hg : Gl X x)
    (ha : PA X (e :: es) (tA ζ X.K fa)) (hl : ∀ env m rs m', fa env m = some (rs, m') → rs.length = ps.length) (hdb : (x == ("__debug__" : Str)) = false := by decide) (he : starEach (e :: es) X.env = (false, eval e X.env) :: starEach es X.env := by rfl) (hpl : (backTo pos (starEach es X.env)).any (·.1) = false := by rfl) :
    PE X (.Call (.Name x p) (e :: es) [] pos) (tE ζ X.K (eAp F fa)) := by
  obtain ⟨f, fd, hm, hk, _, hB, G⟩ := O
  exact x_call G hr hgd hg hm hk (.all hB) rfl ha hl hdb he hpl
/-- .. whose code object is known (it makes lambdas) -/
def HasCode (K : PySem.W.Frag) (mg : Str → Option Value) (x nm : Str) (st : Stmt) (ps : List Str) (c : Addr) : Prop := ∃ f fd, mg x = some (.ref f) ∧ Fun K nm nm st f fd ∧ fd.code = .ref c ∧ ∀ us : List Value, us.length = ps.length → bindArgs fd ⟨us, []⟩ = pure (ps.zip us)
section
variable {P : Program} {w : World} {K : PySem.W.Frag} {mg : Str → Option Value} {base : Heap}
theorem HasCode.def_ {x nm : Str} {st : Stmt} {ps : List Str} {c : Addr} (D : HasCode K mg x nm st ps c) : HasDef K mg x nm st ps := by
  obtain ⟨f, fd, a, b, _, e⟩ := D
  exact ⟨f, fd, a, b, e⟩
theorem okdC {x nm : Str} {st : Stmt} {N ps : List Str} {k n : Nat} {body : SF} {c : Addr} (D : HasCode K mg x nm st ps c) (S : FnScope N ps (defScope st)) (hn : N.length = n)
    (hb : ∀ f A outer s H E, A.guards = some [] → Room k (A.deeper (envOfC nm (defScope st) s.heap.objs.size f (.ref c))) → PSs (Cf P w K mg base N nm st f (.ref c) A outer s H E) (defBody st) (tS ζ K body)) : Okd ζ P w K mg base (k + 1) x ps (bodyF n body) := by
  obtain ⟨f, fd, hm, F, hc, hB⟩ := D
  obtain ⟨oc, od, kV, doc, pm, an, cdv, ct, osl, e, l, cd⟩ := F.ex
  exact ⟨f, fd, hm, F.kp, ⟨oc, od, osl, l⟩, hB, fnF F S hn fun cdv A outer s H E e2 hg hr => by
    have e3 : cdv = .ref c := e2.symm.trans hc
    subst e3
    exact hb f A outer s H E hg hr⟩
end
/-! ### the known part of the heap, tables left out -/
def cutK (K : PySem.W.Frag) (ts : List Addr) : PySem.W.Frag := K.filter fun q => !ts.contains q.1
theorem cutK_out {ts : List Addr} {a : Addr} (h : ts.contains a = false) : ∀ {K : PySem.W.Frag}, (cutK K ts).lookup a = K.lookup a
  | [] => rfl
  | (b, o) :: K => by
    have ih := cutK_out h (K := K)
    unfold cutK at ih ⊢
    rw [List.filter_cons, List.lookup_cons]
    by_cases hb : ts.contains b = true
    · have nab : (a == b) = false := beq_eq_false_iff_ne.mpr fun z => by
        rw [z, hb] at h
        cases h
      simp only [hb, Bool.not_true, Bool.false_eq_true, if_false, nab]
      exact ih
    · have hb' : ts.contains b = false := by simpa using hb
      simp only [hb', Bool.not_false, if_true, List.lookup_cons]
      cases a == b
      · exact ih
      · rfl
theorem cutK_none {ts : List Addr} {a : Addr} (h : ts.contains a = true) : ∀ {K : PySem.W.Frag}, (cutK K ts).lookup a = none
  | [] => rfl
  | (b, o) :: K => by
    have ih := cutK_none h (K := K)
    unfold cutK at ih ⊢
    rw [List.filter_cons]
    by_cases hb : ts.contains b = true
    · simp only [hb, Bool.not_true, Bool.false_eq_true, if_false]
      exact ih
    · have hb' : ts.contains b = false := by simpa using hb
      have nab : (a == b) = false := beq_eq_false_iff_ne.mpr fun z => by
        rw [z, hb'] at h
        cases h
      simp only [hb', Bool.not_false, if_true, List.lookup_cons, nab]
      exact ih
theorem cutK_In {K : PySem.W.Frag} {ts : List Addr} {h : Heap} (X : K.In h) : (cutK K ts).In h := fun a o e => by
  cases hc : ts.contains a with
  | true =>
    rw [cutK_none hc] at e
    cases e
  | false =>
    rw [cutK_out hc] at e
    exact X a o e
theorem cut_code {K : PySem.W.Frag} {ts : List Addr} {c : Addr} {q : Str} (h : ts.contains c = false) (e : PySem.W.codeIn K (.ref c) q = true) : PySem.W.codeIn (cutK K ts) (.ref c) q = true := by
  unfold PySem.W.codeIn at e ⊢
  simp only at e ⊢
  rw [cutK_out h]
  exact e
theorem cut_hd {K : PySem.W.Frag} {ts : List Addr} {c P : Addr} (h : ts.contains c = false) (e : PySem.W.codeHdIn K c P = true) : PySem.W.codeHdIn (cutK K ts) c P = true := by
  unfold PySem.W.codeHdIn at e ⊢
  rw [cutK_out h]
  exact e
/-- a def's facts, told of the cut part -/
theorem hasCode {K : PySem.W.Frag} {mg : Str → Option Value} {x nm : Str} {st : Stmt} {ps : List Str} {h : Heap} {ts : List Addr} {f c : Addr} {oc : Value} {od an : Option Addr} {osl : Array (Option Value)} {kV doc pm ct : Value} (X : K.In h) (G : h.Ns mainGlobals mg)
    (b : ∀ (kV doc pm : Value) (an : Option Addr) (cdv ct : Value) (us : List Value), us.length = ps.length → bindArgs (PySem.W.fnOf nm nm (defArgs st) (defBody st) (defScope st) .none kV doc pm an cdv ct) ⟨us, []⟩ = pure (ps.zip us))
    (a : PySem.W.nsIn K mainGlobals x = some (some (.ref f))) (l : K.lookup f = some ⟨oc, od, .func (PySem.W.fnOf nm nm (defArgs st) (defBody st) (defScope st) .none kV doc pm an (.ref c) ct), osl⟩)
    (cd : PySem.W.codeIn K (.ref c) nm = true) (nf : ts.contains f = false) (nc : ts.contains c = false) : HasCode (cutK K ts) mg x nm st ps c := by
  have l' : (cutK K ts).lookup f = some ⟨oc, od, .func (PySem.W.fnOf nm nm (defArgs st) (defBody st) (defScope st) .none kV doc pm an (.ref c) ct), osl⟩ := by rw [cutK_out nf]; exact l
  refine ⟨f, _, PySem.W.mg_of X G a, fun_mk l' (cut_code nc cd) ?_, rfl, b _ _ _ _ _ _⟩
  unfold PySem.W.keepIn
  simp only [l']
theorem cst_ {K : PySem.W.Frag} {mg : Str → Option Value} {h : Heap} {x : Str} {i : Int} {v : Value} (X : K.In h) (G : h.Ns mainGlobals mg) (a : PySem.W.nsIn K mainGlobals x = some (some v)) (e : ∃ t, v = .int i t) : ∃ t, mg x = some (.int i t) := by
  obtain ⟨t, rfl⟩ := e
  exact ⟨t, PySem.W.mg_of X G a⟩
/-! the builtins' names -/
theorem bt_len : bootBuiltins "len" = some (.builtin "len") := by decide +kernel
theorem bt_abs : bootBuiltins "abs" = some (.builtin "abs") := by decide +kernel
theorem bt_min : bootBuiltins "min" = some (.builtin "min") := by decide +kernel
theorem bt_max : bootBuiltins "max" = some (.builtin "max") := by decide +kernel
theorem bt_sum : bootBuiltins "sum" = some (.builtin "sum") := by decide +kernel
theorem bt_all : bootBuiltins "all" = some (.builtin "all") := by decide +kernel
theorem bt_any : bootBuiltins "any" = some (.builtin "any") := by decide +kernel
theorem bt_repr : bootBuiltins "repr" = some (.builtin "repr") := by decide +kernel
theorem bt_int : bootBuiltins "int" = some (.type "int") := by decide +kernel
theorem bt_bool : bootBuiltins "bool" = some (.type "bool") := by decide +kernel
theorem bt_tuple : bootBuiltins "tuple" = some (.type "tuple") := by decide +kernel
theorem bt_list : bootBuiltins "list" = some (.type "list") := by decide +kernel
theorem bt_isinstance : bootBuiltins "isinstance" = some (.builtin "isinstance") := by decide +kernel
end Ev

set_option Elab.async false
set_option linter.all false
set_option maxRecDepth 100000
/-! Evaluators by simp; repr of small data. -/
namespace Ev
open PySem PySem.Spec PyProof.Rows L2

/-! ### small data: ints of at most 24 digits, no texts -/
mutual
def smallD : D → Bool
  | .none => true
  | .bool _ => true
  | .int i => decide (-(1000000000000000000000000 : Int) < i ∧ i < (1000000000000000000000000 : Int))
  | .list xs => smallDs xs
  | .tuple xs => smallDs xs
  | .str _ => false
  | .dict _ => false
def smallDs : List D → Bool
  | [] => true
  | x :: xs => smallD x && smallDs xs
end
theorem int_log {i : Int} (h : -(1000000000000000000000000 : Int) < i ∧ i < (1000000000000000000000000 : Int)) : i.natAbs < 1000000000000000000000000 := by omega
theorem len_ofString (s : String) : (Str.ofString s).length = s.length := by
  rw [Str.ofString_eq_toList]
  show (s.toList.map Char.toNat).toArray.size = s.length
  rw [List.size_toArray, List.length_map, String.length_toList]
theorem shown_int_len {i : Int} (h : i.natAbs < 1000000000000000000000000) : (PyData.shown (.int i)).length ≤ 25 := by
  have e : PyData.shown (.int i) = Str.ofString (toString i) := rfl
  rw [e, len_ofString]
  have hn : ∀ n : Nat, n < 1000000000000000000000000 → (Nat.repr n).length ≤ 24 := fun n hn => (Nat.length_repr_le_iff (by decide)).mpr (by simpa using hn)
  cases i with
  | ofNat n => exact Nat.le_succ_of_le (hn n h)
  | negSucc n =>
    have e2 : toString (Int.negSucc n) = "-" ++ Nat.repr (n + 1) := rfl
    rw [e2, String.length_append]
    have := hn (n + 1) h
    have e3 : ("-" : String).length = 1 := by decide
    omega
def okS (s : Str) : Prop := ∀ c ∈ s.cps.toList, c < 0x110000
theorem okS_of (s : String) : okS (Str.ofString s) := by
  rw [Str.ofString_eq_toList]
  intro c hc
  simp only [List.mem_map] at hc
  obtain ⟨x, _, rfl⟩ := hc
  have := x.valid
  rcases this with h | h <;> (show x.val.toNat < _; omega)
theorem okS_app {a b : Str} (ha : okS a) (hb : okS b) : okS (a ++ b) := fun c hc => by
  have e : (a ++ b).cps = a.cps ++ b.cps := rfl
  rw [e, Array.toList_append, List.mem_append] at hc
  exact hc.elim (ha c) (hb c)
theorem okS_join {sep : Str} (hs : okS sep) : ∀ {l : List Str}, (∀ x ∈ l, okS x) → okS (Str.join sep l)
  | [], _ => fun c hc => by simp [Str.join, Str.empty] at hc
  | [x], h => h x (by simp)
  | x :: y :: r, h => okS_app (okS_app (h x (by simp)) hs) (okS_join hs (l := y :: r) fun z hz => h z (by simp [hz]))
theorem okS_strOk {s : Str} (h : okS s) : PyData.strOk s = true := by
  unfold PyData.strOk
  rw [Array.all_eq_true_iff_forall_mem]
  intro x hx
  simpa using h x (Array.mem_toList_iff.mpr hx)
mutual
theorem small_ok : ∀ d : D, smallD d = true → d.showable = true ∧ d.hasDict = false ∧ d.leavesShort 25 = true ∧ okS d.shown
  | .none, _ => ⟨rfl, rfl, rfl, okS_of "None"⟩
  | .bool b, _ => ⟨rfl, rfl, rfl, by cases b <;> exact okS_of _⟩
  | .int i, h => by
    have h1 := int_log (of_decide_eq_true h)
    refine ⟨?_, rfl, ?_, okS_of _⟩
    · show decide (i.natAbs.log2 < 1920) = true
      refine decide_eq_true ?_
      have : i.natAbs.log2 < 80 := by
        by_cases z : i.natAbs = 0
        · rw [z]; decide
        · exact (Nat.log2_lt z).mpr (Nat.lt_of_lt_of_le h1 (by decide))
      omega
    · show decide ((PyData.shown (.int i)).length ≤ 25) = true
      exact decide_eq_true (shown_int_len h1)
  | .list xs, h => by
    obtain ⟨a, b, c, e⟩ := smalls_ok xs h
    refine ⟨a, b, c, ?_⟩
    show okS (listText (PyData.shownAll xs))
    rw [listText_eq_join]
    exact okS_app (okS_app (okS_of "[") (okS_join (okS_of ", ") e)) (okS_of "]")
  | .tuple xs, h => by
    obtain ⟨a, b, c, e⟩ := smalls_ok xs h
    refine ⟨a, b, c, ?_⟩
    show okS (tupleText (PyData.shownAll xs))
    unfold tupleText
    refine okS_app (okS_app (okS_of "(") (okS_join (okS_of ", ") e)) ?_
    split <;> exact okS_of _
  | .str _, h => by cases h
  | .dict _, h => by cases h
theorem smalls_ok : ∀ ds : List D, smallDs ds = true → PyData.showableAll ds = true ∧ PyData.hasDictAll ds = false ∧ PyData.leavesShortAll 25 ds = true ∧ ∀ x ∈ PyData.shownAll ds, okS x
  | [], _ => ⟨rfl, rfl, rfl, fun x hx => by cases hx⟩
  | d :: ds, h => by
    have h' : (smallD d && smallDs ds) = true := h
    rw [Bool.and_eq_true] at h'
    obtain ⟨a, b, c, e⟩ := small_ok d h'.1
    obtain ⟨a2, b2, c2, e2⟩ := smalls_ok ds h'.2
    refine ⟨?_, ?_, ?_, ?_⟩
    · show (PyData.showable d && PyData.showableAll ds) = true
      rw [a, a2]; rfl
    · show (PyData.hasDict d || PyData.hasDictAll ds) = false
      rw [b, b2]; rfl
    · show (PyData.leavesShort 25 d && PyData.leavesShortAll 25 ds) = true
      rw [c, c2]; rfl
    · intro x hx
      rcases List.mem_cons.mp (show x ∈ PyData.shown d :: PyData.shownAll ds from hx) with q | q
      · rw [q]; exact e
      · exact e2 x q
end
theorem pRepr_ok {d : D} {m : M} (h : smallD d = true) (hd : d.depth ≤ 60) (hw : d.weight ≤ 500000) : pRepr [.val d] m = some (.val (.str d.shown), m) := by
  obtain ⟨a, b, c, _⟩ := small_ok d h
  have h2 := PyData.shown_le 25 (by decide) d c
  have h3 : (25 + 2) * d.weight ≤ 27 * 500000 := Nat.mul_le_mul (by omega) hw
  have h4 : d.shown.length ≤ sizeLine := by
    rw [sizeLine_eq]
    omega
  show (if (d.showable && !d.hasDict && decide (d.depth ≤ 60) && decide (d.shown.length ≤ sizeLine)) = true then some (R.val (.str d.shown), m) else none) = _
  rw [a, b, decide_eq_true hd, decide_eq_true h4]
  rfl
theorem pNe_shown {d : D} {m : M} (h : smallD d = true) : pNe (.val (.str d.shown)) (.val (.str d.shown)) m = some (.val (.bool false), m) := by
  have z := okS_strOk (small_ok d h).2.2.2
  have s1 : SeqAt.shaped (.str d.shown) = true := by
    show (PyData.strOk d.shown && decide (PyData.depth (.str d.shown) ≤ 64)) = true
    rw [z]
    rfl
  have e : PyData.eqv (.str d.shown) (.str d.shown) = true := by simp [PyData.eqv]
  show (if (SeqAt.shaped (.str d.shown) && SeqAt.shaped (.str d.shown)) = true then some (R.val (.bool (if true then !PyData.eqv (.str d.shown) (.str d.shown) else PyData.eqv (.str d.shown) (.str d.shown))), m) else none) = _
  rw [s1, e]
  rfl
theorem pEq_shown {d : D} {m : M} (h : smallD d = true) : pEq (.val (.str d.shown)) (.val (.str d.shown)) m = some (.val (.bool true), m) := by
  have z := okS_strOk (small_ok d h).2.2.2
  have s1 : SeqAt.shaped (.str d.shown) = true := by
    show (PyData.strOk d.shown && decide (PyData.depth (.str d.shown) ≤ 64)) = true
    rw [z]
    rfl
  have e : PyData.eqv (.str d.shown) (.str d.shown) = true := by simp [PyData.eqv]
  show (if (SeqAt.shaped (.str d.shown) && SeqAt.shaped (.str d.shown)) = true then some (R.val (.bool (if false then !PyData.eqv (.str d.shown) (.str d.shown) else PyData.eqv (.str d.shown) (.str d.shown))), m) else none) = _
  rw [s1, e]
  rfl

/-! ### evaluation by simp -/
/-- a step that simp is to write down -/
theorem nr {α : Sort u} {a b : α} (h : a = b) : a = b := h
@[simp high] theorem ob_some {α β : Type} (a : α) (f : α → Option β) : (some a).bind f = f a := nr rfl
@[simp high] theorem ob_none {α β : Type} (f : α → Option β) : (none : Option α).bind f = none := nr rfl
section
variable {f g h : EF} {fa ga : AF} {tf tg : TF} {sf sg : SF} {gf : GF} {env : Sl} {m : M} {r : R} {p q : R → R → M → Option (R × M)}
@[simp] theorem ev_var0 {a : Option R} {l : Sl} : eVar 0 (a :: l) m = match a with
  | some r => some (r, m)
  | none => none := by cases a <;> rfl
@[simp] theorem ev_varS {i : Nat} {a : Option R} {l : Sl} : eVar (i + 1) (a :: l) m = eVar i l m := nr rfl
@[simp] theorem ev_c {d : D} : eC d env m = some (.val d, m) := nr rfl
@[simp] theorem ev_bin : eBin p f g env m = (f env m).bind fun x => (g env x.2).bind fun y => p x.1 y.1 y.2 := nr rfl
@[simp] theorem ev_un {p : R → M → Option (R × M)} : eUn p f env m = (f env m).bind fun x => p x.1 x.2 := nr rfl
@[simp] theorem ev_nil : aNil env m = some ([], m) := nr rfl
@[simp] theorem ev_cons : aCons f fa env m = (f env m).bind fun x => (fa env x.2).bind fun y => some (x.1 :: y.1, y.2) := nr rfl
@[simp] theorem ev_ap {p : List R → M → Option (R × M)} : eAp p fa env m = (fa env m).bind fun x => p x.1 x.2 := nr rfl
@[simp] theorem ev_tOf : tOf f env m = (f env m).bind fun x => (asB x.1).bind fun b => some (b, x.2) := nr rfl
@[simp] theorem ev_asB {b : Bool} : asB (.val (.bool b)) = some b := nr rfl
@[simp] theorem ev_asI {i : Int} : asI (.val (.int i)) = some i := nr rfl
@[simp] theorem ev_tNot : tNotF tf env m = (tf env m).bind fun x => some (!x.1, x.2) := nr rfl
@[simp] theorem ev_tAnd : tAndF tf tg env m = (tf env m).bind fun x => if x.1 = true then tg env x.2 else some (false, x.2) := nr rfl
@[simp] theorem ev_tOr : tOrF tf tg env m = (tf env m).bind fun x => if x.1 = true then some (true, x.2) else tg env x.2 := nr rfl
@[simp] theorem ev_eOf : eOf tf env m = (tf env m).bind fun x => some (.val (.bool x.1), x.2) := nr rfl
@[simp] theorem ev_eIf : eIf tf f g env m = (tf env m).bind fun x => if x.1 = true then f env x.2 else g env x.2 := nr rfl
@[simp] theorem ev_chain : eChain p q f g h env m = (f env m).bind fun x => (g env x.2).bind fun y => (p x.1 y.1 y.2).bind fun z =>
  (asB z.1).bind fun b => if b = true then (h env z.2).bind fun w => q y.1 w.1 w.2 else some (.val (.bool false), z.2) := rfl
@[simp] theorem ev_seq : sSeq sf sg env m = (sf env m).bind fun fl => thenF fl sg := nr rfl
@[simp] theorem ev_then_nx : thenF (.nx env m) sg = sg env m := nr rfl
@[simp] theorem ev_then_rt : thenF (.rt r m) sg = some (.rt r m) := nr rfl
@[simp] theorem ev_then_bk : thenF (.bk env m) sg = some (.bk env m) := nr rfl
@[simp] theorem ev_then_ct : thenF (.ct env m) sg = some (.ct env m) := nr rfl
@[simp] theorem ev_aft_nx {k : SF} : aftF (.nx env m) k = k env m := nr rfl
@[simp] theorem ev_aft_ct {k : SF} : aftF (.ct env m) k = k env m := nr rfl
@[simp] theorem ev_aft_rt {k : SF} : aftF (.rt r m) k = some (.rt r m) := nr rfl
@[simp] theorem ev_aft_bk {k : SF} : aftF (.bk env m) k = some (.nx env m) := nr rfl
@[simp] theorem ev_next : sNext env m = some (.nx env m) := nr rfl
@[simp] theorem ev_never : sNever env m = none := nr rfl
@[simp] theorem ev_break : sBreak env m = some (.bk env m) := nr rfl
@[simp] theorem ev_contn : sCont env m = some (.ct env m) := nr rfl
@[simp] theorem ev_ret : sRet f env m = (f env m).bind fun x => some (.rt x.1 x.2) := nr rfl
@[simp] theorem ev_retN : sRetN env m = some (.rt (.val .none) m) := nr rfl
@[simp] theorem ev_expr : sExpr f env m = (f env m).bind fun x => some (.nx env x.2) := nr rfl
@[simp] theorem ev_if : sIf tf sf sg env m = (tf env m).bind fun x => if x.1 = true then sf env x.2 else sg env x.2 := nr rfl
@[simp] theorem ev_asg : sAsg f gf env m = (f env m).bind fun x => (gf x.1 env x.2).bind fun y => some (.nx y.1 y.2) := nr rfl
@[simp] theorem ev_gNm {i : Nat} : gNm i r env m = some (env.set i (some r), m) := nr rfl
@[simp] theorem ev_par {i j : Nat} : sPar i j fa env m = (fa env m).bind fun x => match x.1 with
  | [a, b] => some (.nx ((env.set i (some a)).set j (some b)) x.2)
  | _ => none := nr rfl
@[simp] theorem ev_parG {is : List Nat} : sParG is fa env m = (fa env m).bind fun x => if x.1.length ≤ sizeLine then (setAll is x.1 env).bind fun e => some (.nx e x.2) else none := nr rfl
@[simp] theorem ev_sub {pp : R → R → R → M → Option M} : gSubF pp f g r env m = (f env m).bind fun x => (g env x.2).bind fun y => (pp x.1 y.1 r y.2).bind fun m' => some (env, m') := nr rfl
@[simp] theorem ev_aug {i : Nat} : sAugF p i f env m = (eVar i env m).bind fun x => (f env m).bind fun y => (p x.1 y.1 y.2).bind fun z => some (.nx (env.set i (some z.1)) z.2) := nr rfl
@[simp] theorem ev_augS {pp : R → R → R → M → Option M} : sAugSF q pp f g h env m = (f env m).bind fun x => (g env x.2).bind fun y => (pIdx x.1 y.1 y.2).bind fun z => (h env z.2).bind fun w => (q z.1 w.1 w.2).bind fun u => (pp x.1 y.1 u.1 u.2).bind fun m' => some (.nx env m') := nr rfl
@[simp] theorem ev_bm {pp : MF} : eBM pp f fa env m = (f env m).bind fun x => (asL x.1 x.2).bind fun _ => (fa env x.2).bind fun y => pp x.1 y.1 y.2 := nr rfl
@[simp] theorem ev_eL {nf : NF} : eL nf env m = (nf env m).bind fun x => some (.val (.list x.1), x.2) := nr rfl
@[simp] theorem ev_eNew {nf : NF} : eNew nf env m = (nf env m).bind fun x => some (.ref x.2.length, x.2 ++ [.lst x.1]) := nr rfl
@[simp] theorem ev_nLst : nLst fa env m = (fa env m).bind fun x => (vals x.1).bind fun ds => if ds.length ≤ sizeLine then some (ds, x.2) else none := nr rfl
@[simp] theorem ev_vals0 : vals [] = some [] := nr rfl
@[simp] theorem ev_valsC {d : D} {rs : List R} : vals (.val d :: rs) = (vals rs).bind fun ds => some (d :: ds) := nr rfl
@[simp] theorem ev_pTup {rs : List R} : pTup rs m = (vals rs).bind fun ds => if ds.length ≤ sizeLine then some (.val (.tuple ds), m) else none := nr rfl
@[simp] theorem ev_isA {t : Ty} : eIsA t f env m = (f env m).bind fun x => match x.1 with
  | .val d => some (.val (.bool (isA t (.val d))), x.2)
  | .ref k => (x.2[k]?).bind fun o => match o with
    | .lst _ => some (.val (.bool (isA t (.ref k))), x.2)
    | .dct _ _ _ => none
  | .tp _ => none := by
  unfold eIsA
  congr 1
  funext x
  obtain ⟨r, m'⟩ := x
  cases r <;> rfl

/-! loops and comprehensions -/
def runI (o : Option ((Src × Nat) × M)) (gf : GF) (sf : SF) (env : Sl) : Option Fl := o.bind fun x => loop x.1.1 gf sf x.1.2 0 env x.2
@[simp] theorem ev_for {it : IF} : sFor it gf sf env m = runI (it env m) gf sf env := nr rfl
@[simp] theorem run_iL {ds : List D} : runI (iL ds m) gf sf env = loopL gf sf ds env m := loop_srcL ds ds 0 env m rfl
def runC (o : Option ((Src × Nat) × M)) (p : Pat) (vs : List Nat) (tt : TF) (te : EF) (env : Sl) : Option (List D × M) := o.bind fun x => if x.1.2 ≤ sizeLine then clp x.1.1 p tt te (wipeE env vs) x.1.2 0 x.2 else none
@[simp] theorem ev_comp {it : IF} {p : Pat} {vs : List Nat} {tt : TF} {te : EF} : nComp it p vs tt te env m = runC (it env m) p vs tt te env := nr rfl
@[simp] theorem sz : sizeLine = 16777216 := sizeLine_eq
theorem runC_iL {p : Pat} {vs : List Nat} {tt : TF} {te : EF} {ds : List D} (h : ds.length ≤ 16777216) : runC (iL ds m) p vs tt te env = clpL p tt te (wipeE env vs) ds m := by
  have := nComp_L (it := fun _ m => iL ds m) (p := p) (vs := vs) (tt := tt) (te := te) (env := env) (m := m) (m' := m) (ds := ds) rfl (by rw [sz]; exact h)
  exact this
@[simp] theorem run_none {gf : GF} {sf : SF} {env : Sl} : runI none gf sf env = none := nr rfl
def rg1 (rs : List R) (m : M) : Option ((Src × Nat) × M) := match rs with
  | [.val (.int j)] => if -(2 ^ 62) ≤ j ∧ j < 2 ^ 62 then iL (rngD 0 j.toNat) m else none
  | _ => none
def rg2 (rs : List R) (m : M) : Option ((Src × Nat) × M) := match rs with
  | [.val (.int i), .val (.int j)] => if -(2 ^ 62) ≤ i ∧ i < 2 ^ 62 ∧ -(2 ^ 62) ≤ j ∧ j < 2 ^ 62 then iL (rngD i (j - i).toNat) m else none
  | _ => none
@[simp] theorem it_rg1 {fa : AF} : itRng1 fa env m = (fa env m).bind fun x => rg1 x.1 x.2 := nr rfl
@[simp] theorem it_rg2 {fa : AF} : itRng2 fa env m = (fa env m).bind fun x => rg2 x.1 x.2 := nr rfl
theorem rngD_nat (a n : Nat) : rngD (a : Int) n = (List.range' a n).map fun j : Nat => PyData.int j := by
  unfold rngD
  rw [List.range'_eq_map_range, List.map_map]
  apply List.map_congr_left
  intro j _
  simp
theorem rg1_nat {n : Nat} (h : n ≤ 1000000000) : rg1 [.val (.int n)] m = iL ((List.range n).map fun j : Nat => PyData.int j) m := by
  have h2 : -(2 ^ 62) ≤ (n : Int) ∧ (n : Int) < 2 ^ 62 := by omega
  simp only [rg1]
  rw [if_pos h2, Int.toNat_natCast, List.range_eq_range']
  exact congrArg (fun l => iL l m) (rngD_nat 0 n)
theorem rg2_nat {a b : Nat} {i j : Int} (hi : i = a) (hj : j = b) (ha : a ≤ 1000000000) (h : b ≤ 1000000000) : rg2 [.val (.int i), .val (.int j)] m = iL ((List.range' a (b - a)).map fun j : Nat => PyData.int j) m := by
  subst hi hj
  have h2 : -(2 ^ 62) ≤ (a : Int) ∧ (a : Int) < 2 ^ 62 ∧ -(2 ^ 62) ≤ (b : Int) ∧ (b : Int) < 2 ^ 62 := by omega
  simp only [rg2]
  rw [if_pos h2, show ((b : Int) - a).toNat = b - a by omega, rngD_nat]
@[simp] theorem leave_v {b : Nat} {d : D} : leave b (.val d) m = some (.val d, m.take b) := nr rfl
theorem step_nx {sf : SF} {gf : GF} {d : D} {ds : List D} {env1 env2 : Sl} {m1 m2 : M} (hg : gf (.val d) env m = some (env1, m1)) (hb : sf env1 m1 = some (.nx env2 m2)) : loopL gf sf (d :: ds) env m = loopL gf sf ds env2 m2 := by
  show ((gf (.val d) env m).bind fun x => (sf x.1 x.2).bind fun fl => aftF fl (loopL gf sf ds)) = _
  rw [hg]
  simp only [Option.bind_some]
  rw [hb]
  rfl
theorem step_rt {sf : SF} {gf : GF} {d : D} {ds : List D} {env1 : Sl} {m1 m2 : M} {r : R} (hg : gf (.val d) env m = some (env1, m1)) (hb : sf env1 m1 = some (.rt r m2)) : loopL gf sf (d :: ds) env m = some (.rt r m2) := by
  show ((gf (.val d) env m).bind fun x => (sf x.1 x.2).bind fun fl => aftF fl (loopL gf sf ds)) = _
  rw [hg]
  simp only [Option.bind_some]
  rw [hb]
  rfl
@[simp] theorem loop_nil {sf : SF} {gf : GF} : loopL gf sf [] env m = some (.nx env m) := nr rfl
def en1 (rs : List R) (m : M) : Option ((Src × Nat) × M) := match rs with
  | [.val (.tuple ds)] => iL (enumD ds) m
  | [.val (.list ds)] => iL (enumD ds) m
  | [.ref k] => match m[k]? with
    | some (.lst ds) => some ((srcE k, ds.length), m)
    | _ => none
  | _ => none
@[simp] theorem it_en {fa : AF} : itEnum fa env m = (fa env m).bind fun x => en1 x.1 x.2 := nr rfl
@[simp] theorem en1_t {ds : List D} : en1 [.val (.tuple ds)] m = iL (enumD ds) m := nr rfl
@[simp] theorem en1_l {ds : List D} : en1 [.val (.list ds)] m = iL (enumD ds) m := nr rfl
def an1 (r : R) (m : M) : Option ((Src × Nat) × M) := match r with
  | .val (.tuple ds) => iL ds m
  | .val (.list ds) => iL ds m
  | .ref k => match m[k]? with
    | some (.lst ds) => some ((srcR k, ds.length), m)
    | _ => none
  | _ => none
@[simp] theorem it_an {f : EF} : itAny f env m = (f env m).bind fun x => an1 x.1 x.2 := nr rfl
@[simp] theorem an1_t {ds : List D} : an1 (.val (.tuple ds)) m = iL ds m := nr rfl
@[simp] theorem an1_l {ds : List D} : an1 (.val (.list ds)) m = iL ds m := nr rfl
def rev1 (r : R) (m : M) : Option (R × M) := match r with
  | .val (.tuple ds) => some (.val (.tuple ds.reverse), m)
  | r => (asL r m).bind fun ds => some (.val (.list ds.reverse), m)
@[simp] theorem ev_rev : eRev f env m = (f env m).bind fun x => rev1 x.1 x.2 := nr rfl
@[simp] theorem rev1_t {ds : List D} : rev1 (.val (.tuple ds)) m = some (.val (.tuple ds.reverse), m) := nr rfl
@[simp] theorem rev1_l {ds : List D} : rev1 (.val (.list ds)) m = some (.val (.list ds.reverse), m) := nr rfl
end
end Ev

set_option Elab.async false
set_option linter.all false
set_option maxRecDepth 100000
/-! Operators on known values, by simp; comprehensions and loops by invariants. -/
namespace Ev
open PySem PySem.Spec PyProof.Rows L2
section
variable {m : M} {i j : Int} {a b : Bool} {ds es : List D} {d e : D} {k : Nat}
@[simp] theorem pp_ii : pPlus (.val (.int i)) (.val (.int j)) m = some (.val (.int (i + j)), m) := nr rfl
theorem pp_tt (h : ds.length + es.length ≤ 16777216) : pPlus (.val (.tuple ds)) (.val (.tuple es)) m = some (.val (.tuple (ds ++ es)), m) := by
  show (match (match pAddI (.val (.tuple ds)) (.val (.tuple es)) m with
    | some x => some x
    | none => pCatT (.val (.tuple ds)) (.val (.tuple es)) m) with
    | some x => some x
    | none => pCatLf (.val (.tuple ds)) (.val (.tuple es)) m) = _
  have e1 : pAddI (.val (.tuple ds)) (.val (.tuple es)) m = none := rfl
  have e2 : pCatT (.val (.tuple ds)) (.val (.tuple es)) m = some (.val (.tuple (ds ++ es)), m) := by
    show (if ds.length + es.length ≤ sizeLine then some (R.val (.tuple (ds ++ es)), m) else none) = _
    rw [sz, if_pos h]
  rw [e1]
  simp only [e2]
theorem pp_ll (h : ds.length + es.length ≤ 16777216) : pPlus (.val (.list ds)) (.val (.list es)) m = some (.val (.list (ds ++ es)), m) := by
  show (match (match pAddI (.val (.list ds)) (.val (.list es)) m with
    | some x => some x
    | none => pCatT (.val (.list ds)) (.val (.list es)) m) with
    | some x => some x
    | none => pCatLf (.val (.list ds)) (.val (.list es)) m) = _
  have e1 : pAddI (.val (.list ds)) (.val (.list es)) m = none := rfl
  have e2 : pCatT (.val (.list ds)) (.val (.list es)) m = none := rfl
  rw [e1]
  simp only [e2]
  show (if ds.length + es.length ≤ sizeLine then some (R.val (.list (ds ++ es)), m) else none) = _
  rw [sz, if_pos h]
@[simp] theorem pa_ii : pAddI (.val (.int i)) (.val (.int j)) m = some (.val (.int (i + j)), m) := nr rfl
@[simp] theorem ps_ii : pSub (.val (.int i)) (.val (.int j)) m = some (.val (.int (i - j)), m) := nr rfl
theorem log2_lt_of {n k : Nat} (h : n < 2 ^ (k + 1)) : n.log2 ≤ k := by
  by_cases z : n = 0
  · rw [z]; exact Nat.zero_le _
  · exact Nat.le_of_lt_succ ((Nat.log2_lt z).mpr h)
theorem pm_ii (hi : i.natAbs < 18446744073709551616) (hj : j.natAbs < 18446744073709551616) : pMul (.val (.int i)) (.val (.int j)) m = some (.val (.int (i * j)), m) := by
  have h : mulOk i j = true := by
    have h1 := log2_lt_of (k := 63) (n := i.natAbs) hi
    have h2 := log2_lt_of (k := 63) (n := j.natAbs) hj
    exact decide_eq_true (by omega)
  show (if mulOk i j = true then some (R.val (.int (i * j)), m) else none) = _
  rw [if_pos h]
theorem pdv_ii (h : 0 < j) (hj : j < 18446744073709551616) : pDiv (.val (.int i)) (.val (.int j)) m = some (.val (.int (i / j)), m) := by
  have h : divOk i j = true := by
    have h2 := log2_lt_of (k := 63) (n := j.natAbs) (by omega)
    exact decide_eq_true ⟨h, by omega⟩
  show (if divOk i j = true then some (R.val (.int (i / j)), m) else none) = _
  rw [if_pos h]
theorem pmd_ii (h : 0 < j) : pMod (.val (.int i)) (.val (.int j)) m = some (.val (.int (i % j)), m) := by
  have h : modOk i j = true := decide_eq_true h
  show (if modOk i j = true then some (R.val (.int (i % j)), m) else none) = _
  rw [if_pos h]
@[simp] theorem plt_ii : pLt (.val (.int i)) (.val (.int j)) m = some (.val (.bool (decide (i < j))), m) := nr rfl
@[simp] theorem ple_ii : pLe (.val (.int i)) (.val (.int j)) m = some (.val (.bool (decide (i ≤ j))), m) := nr rfl
@[simp] theorem pgt_ii : pGt (.val (.int i)) (.val (.int j)) m = some (.val (.bool (decide (j < i))), m) := nr rfl
@[simp] theorem pge_ii : pGe (.val (.int i)) (.val (.int j)) m = some (.val (.bool (decide (j ≤ i))), m) := nr rfl
@[simp] theorem peq_ii : pEq (.val (.int i)) (.val (.int j)) m = some (.val (.bool (decide (i = j))), m) := by
  have : PyData.eqv (.int i) (.int j) = decide (i = j) := by show (i == j) = _; rfl
  show some (R.val (.bool (PyData.eqv (.int i) (.int j))), m) = _
  rw [this]
@[simp] theorem pne_ii : pNe (.val (.int i)) (.val (.int j)) m = some (.val (.bool (decide (i ≠ j))), m) := by
  have : PyData.eqv (.int i) (.int j) = decide (i = j) := by show (i == j) = _; rfl
  show some (R.val (.bool (!PyData.eqv (.int i) (.int j))), m) = _
  rw [this]
  by_cases h : i = j <;> simp [h]
@[simp] theorem peq_bb : pEq (.val (.bool a)) (.val (.bool b)) m = some (.val (.bool (a == b)), m) := nr rfl
@[simp] theorem pne_bb : pNe (.val (.bool a)) (.val (.bool b)) m = some (.val (.bool (a != b)), m) := nr rfl
@[simp] theorem pis_n : pIsN (.val .none) (.val .none) m = some (.val (.bool true), m) := nr rfl
@[simp] theorem pis_i : pIsN (.val (.int i)) (.val .none) m = some (.val (.bool false), m) := nr rfl
@[simp] theorem pis_t : pIsN (.val (.tuple ds)) (.val .none) m = some (.val (.bool false), m) := nr rfl
@[simp] theorem pisnt_n : pIsnt (.val .none) (.val .none) m = some (.val (.bool false), m) := nr rfl
@[simp] theorem pisnt_i : pIsnt (.val (.int i)) (.val .none) m = some (.val (.bool true), m) := nr rfl
@[simp] theorem pisnt_t : pIsnt (.val (.tuple ds)) (.val .none) m = some (.val (.bool true), m) := nr rfl
@[simp] theorem pneg_i : pNeg (.val (.int i)) m = some (.val (.int (-i)), m) := nr rfl
@[simp] theorem plen_t : pLen [.val (.tuple ds)] m = some (.val (.int ds.length), m) := nr rfl
@[simp] theorem plen_l : pLen [.val (.list ds)] m = some (.val (.int ds.length), m) := nr rfl
@[simp] theorem pabs_i : pAbs [.val (.int i)] m = some (.val (.int (if i < 0 then -i else i)), m) := nr rfl
@[simp] theorem pmin_ii : pMin [.val (.int i), .val (.int j)] m = some (.val (.int (if j < i then j else i)), m) := nr rfl
@[simp] theorem pmax_ii : pMax [.val (.int i), .val (.int j)] m = some (.val (.int (if j > i then j else i)), m) := nr rfl
@[simp] theorem pint_i : pInt [.val (.int i)] m = some (.val (.int i), m) := nr rfl
@[simp] theorem ptup_l : pTupleOf [.val (.list ds)] m = some (.val (.tuple ds), m) := nr rfl
@[simp] theorem ptup_t : pTupleOf [.val (.tuple ds)] m = some (.val (.tuple ds), m) := nr rfl
theorem ptup_r (h : m[k]? = some (.lst ds)) : pTupleOf [.ref k] m = some (.val (.tuple ds), m) := by
  show ((asL (.ref k) m).bind fun ds => some (R.val (.tuple ds), m)) = _
  simp [asL, h]
theorem plen_r (h : m[k]? = some (.lst ds)) : pLen [.ref k] m = some (.val (.int ds.length), m) := by
  show ((asLT (.ref k) m).bind fun ds => some (R.val (.int ds.length), m)) = _
  simp [asLT, asL, h]
@[simp] theorem pix_t : pIdx (.val (.tuple ds)) (.val (.int i)) m = (atI ds i).bind fun d => some (.val d, m) := nr rfl
@[simp] theorem pix_l : pIdx (.val (.list ds)) (.val (.int i)) m = (atI ds i).bind fun d => some (.val d, m) := nr rfl
theorem pix_r (h : m[k]? = some (.lst ds)) : pIdx (.ref k) (.val (.int i)) m = (atI ds i).bind fun d => some (.val d, m) := by
  show ((asLT (.ref k) m).bind fun ds => (atI ds i).bind fun d => some (R.val d, m)) = _
  simp [asLT, asL, h]
theorem pset_r (h : m[k]? = some (.lst ds)) : pSet (.ref k) (.val (.int i)) (.val d) m = (ixN ds.length i).bind fun j => some (m.set k (.lst (ds.set j d))) := by
  unfold pSet
  simp [h]
theorem papp_r (h : m[k]? = some (.lst ds)) (hl : ds.length < 16777216) : pAppend (.ref k) [.val d] m = some (.val .none, m.set k (.lst (ds ++ [d]))) := by
  simp [pAppend, h, hl]
theorem asL_r (h : m[k]? = some (.lst ds)) : asL (.ref k) m = some ds := by
  simp [asL, h]
@[simp] theorem asBs_map (bs : List Bool) : asBs (bs.map PyData.bool) = some bs := by
  induction bs with
  | nil => rfl
  | cons b bs ih => simp [asBs, ih]
@[simp] theorem asIs_map (ns : List Int) : asIs (ns.map PyData.int) = some ns := by
  induction ns with
  | nil => rfl
  | cons b bs ih => simp [asIs, ih]
theorem asBs_map' {α : Type} (l : List α) (f : α → Bool) : asBs (l.map fun x => PyData.bool (f x)) = some (l.map f) := by
  have := asBs_map (l.map f)
  rwa [List.map_map] at this
theorem asIs_map' {α : Type} (l : List α) (f : α → Int) : asIs (l.map fun x => PyData.int (f x)) = some (l.map f) := by
  have := asIs_map (l.map f)
  rwa [List.map_map] at this
theorem pany_l {α : Type} (l : List α) (f : α → Bool) : pAny [.val (.list (l.map fun x => PyData.bool (f x)))] m = some (.val (.bool (l.any f)), m) := by
  show ((asBs (l.map fun x => PyData.bool (f x))).bind fun ns => some (R.val (.bool (ns.any id)), m)) = _
  rw [asBs_map']
  simp [List.any_map]
theorem pall_l {α : Type} (l : List α) (f : α → Bool) : pAll [.val (.list (l.map fun x => PyData.bool (f x)))] m = some (.val (.bool (l.all f)), m) := by
  show ((asBs (l.map fun x => PyData.bool (f x))).bind fun ns => some (R.val (.bool (ns.all id)), m)) = _
  rw [asBs_map']
  simp [List.all_map]
theorem psum_t {α : Type} (l : List α) (f : α → Int) : pSum [.val (.tuple (l.map fun x => PyData.int (f x)))] m = some (.val (.int (l.map f).sum), m) := by
  show ((asIs (l.map fun x => PyData.int (f x))).bind fun ns => some (R.val (.int ns.sum), m)) = _
  rw [asIs_map']
  rfl
end
/-! places -/
section
variable {α : Type} {xs : List α}
theorem ixN_nat {n k : Nat} (h : k < n) : ixN n (k : Int) = some k := by
  unfold ixN
  rw [if_pos (by omega)]
  simp [h]
theorem at_nat {k : Nat} {x : α} (h : xs[k]? = some x) : atI xs (k : Int) = some x := by
  have hk : k < xs.length := (List.getElem?_eq_some_iff.mp h).1
  unfold atI
  rw [ixN_nat hk]
  exact h
theorem at_int {i : Int} {x : α} (h0 : 0 ≤ i) (h : xs[i.toNat]? = some x) : atI xs i = some x := by
  have e : i = (i.toNat : Int) := by omega
  rw [e]
  exact at_nat h
@[simp] theorem atI_0 {x : α} : atI (x :: xs) 0 = some x := at_nat (k := 0) rfl
@[simp] theorem atI_1 {x y : α} : atI (x :: y :: xs) 1 = some y := at_nat (k := 1) rfl
@[simp] theorem atI_2 {x y z : α} : atI (x :: y :: z :: xs) 2 = some z := at_nat (k := 2) rfl
end
/-! comprehensions -/
theorem asD0_val (d : D) : clp.asD0 (.val d) = some d := rfl
theorem clpL_map {α : Type} {p : Pat} {tt : TF} {te : EF} {env : Sl} {m : M} (enc : α → D) (t : α → Bool) (F : α → D) : ∀ (l : List α),
    (∀ a ∈ l, ∃ e, bindP p (enc a) env = some e ∧ tt e m = some (t a, m) ∧ (t a = true → te e m = some (.val (F a), m))) → clpL p tt te env (l.map enc) m = some ((l.filter t).map F, m)
  | [], _ => rfl
  | a :: l, h => by
    obtain ⟨e, h1, h2, h3⟩ := h a List.mem_cons_self
    have ih := clpL_map (p := p) (tt := tt) (te := te) (env := env) (m := m) enc t F l fun b hb => h b (List.mem_cons_of_mem _ hb)
    rw [List.map_cons]
    unfold clpL
    rw [h1]
    simp only [Option.bind_some]
    rw [h2]
    simp only [Option.bind_some]
    cases ht : t a with
    | false =>
      rw [if_neg Bool.false_ne_true, ih, List.filter_cons_of_neg (by rw [ht]; exact Bool.false_ne_true)]
    | true =>
      rw [if_pos rfl, h3 ht]
      simp only [Option.bind_some, asD0_val]
      rw [ih, List.filter_cons_of_pos ht]
      rfl
theorem clpL_all {α : Type} {p : Pat} {te : EF} {env : Sl} {m : M} (enc : α → D) (F : α → D) (l : List α)
    (h : ∀ a ∈ l, ∃ e, bindP p (enc a) env = some e ∧ te e m = some (.val (F a), m)) : clpL p tTrue te env (l.map enc) m = some (l.map F, m) := by
  have := clpL_map (p := p) (tt := tTrue) (te := te) (env := env) (m := m) enc (fun _ => true) F l fun a ha => by
    obtain ⟨e, h1, h2⟩ := h a ha
    exact ⟨e, h1, rfl, fun _ => h2⟩
  rw [this, List.filter_eq_self.mpr fun _ _ => rfl]
/-- with a store that moves on -/
theorem clpL_inv {p : Pat} {te : EF} {env : Sl} (I : M → Prop) (P : D → Prop) : ∀ (ds : List D) (m : M), I m →
    (∀ d ∈ ds, ∀ m, I m → ∃ e d' m', bindP p d env = some e ∧ te e m = some (.val d', m') ∧ P d' ∧ I m') → ∃ ds' m', clpL p tTrue te env ds m = some (ds', m') ∧ ds'.length = ds.length ∧ (∀ d ∈ ds', P d) ∧ I m'
  | [], m, hI, _ => ⟨[], m, rfl, rfl, (fun d hd => by cases hd), hI⟩
  | d :: ds, m, hI, h => by
    obtain ⟨e, d', m1, h1, h2, hP, hI1⟩ := h d List.mem_cons_self m hI
    obtain ⟨ds', m2, h3, hl, hPs, hI2⟩ := clpL_inv (p := p) (te := te) (env := env) I P ds m1 hI1 fun b hb => h b (List.mem_cons_of_mem _ hb)
    refine ⟨d' :: ds', m2, ?_, by rw [List.length_cons, List.length_cons, hl], fun x hx => ?_, hI2⟩
    · unfold clpL
      rw [h1]
      simp only [Option.bind_some]
      rw [show tTrue e m = some (true, m) from rfl]
      simp only [Option.bind_some, if_true]
      rw [h2]
      simp only [Option.bind_some, asD0_val]
      rw [h3]
      rfl
    · rcases List.mem_cons.mp hx with q | q
      · rw [q]; exact hP
      · exact hPs x q
end Ev

set_option Elab.async false
set_option linter.all false
set_option maxRecDepth 100000
/-! sorted(xs). -/
namespace Ev
open PySem PySem.Spec PyProof.Rows L2
/-- what sorted takes: all alike; all tuples that hold something, or none a tuple or None -/
def sortableB (ds : List D) : Bool := (ds.all fun x => ds.all fun y => PySem.W.alike x y) && ((ds.all fun x => match x with
  | .tuple (_ :: _) => true
  | _ => false) || ds.all fun x => match x with
  | .none => false
  | .tuple _ => false
  | _ => true)
theorem sortable_ok {ds : List D} (h : sortableB ds = true) : PySem.W.AllAlike ds ∧ PySem.W.Sortable ds := by
  unfold sortableB at h
  rw [Bool.and_eq_true, Bool.or_eq_true, List.all_eq_true, List.all_eq_true, List.all_eq_true] at h
  refine ⟨fun x hx y hy => List.all_eq_true.mp (h.1 x hx) y hy, ?_⟩
  rcases h.2 with q | q
  · refine .inl fun d hd => ?_
    have z := q d hd
    split at z
    · exact ⟨_, _, rfl⟩
    · cases z
  · refine .inr fun d hd => ⟨fun e => ?_, fun xs e => ?_⟩
    · have z := q d hd
      rw [e] at z
      cases z
    · have z := q d hd
      rw [e] at z
      cases z
def sortD (ds : List D) : List D := ds.mergeSort (PySem.W.dataLe false id)
def pSorted : PF := p1 fun r m => (asL r m).bind fun ds => if (sortableB ds && smallAll ds && decide (ds.length ≤ sizeLine)) = true then some (.val (.list (sortD ds)), m) else none
theorem each_of {K : PySem.W.Frag} {H : Hp} : ∀ {ds : List D} {xs : List V} {its : List Value}, DpAll K H xs ds → Vals xs its → PySem.W.EachIs (fun v d => ∃ x : V, RelV x v ∧ Dp K H x d) its ds
  | [], [], [], _, _ => .nil
  | _ :: _, _ :: _, _ :: _, .cons a t, .cons r u => .cons ⟨_, r, a⟩ (each_of t u)
theorem of_each {K : PySem.W.Frag} {H : Hp} : ∀ {ds : List D} {its : List Value}, PySem.W.EachIs (fun v d => ∃ x : V, RelV x v ∧ Dp K H x d) its ds → ∃ xs : List V, Vals xs its ∧ DpAll K H xs ds
  | [], [], _ => ⟨[], .nil, .nil⟩
  | _ :: _, _ :: _, .cons ⟨x, r, a⟩ t => by
    obtain ⟨xs, u, w⟩ := of_each t
    exact ⟨x :: xs, .cons r u, .cons a w⟩
theorem depth_all {ds : List D} {d : D} (h : d ∈ ds) : d.depth ≤ PyData.depthAll ds := by
  induction ds with
  | nil => cases h
  | cons e ds ih =>
    show d.depth ≤ max e.depth (PyData.depthAll ds)
    rcases List.mem_cons.mp h with q | q
    · rw [q]; omega
    · have := ih q
      omega
section
variable {X : Cx} {k : Nat}
theorem c_sorted (hr : Room k X.A) : CallR X (.builtin "sorted") (rsP ζ X.K pSorted) := c_one fun pins s σ H v us Q φ m a r m' I rx S ra hf kk => by
  obtain ⟨ds, h1, hf⟩ := bind_some_iff hf
  split at hf
  · rename_i hc
    cases hf
    rw [Bool.and_eq_true, Bool.and_eq_true] at hc
    obtain ⟨⟨c1, c2⟩, c3⟩ := hc
    obtain ⟨hal, hso⟩ := sortable_ok c1
    have hsm := of_decide_eq_true c2
    have hlen := of_decide_eq_true c3
    obtain ⟨p, xs, rfl, hs, hd⟩ := seqL_of S ra h1
    obtain ⟨u, rfl, ru⟩ := one_val rx
    cases ru
    obtain ⟨its, rv, hl, hz⟩ := I.list hs
    have hun := hr.un
    have e1 := each_of hd rv
    have er : PySem.W.EachIs (fun v b => ∃ as, Reads s.heap v (id b) as) its ds := e1.mono fun v d ⟨x, r, q⟩ => Dp.reads I _ _ _ (dp_mono off_same q) r
    refine PySem.W.sorted_data (enc := id) hl.isList e1 er (by rw [List.map_id]; exact hal) (by rw [List.map_id]; exact hso) hlen (fun b hb => ?_) fun out ho eo => ?_
    · have := depth_all hb
      show X.A.units + 2 + b.depth < cLine
      omega
    · obtain ⟨ys, rv2, hd2⟩ := of_each eo
      obtain ⟨e, he⟩ := sortedAll_at s.heap its (List.toArray out)
      have hp : H (s.heap.objs.size + 1) = none := I.hok.fresh (Nat.le_succ _)
      have hyl : ys.length = out.length := rv2.length
      have I2 : Inv X pins σ (upd H (s.heap.objs.size + 1) (.lst ys)) { s with heap := sortedAll s.heap its (List.toArray out), toks := s.toks } := I.laid (o := .lst ys) (fun b ob q => sortedAll_old q) (Nat.le_succ _) ⟨by rw [hyl, ho]; exact hlen, out, e, rv2, he⟩
      exact ⟨.ref _, _, I2, rfl, kk φ _ _ (gr_alloc hp) (S.alloc hp) (rr_newL S hp hd2)⟩
  · cases hf
end
theorem bt_sorted : bootBuiltins "sorted" = some (.builtin "sorted") := by decide +kernel
end Ev

set_option Elab.async false
set_option linter.all false
set_option maxRecDepth 100000
/-! three names at once; list.remove. -/
namespace Ev
open PySem PySem.Spec PyProof.Rows L2
def sPar3 (i j l : Nat) (f : AF) : SF := fun env m => (f env m).bind fun x => match x.1 with
  | [a, b, c] => some (.nx (((env.set i (some a)).set j (some b)).set l (some c)) x.2)
  | _ => none
section
variable {X : Cx} {fa : AF} {pos : Pos}
theorem s_par3 {i j l : Nat} {x y z : Str} {a b c : Expr} {px py pz pt : Pos} {kt k2 : Nat} {pt2 : Pos} (hc : X.calm = true) (hN : X.N.Nodup) (hi : X.N[i]? = some x) (hj : X.N[j]? = some y) (hl : X.N[l]? = some z) (hij : i ≠ j) (hil : i ≠ l) (hjl : j ≠ l)
    (hx : X.env.scope.names.lookup x = some .local) (hy : X.env.scope.names.lookup y = some .local) (hz : X.env.scope.names.lookup z = some .local) (ha : PA X [a, b, c] (tA ζ X.K fa))
    (hw : swappedStores [.Tuple [.Name x px, .Name y py, .Name z pz] kt pt] (.Tuple [a, b, c] k2 pt2) X.env = pure (some [x, y, z]))
    (hs : swapsWithSole [.Tuple [.Name x px, .Name y py, .Name z pz] kt pt] (.Tuple [a, b, c] k2 pt2) pos.line X.env = pure false := by rfl) :
    PS X (.Assign [.Tuple [.Name x px, .Name y py, .Name z pz] kt pt] (.Tuple [a, b, c] k2 pt2) pos) (tS ζ X.K (sPar3 i j l fa)) := ps_imp (ps_par3 hc hN hi hj hl hij hil hjl hx hy hz ha hw hs) fun W σ H q => by
  obtain ⟨φ, env, m, fl, S, E, hf, k⟩ := q
  obtain ⟨⟨rs, m1⟩, h1, hf⟩ := bind_some_iff hf
  simp only at hf
  split at hf
  · cases hf
    refine ⟨φ, env, m, _, m1, S, E, h1, fun φ1 H1 vs g1 S1 R1 => ?_⟩
    cases R1 with
    | cons a1 t1 =>
      cases t1 with
      | cons a2 t2 =>
        cases t2 with
        | cons a3 t3 =>
          cases t3
          exact ⟨_, _, _, rfl, k φ1 _ H1 g1 S1 ((((E.mono g1).set a1 i).set a2 j).set a3 l)⟩
  · cases hf
end
/-- the first place of x -/
def placeI (x : Int) : List Int → Option Nat
  | [] => none
  | y :: ys => if y = x then some 0 else (placeI x ys).bind fun j => some (j + 1)
theorem placeI_at {x : Int} : ∀ {ns : List Int} {j : Nat}, placeI x ns = some j → ns[j]? = some x ∧ ∀ i : Nat, i < j → ns[i]? ≠ some x
  | [], j, h => by cases h
  | y :: ys, j, h => by
    unfold placeI at h
    split at h
    · rename_i e
      cases h
      subst e
      exact ⟨rfl, fun i hi => absurd hi (Nat.not_lt_zero _)⟩
    · rename_i e
      obtain ⟨i, h1, h⟩ := bind_some_iff h
      cases h
      obtain ⟨a, b⟩ := placeI_at h1
      refine ⟨by simpa using a, fun q hq => ?_⟩
      cases q with
      | zero => simpa using e
      | succ q => simpa using b q (Nat.lt_of_succ_lt_succ hq)
def pRemove : MF := fun r rs m => match r, rs with
  | .ref k, [.val (.int x)] => (m[k]?).bind fun o => match o with
    | .lst ds => (asIs ds).bind fun ns => (placeI x ns).bind fun j => some (.val .none, m.set k (.lst ((ns.eraseIdx j).map PyData.int)))
    | .dct _ _ _ => none
  | _, _ => none
section
variable {X : Cx} {k : Nat}
theorem m_remove : MtR X "list.remove" (rmP ζ X.K pRemove) := by
  intro pins s σ H x xs v us Q I rx rxs h
  obtain ⟨φ, m, r0, rs, r, m', S, R0, RS, hf, kk⟩ := h
  unfold pRemove at hf
  split at hf
  · rename_i k y
    obtain ⟨ob, ho, hf⟩ := bind_some_iff hf
    cases ob with
    | dct t lk kvs => cases hf
    | lst ds =>
      obtain ⟨ns, h1, hf⟩ := bind_some_iff hf
      obtain ⟨j, h2, hf⟩ := bind_some_iff hf
      cases hf
      have e := asIs_eq h1
      subst e
      obtain ⟨a, rfl, ha⟩ := R0
      obtain ⟨zs, h3, h4⟩ := S.obj k _ a ho ha
      have ez := ints_of_dpAll h4
      subst ez
      obtain ⟨e1, e2⟩ := placeI_at h2
      have hin : a ∈ φ.s := List.mem_of_getElem? ha
      cases RS with
      | cons r1 t1 =>
        cases t1
        have e3 := rr_int r1
        subst e3
        exact mt_remove pins s σ H _ _ v us Q I rx rxs ⟨a, ns, y, j, rfl, rfl, h3, e1, e2, kk φ _ _ (gr_write hin (S.apart hin) (nf_lst h3)) (S.write ha (dpAll_ints _)) Dp.non⟩
  · cases hf
end
end Ev

set_option Elab.async false
set_option linter.all false
set_option maxRecDepth 100000
/-! list(range(..)), tuple(range(..)). -/
namespace Ev
open PySem PySem.Spec PyProof.Rows L2
theorem rgV_dp {K : PySem.W.Frag} {H : Hp} (a b : Int) : DpAll K H (rgV a b) (rngD a (b - a).toNat) := by
  unfold rgV rngD
  have : ∀ l : List Nat, DpAll K H (l.map fun i => V.int (a + (i : Nat))) (l.map fun j : Nat => PyData.int (a + (j : Int))) := by
    intro l
    induction l with
    | nil => exact .nil
    | cons x l ih => exact .cons (.int _) ih
  exact this _
def rgOkB (a b : Int) : Bool := decide (-(2 ^ 62) ≤ a ∧ a < 2 ^ 62 ∧ -(2 ^ 62) ≤ b ∧ b < 2 ^ 62 ∧ (b - a).toNat ≤ 2 ^ 24)
theorem rgOk_of {a b : Int} (h : rgOkB a b = true) : RgOk a b := of_decide_eq_true (p := -(2 ^ 62) ≤ a ∧ a < 2 ^ 62 ∧ -(2 ^ 62) ≤ b ∧ b < 2 ^ 62 ∧ (b - a).toNat ≤ 2 ^ 24) h
/-- range(b), range(a, b) as data -/
def nRg1 (f : EF) : NF := fun env m => (f env m).bind fun x => (asI x.1).bind fun b => if rgOkB 0 b = true then some (rngD 0 (b - 0).toNat, x.2) else none
def nRg2 (f g : EF) : NF := fun env m => (f env m).bind fun x => (g env x.2).bind fun y => (asI x.1).bind fun a => (asI y.1).bind fun b => if rgOkB a b = true then some (rngD a (b - a).toNat, y.2) else none
def eTupN (f : NF) : EF := fun env m => (f env m).bind fun x => some (.val (.tuple x.1), x.2)
section
variable {X : Cx} {a b : Expr} {f g : EF} {p p2 pos pos2 : Pos}
theorem n_listRg1 (hc : X.calm = true) (hg : Gl X "list") (hm : X.mg "list" = none) (hg2 : Gl X "range") (hm2 : X.mg "range" = none) (ha : PE X a (tE ζ X.K f)) (na : starEach [a] X.env = (false, eval a X.env) :: starEach [] X.env := by rfl)
    (nc : starEach [.Call (.Name "range" p2) [a] [] pos2] X.env = (false, eval (.Call (.Name "range" p2) [a] [] pos2) X.env) :: starEach [] X.env := by rfl) : PE X (.Call (.Name "list" p) [.Call (.Name "range" p2) [a] [] pos2] [] pos) (tN ζ X.K (nRg1 f)) :=
  pe_imp (pe_listRg hc hg hm (prg_1 hg2 hm2 ha na) nc) fun σ H Q q => by
  obtain ⟨φ, env, m, ds, m', S, E, hf, k⟩ := q
  obtain ⟨⟨r, m1⟩, h1, hf⟩ := bind_some_iff hf
  obtain ⟨i, h2, hf⟩ := bind_some_iff hf
  split at hf
  · rename_i hr
    cases hf
    refine ⟨φ, env, m, r, m1, S, E, h1, fun φ1 H1 v g1 S1 R1 => ?_⟩
    have e := asI_some h2
    simp only at e
    subst e
    have e2 := rr_int R1
    subst e2
    exact ⟨i, rfl, rgOk_of hr, fun q hq => k φ1 H1 q _ g1 S1 hq (rgV_dp 0 i)⟩
  · cases hf
theorem n_listRg2 (hc : X.calm = true) (hg : Gl X "list") (hm : X.mg "list" = none) (hg2 : Gl X "range") (hm2 : X.mg "range" = none) (ha : PE X a (tE ζ X.K f)) (hb : PE X b (tE ζ X.K g))
    (na : starEach [a, b] X.env = (false, eval a X.env) :: starEach [b] X.env := by rfl) (nb : starEach [b] X.env = (false, eval b X.env) :: starEach [] X.env := by rfl) (nh : (backTo pos2 (starEach [b] X.env)).any (·.1) = false := by rfl)
    (nc : starEach [.Call (.Name "range" p2) [a, b] [] pos2] X.env = (false, eval (.Call (.Name "range" p2) [a, b] [] pos2) X.env) :: starEach [] X.env := by rfl) : PE X (.Call (.Name "list" p) [.Call (.Name "range" p2) [a, b] [] pos2] [] pos) (tN ζ X.K (nRg2 f g)) :=
  pe_imp (pe_listRg hc hg hm (prg_2 hg2 hm2 ha hb na nb nh) nc) fun σ H Q q => by
  obtain ⟨φ, env, m, ds, m', S, E, hf, k⟩ := q
  obtain ⟨⟨r, m1⟩, h1, hf⟩ := bind_some_iff hf
  obtain ⟨⟨r2, m2⟩, h2, hf⟩ := bind_some_iff hf
  obtain ⟨i, h3, hf⟩ := bind_some_iff hf
  obtain ⟨j, h4, hf⟩ := bind_some_iff hf
  split at hf
  · rename_i hr
    cases hf
    refine ⟨φ, env, m, r, m1, S, E, h1, fun φ1 H1 v g1 S1 R1 => ?_⟩
    refine ⟨φ1, env, m1, r2, m2, S1, E.mono g1, h2, fun φ2 H2 v2 g2 S2 R2 => ?_⟩
    have e3 := asI_some h3
    have e4 := asI_some h4
    simp only at e3 e4
    subst e3 e4
    have e5 := rr_int R1
    have e6 := rr_int R2
    subst e5 e6
    exact ⟨i, j, rfl, rfl, rgOk_of hr, fun q hq => k φ2 H2 q _ (g1.trans g2) S2 hq (rgV_dp i j)⟩
  · cases hf
end
end Ev

set_option Elab.async false
set_option linter.all false
set_option maxRecDepth 100000
set_option maxHeartbeats 1000000
/-! A lambda of one parameter: its context. -/
namespace Ev
open PySem PySem.Spec PyProof.Rows L2 LamX
/-- slots that the lambda's own name hides are masked -/
def mskL {α : Type} : List Bool → List (Option α) → List (Option α)
  | true :: bs, _ :: l => none :: mskL bs l
  | false :: bs, x :: l => x :: mskL bs l
  | [], l => l
  | _, [] => []
theorem mskL_len {α : Type} : ∀ (bs : List Bool) (l : List (Option α)), (mskL bs l).length = l.length
  | true :: bs, _ :: l => by simp [mskL, mskL_len bs l]
  | false :: bs, _ :: l => by simp [mskL, mskL_len bs l]
  | [], l => by cases l <;> rfl
  | true :: _, [] => rfl
  | false :: _, [] => rfl
theorem mskL_get {α : Type} : ∀ {bs : List Bool} {l : List (Option α)} {i : Nat} {x : α}, (mskL bs l)[i]? = some (some x) → l[i]? = some (some x) ∧ bs[i]? ≠ some true
  | true :: bs, _ :: l, 0, x, h => by simp [mskL] at h
  | true :: bs, _ :: l, i + 1, x, h => by
    have := mskL_get (bs := bs) (l := l) (i := i) (by simpa [mskL] using h)
    simpa using this
  | false :: bs, y :: l, 0, x, h => by
    simp only [mskL, List.getElem?_cons_zero] at h ⊢
    exact ⟨h, by simp⟩
  | false :: bs, _ :: l, i + 1, x, h => by
    have := mskL_get (bs := bs) (l := l) (i := i) (by simpa [mskL] using h)
    simpa using this
  | [], l, i, x, h => by
    have e : mskL [] l = l := by cases l <;> rfl
    rw [e] at h
    exact ⟨h, by simp⟩
  | true :: _, [], i, x, h => by simp [mskL] at h
  | false :: _, [], i, x, h => by simp [mskL] at h
/-- one parameter p, no name of its own else: captured ones and globals -/
structure LamP (sc scope : Scope) (p : Str) : Prop where
  kind : scope.kind = .function
  co : scope.isCoroutine = false
  gen : scope.isGenerator = false
  par : scope.names.lookup p = some .local
  nocell : ∀ y ∈ scope.names, y.2 ≠ .cell
  own : ∀ y ∈ scope.names, y.2 = .local → y.1 = p
  free : ∀ y ∈ scope.names, y.2 = .free → sc.names.lookup y.1 = some .cell ∨ sc.names.lookup y.1 = some .free
def lamPB (sc scope : Scope) (p : Str) : Bool :=
  decide (scope.kind = .function) && !scope.isCoroutine && !scope.isGenerator && decide (scope.names.lookup p = some .local) && scope.names.all fun y => !decide (y.2 = .cell) && (!decide (y.2 = .local) || decide (y.1 = p)) && (!decide (y.2 = .free) || decide (sc.names.lookup y.1 = some .cell) || decide (sc.names.lookup y.1 = some .free))
theorem lamP_by {sc scope : Scope} {p : Str} (h : lamPB sc scope p = true) : LamP sc scope p := by
  unfold lamPB at h
  simp only [Bool.and_eq_true, Bool.or_eq_true, Bool.not_eq_true', decide_eq_true_eq, decide_eq_false_iff_not, List.all_eq_true] at h
  obtain ⟨⟨⟨⟨h1, h2⟩, h3⟩, h5⟩, h4⟩ := h
  refine ⟨h1, h2, h3, h5, fun y hy => (h4 y hy).1.1, fun y hy e => ?_, fun y hy e => ?_⟩
  · rcases (h4 y hy).1.2 with z | z
    · exact absurd e z
    · exact z
  · rcases (h4 y hy).2 with (z | z) | z
    · exact absurd e z
    · exact .inl z
    · exact .inr z
theorem LamP.has {X : Cx} {scope : Scope} {p : Str} (L : LamP X.env.scope scope p) (ok : X.Ok) : ∀ y ∈ scope.names, y.2 = .free → ∃ c, X.env.cells.lookup y.1 = some c := fun y hy e => by
  rcases L.free y hy e with k | k
  · exact ok.has _ (.inl k)
  · exact ok.has _ (.inr k)
/-- nothing is wanted of an exception: there is none -/
def noX : XK := fun _ _ _ => False
/-- the context of the lambda's body -/
def lamCxP (X : Cx) (A : Around) (outer : List Env) (s : Shared) (H : Hp) (scope : Scope) (p : Str) (f c' : Addr) : Cx := { LamX.lamCx X A outer s H noX scope f c' with N := p :: X.N }
section
variable {X : Cx} {pins : List (Addr × Obj)} {σ : L2.St} {H : Hp} {s : Shared}
theorem lam_startP {A : Around} {scope : Scope} {p : Str} {f c' : Addr} {h₁ : Heap} {tk : Nat} {bs : List Bool} {v : V} {u : Value} (I : Inv X pins σ H s) (L : LamP X.env.scope scope p) (e0 : Env0 X.prog X.w X.K X.mg X.base A X.stack s H) (hd : A.handled = none)
    (hm : ∀ i : Nat, X.N[i]? = some p → bs[i]? = some true) (r : RelV v u)
    (hns : h₁.Ns s.heap.objs.size fun y => ([(p, u)] : List (Str × Value)).reverse.lookup y) (kp : ∀ b o, s.heap.get? b = some o → h₁.get? b = some o) :
    Inv (lamCxP X A X.stack s H scope p f c') [] (some v :: mskL bs σ) H { s with heap := h₁, toks := tk } := by
  have hfree := L.has I.ok
  have cm : ∀ {y c}, (cloFrom X.env.cells scope.names []).lookup y = some c → X.env.cells.lookup y = some c := fun {y c} e => by
    rcases cloFrom_mem (PySem.mem_of_lookup e) with hm | ⟨h1, h2⟩
    · cases hm
    · obtain ⟨c1, hc⟩ := hfree _ h1 rfl
      have hc : X.env.cells.lookup y = some c1 := hc
      have e2 : c = c1 := by
        rw [h2, hc] <;> rfl
      rw [e2]
      exact hc
  have look : ∀ {y}, scope.names.lookup y = some .free → ∃ c, (cloFrom X.env.cells scope.names []).lookup y = some c := fun {y} hl => by
    have hy : (y, NameKind.free) ∈ scope.names := PySem.mem_of_lookup hl
    exact mem_lookup (cloFrom_has (cells := X.env.cells) (acc := []) hy)
  have cellK : ∀ {c : Addr} {v : Option Value}, s.heap.IsCell c v → h₁.IsCell c v := fun {c v} ⟨o, ho, hd⟩ => ⟨o, kp _ _ ho, hd⟩
  have noA : ∀ b : Addr, b ∉ (lamCxP X A X.stack s H scope p f c').ex := fun b z => absurd (show b ∈ ([] : List Addr) from z) (by simp)
  refine ⟨⟨e0.mod, L.kind, rfl, rfl, Nat.le_refl _, fun y z c e1 e2 => I.ok.inj y z c (cm e1) (cm e2), fun y hy => ?_, fun y c z _ => ?_, fun _ => hd, Around.frames_deeper e0.frames, .inr ⟨rfl, rfl⟩, fun b z => absurd z (noA b), e0.bs, e0.bsz, fun b _ _ => noA b,
      fun b z => absurd z (noA b), e0.funs, e0.frf⟩,
    rfl, e0.bare, Un.kept kp, ⟨_, hns, fun i y w e1 e2 e3 => ?_⟩, fun y c e => ?_, e0.hok.fresh (Nat.le_refl _), fun y c e => ?_, fun q hq => absurd (show q ∈ ([] : List (Addr × Obj)) ++ [] from hq) (by simp), e0.hok.kept kp, ?_⟩
  · have hy : scope.names.lookup y = some .cell ∨ scope.names.lookup y = some .free := hy
    rcases hy with hy | hy
    · exact absurd rfl (L.nocell _ (PySem.mem_of_lookup hy))
    · exact look hy
  · have z : false = true := z
    cases z
  · have e1 : (p :: X.N)[i]? = some y := e1
    have e3 : Vis scope y := e3
    cases i with
    | zero =>
      simp only [List.getElem?_cons_zero, Option.some.injEq] at e1 e2
      subst e1
      subst e2
      exact ⟨u, r, .inl ⟨L.par, by simp⟩⟩
    | succ i =>
      simp only [List.getElem?_cons_succ] at e1 e2
      obtain ⟨e2, hb⟩ := mskL_get e2
      have np : y ≠ p := fun z => hb (hm i (z ▸ e1))
      rcases e3 with k | k | k
      · exact absurd (L.own _ (PySem.mem_of_lookup k) rfl) np
      · exact absurd rfl (L.nocell _ (PySem.mem_of_lookup k))
      · obtain ⟨m, hn, hl⟩ := I.loc
        have hvis : Vis X.env.scope y := (L.free _ (PySem.mem_of_lookup k) rfl).elim (fun k => .inr (.inl k)) (fun k => .inr (.inr k))
        obtain ⟨w', r, q⟩ := hl i y w e1 e2 hvis
        obtain ⟨c2, h2⟩ := look k
        refine ⟨w', r, .inr ⟨.inr k, c2, h2, ?_⟩⟩
        have c1 := cm h2
        rcases q with ⟨k', _⟩ | ⟨_, c3, e', z⟩
        · have k' : X.env.scope.names.lookup y = some .local := k'
          rcases L.free _ (PySem.mem_of_lookup k) rfl with k2 | k2 <;> rw [show X.env.scope.names.lookup y = _ from k2] at k' <;> cases k'
        · rw [c1] at e'
          cases e'
          exact cellK z
  · obtain ⟨w', z⟩ := I.cell y c (cm e)
    exact ⟨w', cellK z⟩
  · exact I.freeC y c (cm e)
  · show (some v :: mskL bs σ).length = (p :: X.N).length
    rw [List.length_cons, List.length_cons, mskL_len, I.len]
/-- the lambda is called -/
theorem lam_callP {A : Around} {scope : Scope} {p : Str} {f c' : Addr} {params : Arguments} {body : Expr} {pm ctv : Value} {bs : List Bool} {v : V} {u : Value} {k : Nat} {Q : VK} {tb : TE} (I : Inv X pins σ H s) (L : LamP X.env.scope scope p) (e0 : Env0 X.prog X.w X.K X.mg X.base A X.stack s H)
    (hr : Room (k + 1) A) (hm : ∀ i : Nat, X.N[i]? = some p → bs[i]? = some true) (r : RelV v u)
    (hf : s.heap.get? f = some (PySem.W.kla_obj "<lambda>" (X.env.qual ++ "<lambda>") params body scope (cloFrom X.env.cells scope.names []) pm c' ctv)) (hco : H c' = some (CodeO c' (X.env.qual ++ "<lambda>")))
    (hbind : bindArgs (PySem.W.kla_fn "<lambda>" (X.env.qual ++ "<lambda>") params body scope (cloFrom X.env.cells scope.names []) pm (.ref c') ctv) ⟨[u], []⟩ = pure [(p, u)])
    (hbody : Room k (A.deeper (lamEnv X scope s.heap.objs.size f c')) → PE (lamCxP X A X.stack s H scope p f c') body tb) (ht : tb (some v :: mskL bs σ) H Q) :
    codeAny (model X.prog X.w) A (.call (.ref f) ⟨[u], []⟩) (CR (L2.CX X.prog X.w) X.stack X.prog X.w H s Q noX) s := by
  obtain ⟨⟨oc, vs, t, hoc, hdc, hvc⟩, _, _⟩ := I.hok c' _ hco
  refine PySem.W.kla_callFunE hr.depth hf rfl L.co L.gen rfl ⟨c', oc, vs, t, rfl, hoc, hdc, hvc⟩ ?_
  rw [hbind]
  refine wpAny_pure (wpAny_newFunctionEnv L.nocell (fun y hy => ?_) (fun h₁ hns hsb => ⟨I.nolimit.fresh _ hsb, ?_⟩) L.kind)
  · rw [List.mem_singleton.mp hy]
    exact L.par
  show codeAny _ _ (.expr body (lamEnv X scope s.heap.objs.size f c')) _ _
  have kp : ∀ b o, s.heap.get? b = some o → h₁.get? b = some o := fun b o e => hsb.extBut b o (Nat.ne_of_lt (Heap.lt_size e)) (Heap.get?_push_of_some _ e)
  have J : Inv (lamCxP X A X.stack s H scope p f c') [] (some v :: mskL bs σ) H { s with heap := h₁, toks := s.toks + ([(p, u)] : List (Str × Value)).length } := lam_startP I L e0 hr.hd hm r hns kp
  refine PySem.W.kla_codeExpr (wpAny_mono ((hbody (hr.deeper _)).run [] _ _ H Q J ht) (fun v s' hq => ?_) fun e s' hq => hq)
  obtain ⟨w', H', J', rv, q⟩ := hq
  exact ⟨w', H', J'.os, J'.bare, J'.base, J'.hok, rv, q⟩
theorem noX_cx {P : Program} {w : World} {outer : List Env} {H : Hp} {s s' : Shared} {u : Value} (h : L2.CX P w outer H s noX u s') : False := by
  obtain ⟨a, B, H', cls, d, _, _, _, _, _, _, _, q⟩ := h
  exact q
end
end Ev

set_option Elab.async false
set_option linter.all false
set_option maxRecDepth 100000
set_option maxHeartbeats 1000000
/-! sorted(xs, key=f): f may do what it likes with the store. -/
namespace PySem.W
open PySem PySem.Calls PyProof.Rows
section
variable {prog : Program} {w : World} {A : Around} {E : Value → Shared → Prop} {s : Shared} {a kS : Addr} {b : Bool} {vs : List Value} {e1 : Nat} {P : PySem.Fin → Shared → Prop}
theorem keyI_rest {f : Value} {J : Nat → Array Value → Shared → Prop} (h0 : J 0 #[] s) (nk : s.heap.get? kS = some (seqObj "list" #[] 0)) (na : s.heap.get? a = some (seqObj "list" #[] e1)) (hka : kS ≠ a) (hZ : vs.length ≤ sizeLine)
    (turn : ∀ (i : Nat) (v : Value) (keys : Array Value) (e : Nat) (s' : Shared), vs[i]? = some v → J i keys s' → s'.heap.get? kS = some (seqObj "list" keys e) → s'.heap.get? a = some (seqObj "list" #[] e1) →
      wpAny (model prog w) A (call f [v]) (fun k s'' => s''.heap.get? kS = some (seqObj "list" keys e) ∧ s''.heap.get? a = some (seqObj "list" #[] e1) ∧ ∀ h', Heap.SameBut kS s''.heap h' → (∃ o, h'.get? kS = some o) → J (i + 1) (keys.push k) { s'' with heap := h' }) (fun _ _ => False) s')
    (done : ∀ (keys : Array Value) (e : Nat) (s' : Shared), J vs.length keys s' → s'.heap.get? kS = some (seqObj "list" keys e) → s'.heap.get? a = some (seqObj "list" #[] e1) → keys.size = vs.length →
      ∃ kz : List PyData, EachIs (fun v k => ∃ as, Reads s'.heap v k as) keys.toList kz ∧ AllAlike kz ∧ Sortable kz ∧ (∀ d, d ∈ kz → A.units + d.depth < cLine) ∧
        ∀ h' tk out c, (∀ b o, b ≠ a → b ≠ kS → s'.heap.get? b = some o → h'.get? b = some o) → h'.get? a = some (seqObj "list" (List.toArray out) c) → KeyedOut b kz vs out → P (.done (.ret .none)) { s' with heap := h', toks := tk }) :
    wpAny (model prog w) A (ksk_rest a f b vs.toArray e1 (.ref kS)) P E s := by
  unfold ksk_rest
  refine wpAny_bind (wpAny_rule ?_)
  first
    | rw [List.forIn_toArray]
    | (rw [← Array.forIn_toList]; simp only [List.toList_toArray])
    | rw [← Array.forIn_toList]
  refine wpAny_bind (ksk_fold (fun i s' => ∃ kA e, J i kA s' ∧ kA.size = i ∧ s'.heap.get? kS = some (seqObj "list" kA e) ∧ s'.heap.get? a = some (seqObj "list" #[] e1)) vs 0 s
    ⟨#[], 0, h0, rfl, nk, na⟩ ?step ?done)
  case step =>
    rintro j x s' hx ⟨kA, e, hJ, hsz, nk', na'⟩
    simp only [Nat.zero_add] at hJ hsz ⊢
    have hj : j < vs.length := (List.getElem?_eq_some_iff.mp hx).1
    have hz : kA.size ≤ vs.length := by omega
    refine wpAny_bind (wpAny_attempt (wpAny_mono (turn j x kA e s' hx hJ nk' na') (fun v s'' he => ?_) fun _ _ hF => hF.elim))
    obtain ⟨nk2, na2, hn⟩ := he
    try dsimp only
    have s1 := Heap.SameBut.update s''.heap kS (Obj.mapSeq (·.push v))
    obtain ⟨c2, hc2⟩ : ∃ c2, (s''.heap.update kS (Obj.mapSeq (·.push v))).get? kS = some (seqObj "list" (kA.push v) c2) := ⟨_, get?_update_seq nk2 (·.push v)⟩
    refine wpAny_bind (listUpdate_at nk2 rfl ?_ (Nat.le_trans hz hZ) (Nat.le_trans (Nat.le_of_eq (Array.size_push ..)) (Nat.succ_le_succ (Nat.le_trans hz hZ))))
    refine wpAny_pure ⟨rfl, kA.push v, c2, hn _ s1 ⟨_, hc2⟩, ?_, hc2, (s1.2 a hka.symm).trans na2⟩
    rw [Array.size_push, hsz]
  case done =>
    rintro s' ⟨kA, e, hJ, hsz, nk', na'⟩
    rw [Nat.zero_add] at hJ hsz
    obtain ⟨kz, hk, hal, hsk, hu, fin⟩ := done kA e s' hJ nk' na' hsz
    try dsimp only
    refine wpAny_bind (listItems_at nk' rfl ?_)
    have hs : ∀ b, b ∈ ([kS] : List Addr) → b = kS := fun b hb => List.mem_singleton.mp hb
    have hg : ∀ b o, (hideAll s'.heap [kS]).get? b = some o → s'.heap.get? b = some o := fun b o q => of_hideAll [kS] q
    have kp : KeepsBut a (hideAll s'.heap [kS]) s'.heap := fun b o _ q => hg b o q
    have hkS : (hideAll s'.heap [kS]).get? kS = none := hideAll_none [kS] (by simp)
    have hd : EachIs (fun v k => ∃ as, Reads s'.heap v k as) kA.toList kz := hk
    refine keyH_end (κ := dataKind s'.heap kz) (h₁ := hideAll s'.heap [kS]) kp hkS nk' na' hka (SortsAt.data (s := s') hk hal hsk hu) hsz hZ fun h3 tk3 c k3 n3 => ?_
    exact fin h3 tk3 _ c (fun b o h1 h2 q => k3 b o h1 (hideAll_get _ q (by simpa using h2))) n3 ⟨s'.heap, kA.toList, hal, rfl, hk⟩
theorem keyI_tree {f : Value} {n : Nat} {J : Nat → Array Value → Shared → Prop} (ho : s.heap.get? a = some (seqObj "list" vs.toArray n)) (hZ : vs.length ≤ sizeLine)
    (h0 : ∀ h' e1, (∀ b o, b ≠ a → s.heap.get? b = some o → h'.get? b = some o) → h'.get? a = some (seqObj "list" #[] e1) → h'.get? (s.heap.objs.size + 1) = some (seqObj "list" #[] 0) → J 0 #[] { s with heap := h' })
    (turn : ∀ (i : Nat) (v : Value) (keys : Array Value) (e e1 : Nat) (s' : Shared), vs[i]? = some v → J i keys s' → s'.heap.get? (s.heap.objs.size + 1) = some (seqObj "list" keys e) → s'.heap.get? a = some (seqObj "list" #[] e1) →
      wpAny (model prog w) A (call f [v]) (fun k s'' => s''.heap.get? (s.heap.objs.size + 1) = some (seqObj "list" keys e) ∧ s''.heap.get? a = some (seqObj "list" #[] e1) ∧ ∀ h', Heap.SameBut (s.heap.objs.size + 1) s''.heap h' → (∃ o, h'.get? (s.heap.objs.size + 1) = some o) → J (i + 1) (keys.push k) { s'' with heap := h' }) (fun _ _ => False) s')
    (done : ∀ (keys : Array Value) (e : Nat) (s' : Shared), J vs.length keys s' → s'.heap.get? (s.heap.objs.size + 1) = some (seqObj "list" keys e) → keys.size = vs.length →
      ∃ kz : List PyData, EachIs (fun v k => ∃ as, Reads s'.heap v k as) keys.toList kz ∧ AllAlike kz ∧ Sortable kz ∧ (∀ d, d ∈ kz → A.units + d.depth < cLine) ∧
        ∀ h' tk out c, (∀ b o, b ≠ a → b ≠ s.heap.objs.size + 1 → s'.heap.get? b = some o → h'.get? b = some o) → h'.get? a = some (seqObj "list" (List.toArray out) c) → KeyedOut b kz vs out → P (.done (.ret .none)) { s' with heap := h', toks := tk }) :
    wpAny (model prog w) A (ksk_tree a f b) P E s := by
  have ha : a < s.heap.objs.size := Heap.lt_size ho
  obtain ⟨e1, ho1⟩ : ∃ e1, (s.heap.update a (Obj.mapSeq fun _ => (#[] : Array Value))).get? a = some (seqObj "list" #[] e1) := ⟨_, get?_update_seq ho fun _ => #[]⟩
  have hkS : ((s.heap.update a (Obj.mapSeq fun _ => (#[] : Array Value))).push (seqObj "tuple" vs.toArray 0)).objs.size = s.heap.objs.size + 1 := by rw [size_push', Heap.size_update]
  unfold ksk_tree
  refine wpAny_bind (listItems_at ho rfl ?_)
  refine wpAny_bind (listUpdate_at ho rfl ?_ (by rw [List.size_toArray]; exact hZ) (Nat.zero_le _))
  refine wpAny_bind (seqEpoch_at ho1 rfl ?_)
  refine wpAny_bind (wpAny_newTuple ?_ (by show vs.length ≤ _; exact hZ))
  refine wpAny_bind (wpAny_newList ?_ (Nat.zero_le _))
  refine wpAny_holding ?_
  have kp : ∀ b o, b ≠ a → s.heap.get? b = some o → (sortingHeap s.heap a vs).get? b = some o := fun b o hb q => sortingHeap_old hb q
  have hk2 : (((s.heap.update a (Obj.mapSeq fun _ => (#[] : Array Value))).push (seqObj "tuple" vs.toArray 0)).push (seqObj "list" #[] 0)).get? (s.heap.objs.size + 1) = some (seqObj "list" #[] 0) := by
    rw [← hkS]
    exact Heap.get?_push_size _ rfl
  have ha2 : (((s.heap.update a (Obj.mapSeq fun _ => (#[] : Array Value))).push (seqObj "tuple" vs.toArray 0)).push (seqObj "list" #[] 0)).get? a = some (seqObj "list" #[] e1) := Heap.get?_push_of_some _ (Heap.get?_push_of_some _ ho1)
  have J0 := h0 (((s.heap.update a (Obj.mapSeq fun _ => (#[] : Array Value))).push (seqObj "tuple" vs.toArray 0)).push (seqObj "list" #[] 0)) e1 kp ha2 hk2
  rw [hkS]
  exact keyI_rest (J := J) (s := { s with heap := ((s.heap.update a (Obj.mapSeq fun _ => (#[] : Array Value))).push (seqObj "tuple" vs.toArray 0)).push (seqObj "list" #[] 0) }) (kS := s.heap.objs.size + 1) J0 hk2 ha2
    (Nat.ne_of_gt (Nat.lt_succ_of_lt ha)) hZ (fun i v keys e s' h1 h2 h3 h4 => turn i v keys e e1 s' h1 h2 h3 h4) fun keys e s' h1 h2 _ h4 => done keys e s' h1 h2 h4
end
end PySem.W

set_option Elab.async false
set_option linter.all false
set_option maxRecDepth 100000
set_option maxHeartbeats 1000000
/-! sorted(.., key=lambda p: ..). -/
namespace PySem.W
open PySem PySem.Calls PyProof.Rows
section
variable {prog : Program} {w : World} {A : Around} {E : Value → Shared → Prop} {s : Shared}
/-- sorted(xs, ..): the items collected, a new list of them sorted -/
theorem sorted_of_collect {u : Value} {kw : List (Str × Value)} {Q : Value → Shared → Prop} (ha1 : argsOk "sorted" ⟨[u], kw⟩) (ha2 : ∀ x, argsOk "list.sort" ⟨[.ref x], kw⟩)
    (body : ∀ E' : Value → Shared → Prop, wpAny (model prog w) A.in1 (collect u) (fun vs s1 => vs.length ≤ sizeLine ∧
      ∀ h2 c, (∀ b o, s1.heap.get? b = some o → h2.get? b = some o) → h2.objs.size = s1.heap.objs.size + 1 → h2.get? s1.heap.objs.size = some (seqObj "list" vs.toArray c) →
        ∀ E2 : Value → Shared → Prop, wpAny (model prog w) A.in1.in1 (Builtin.«list.sort» ⟨[.ref s1.heap.objs.size], kw⟩) (fun f s' => f = .done (.ret .none) ∧ Q (.ref s1.heap.objs.size) s') E2 { s1 with heap := h2 }) E' s) :
    wpAny (model prog w) A (call (.builtin "sorted") [u] kw) Q E s := by
  refine call_function_entry_kw kind_sorted plain_sorted entry_sorted ha1 ?_
  unfold Builtin.«sorted»
  refine wpAny_bind (m := checkCount "sorted" 1 1 _) (wpAny_pure ?_)
  refine wpAny_bind (wpAny_mono (body _) (fun vs s1 hq => ?_) fun _ _ e => e)
  obtain ⟨hL, hb⟩ := hq
  refine wpAny_bind (wpAny_newList ?_ hL)
  have hat : (s1.heap.push (seqObj "list" vs.toArray 0)).get? s1.heap.objs.size = some (seqObj "list" vs.toArray 0) := Heap.get?_push_size _ rfl
  refine wpAny_bind (wpAny_holding (wpAny_call_entry_kw slot_list_sort ⟨_, hat, rfl⟩ entry_list_sort ?body (ha2 _)))
  case body =>
    refine wpAny_mono (hb (s1.heap.push (seqObj "list" vs.toArray 0)) 0 (fun b o q => Heap.get?_push_of_some _ q) (size_push' _ _) hat _) (fun f s' hf => ?_) fun _ _ e => e
    obtain ⟨rfl, hq⟩ := hf
    exact ⟨_, rfl, wpAny_pure ⟨_, rfl, hq⟩⟩
end
end PySem.W
namespace Ev
open PySem PySem.Spec PyProof.Rows L2 LamX
/-- a lambda at f that is there, with its body's reading -/
structure LamAt (ζ : Tbs) (X : Cx) (k : Nat) (bs : List Bool) (fb : EF) (p : Str) (f : Addr) (s : Shared) (H : Hp) : Prop where
  call : ∀ {pins : List (Addr × Obj)} {σ : L2.St} {H' : Hp} {s' : Shared} {φ : Ad} {env : Sl} {m m1 : M} {r r1 : R} {v : V} {u : Value} {A : Around}, Inv X pins σ H' s' → Env0 X.prog X.w X.K X.mg X.base A X.stack s' H' → Room (k + 1) A →
    (s.heap.get? f = s'.heap.get? f) → (∀ c q, H c = some (CodeO c q) → H' c = some (CodeO c q)) → RelV v u → SR ζ X.K φ H' m → ER X.K φ H' σ env → RR X.K φ H' v r → fb (some r :: mskL bs env) m = some (r1, m1) →
      wpAny (model X.prog X.w) A (PySem.call (.ref f) [u]) (fun k s'' => ∃ x φ2 H'', RelV x k ∧ Inv X pins σ H'' s'' ∧ Un (frs X.stack) [] H' H'' s'.heap s''.heap ∧ Gr φ H' φ2 H'' ∧ SR ζ X.K φ2 H'' m1 ∧ RR X.K φ2 H'' x r1) (fun _ _ => False) s'
  free : H f = none
  nofr : f ∉ frs X.stack
  here : ∃ o, s.heap.get? f = some o
theorem er_msk {K : PySem.W.Frag} {φ : Ad} {H : Hp} {σ : L2.St} {env : Sl} {v : V} {r : R} (E : ER K φ H σ env) (h : RR K φ H v r) (bs : List Bool) : ER K φ H (some v :: mskL bs σ) (some r :: mskL bs env) := by
  refine ⟨by rw [List.length_cons, List.length_cons, mskL_len, mskL_len, E.len], fun i q e => ?_⟩
  cases i with
  | zero =>
    simp only [List.getElem?_cons_zero, Option.some.injEq] at e
    subst e
    exact ⟨v, rfl, h⟩
  | succ i =>
    rw [List.getElem?_cons_succ] at e
    obtain ⟨e1, nb⟩ := mskL_get e
    obtain ⟨w, e2, e3⟩ := E.at_ i q e1
    refine ⟨w, ?_, e3⟩
    rw [List.getElem?_cons_succ]
    have : ∀ (bs : List Bool) (l : L2.St) (i : Nat) (w : V), l[i]? = some (some w) → bs[i]? ≠ some true → (mskL bs l)[i]? = some (some w) := by
      intro bs
      induction bs with
      | nil =>
        intro l i w e _
        have z : mskL [] l = l := by cases l <;> rfl
        rw [z]
        exact e
      | cons b bs ih =>
        intro l i w e nb
        cases l with
        | nil => simp at e
        | cons y l =>
          cases i with
          | zero =>
            simp only [List.getElem?_cons_zero] at e nb ⊢
            cases b with
            | true => exact absurd rfl nb
            | false => simpa [mskL] using e
          | succ i =>
            simp only [List.getElem?_cons_succ] at e nb
            have := ih l i w e nb
            cases b <;> simpa [mskL] using this
    exact this bs σ i w e2 nb
theorem code_stay {K : PySem.W.Frag} {φ φ' : Ad} {H H' : Hp} {m : M} (S : SR ζ K φ H m) (g : Gr φ H φ' H') {c : Addr} {q : Str} (h : H c = some (CodeO c q)) : H' c = some (CodeO c q) := by
  by_cases hc : c ∈ φ.h
  · exact g.stay c hc _ h codeO_ne
  · have hs : c ∉ φ.s := fun z => by
      obtain ⟨i, hi, e⟩ := List.mem_iff_getElem.mp z
      have hm : i < m.length := by rw [← S.len]; exact hi
      have o := S.obj i m[i] c (List.getElem?_eq_getElem hm) (by rw [List.getElem?_eq_getElem hi, e])
      exact (o.tc h).2 q rfl
    have ho : off φ H c = some (CodeO c q) := off_some.mpr ⟨fun z => (Ad.mem.mp z).elim hs hc, h, rfl⟩
    exact (off_some.mp (g.same _ _ ho)).2.1
/-- the tables may have grown -/
theorem gr_extN {φ : Ad} {H H' : Hp} (e : ExtN H H') : Gr φ H φ H' := ⟨List.prefix_refl _, rfl, rfl, fun b o h => by
  rw [off_some] at h ⊢
  exact ⟨h.1, e b o h.2.1 (fun ps z => by rw [z] at h; exact absurd h.2.2 (by simp [isTb])), h.2.2⟩, fun b _ u h n => e b u h n, fun b o u h => e b _ h (fun ps z => by cases z)⟩
theorem SR.extN {K : PySem.W.Frag} {φ : Ad} {H H' : Hp} {m : M} (S : SR ζ K φ H m) (e : ExtN H H') (hT : Tabs φ.t H') : SR ζ K φ H' m := by
  refine ⟨S.len, S.nd, fun i o a e1 e2 => ?_, fun a ha => ?_, S.teq, S.tin, hT⟩
  · have q := S.obj i o a e1 e2
    exact q.mono' (gr_extN e).same fun u z => e _ _ z (fun ps y => (q.tc z).1 ps y)
  · rcases S.hid a ha with ⟨u, h, n⟩ | h
    · exact .inl ⟨u, e a u h (fun ps z => by rw [z] at n; cases n), n⟩
    · exact .inr h
end Ev

set_option Elab.async false
set_option linter.all false
set_option maxRecDepth 100000
set_option maxHeartbeats 1000000
/-! sorted(.., key=lambda p: ..): the rule. -/
namespace Ev
open PySem PySem.Spec PyProof.Rows L2 LamX
section
variable {X : Cx} {pins : List (Addr × Obj)} {σ : L2.St} {H : Hp} {s : Shared} {k : Nat} {bs : List Bool} {fb : EF} {p : Str} {f : Addr}
/-- what a lambda of one parameter asks of its maker -/
structure LamOk (ζ : Tbs) (X : Cx) (k : Nat) (bs : List Bool) (fb : EF) (p : Str) (params : Arguments) (body : Expr) (scope : Scope) (c P : Addr) : Prop where
  tb : TabB X.base X.mg c P
  code : X.env.code = .ref c
  mem : (P, X.env.qual ++ "<lambda>") ∈ ζ
  uniq : ∀ q ∈ ζ, q.1 = P → q.2 = X.env.qual ++ "<lambda>"
  scp : LamP X.env.scope scope p
  dflt : defaultsOf params X.env = ([], [])
  bind : ∀ (q : Str) (cl : List (Str × Addr)) (pm cv ctv : Value) (u : Value), bindArgs (PySem.W.kla_fn "<lambda>" q params body scope cl pm cv ctv) ⟨[u], []⟩ = pure [(p, u)]
  msk : ∀ i : Nat, X.N[i]? = some p → bs[i]? = some true
  body : ∀ (A : Around) (s : Shared) (H : Hp) (f c' : Addr), Room k (A.deeper (lamEnv X scope s.heap.objs.size f c')) → PE (lamCxP X A X.stack s H scope p f c') body (tE ζ X.K fb)
/-- a lambda made: it can be called -/
theorem lam_make {params : Arguments} {body : Expr} {scope : Scope} {pos : Pos} {c P : Addr} {φ : Ad} {m : M} {E : Value → Shared → Prop} {Q : Value → Shared → Prop} (L : LamOk ζ X k bs fb p params body scope c P) (I : Inv X pins σ H s) (S : SR ζ X.K φ H m)
    (h : ∀ f H1 s', Inv X pins σ H1 s' → Gr φ H φ H1 → SR ζ X.K φ H1 m → LamAt ζ X k bs fb p f s' H1 → Q (.ref f) s') : wpAny (model X.prog X.w) X.A (eval (.Lambda params body scope pos) X.env) Q E s := by
  refine lam_make2 (T := ζ) I L.tb L.code L.mem L.uniq (by rw [← S.teq]; exact S.tab) L.dflt (L.scp.has I.ok) fun f c' pm ctv H1 s' I1 eN T1 hf hfn hfr hco => ?_
  refine h f H1 s' I1 (gr_extN eN) (S.extN eN (by rw [S.teq]; exact T1)) ⟨?_, hfn, hfr, ⟨_, hf⟩⟩
  intro pins σ H' s2 φ env m m1 r r1 v u A I2 e0 hr hfe hcc rv S2 E2 R2 hfb
  have hf2 := hf
  rw [hfe] at hf2
  refine wpAny_call (codeAny_mono (lam_callP (Q := fun x H'' => ∃ φ2, Gr φ H' φ2 H'' ∧ SR ζ X.K φ2 H'' m1 ∧ RR X.K φ2 H'' x r1) I2 L.scp e0 hr L.msk rv hf2 (hcc _ _ hco) (L.bind _ _ _ _ _ _) (fun _ => L.body A s2 H' f c' ‹_›)
    ⟨φ, some r :: mskL bs env, m, r1, m1, S2, er_msk E2 R2 bs, hfb, fun φ2 H2 v2 g2 S3 R3 => ⟨φ2, g2, S3, R3⟩⟩) fun q s3 hq => ?_)
  cases q with
  | error e => exact (noX_cx hq).elim
  | ok fl =>
    cases fl with
    | ret u2 =>
      obtain ⟨x, H2, os, bare, un, hok, rx, φ2, g2, S3, R3⟩ := hq
      obtain ⟨hh, g, d, t, os'⟩ := s3
      obtain rfl : os' = s2.os := os
      exact ⟨x, φ2, H2, rx, I2.call (h' := hh) (g' := g) (d' := d) (t' := t) (ch := []) un hok bare (fun b z => absurd z (by simp)), un, g2, S3, R3⟩
    | next => exact False.elim hq
    | brk => exact False.elim hq
    | cont => exact False.elim hq
end
/-- a key as data -/
def keyF (fb : EF) (bs : List Bool) (env : Sl) (d : D) (m : M) : Option (D × M) := (fb (some (.val d) :: mskL bs env) m).bind fun x => match x.1 with
  | .val k => some (k, x.2)
  | _ => none
def kfold (fk : D → M → Option (D × M)) : List D → M → Option (List D × M)
  | [], m => some ([], m)
  | d :: ds, m => (fk d m).bind fun x => (kfold fk ds x.2).bind fun y => some (x.1 :: y.1, y.2)
theorem kfold_len {fk : D → M → Option (D × M)} : ∀ {ds ks : List D} {m m' : M}, kfold fk ds m = some (ks, m') → ks.length = ds.length
  | [], _, _, _, h => by cases h; rfl
  | d :: ds, _, m, _, h => by
    obtain ⟨x, h1, h⟩ := bind_some_iff h
    obtain ⟨y, h2, h⟩ := bind_some_iff h
    cases h
    rw [List.length_cons, List.length_cons, kfold_len h2]
/-- stably by the keys -/
def sortKD (ks ds : List D) : List D := ((ks.zip ds).mergeSort (PySem.W.dataLe false Prod.fst)).map Prod.snd
def sortKF (fk : D → M → Option (D × M)) (ds : List D) (m : M) : Option (R × M) := (kfold fk ds m).bind fun x => if (sortableB x.1 && smallAll x.1 && decide (ds.length ≤ sizeLine)) = true then some (.val (.list (sortKD x.1 ds)), x.2) else none
/-- a value that reads as data -/
def Rk (K : PySem.W.Frag) (φ : Ad) (H : Hp) (v : Value) (d : D) : Prop := ∃ x : V, RelV x v ∧ Dp K (off φ H) x d
theorem Rk.mono {K : PySem.W.Frag} {φ φ' : Ad} {H H' : Hp} {v : Value} {d : D} (g : Gr φ H φ' H') (h : Rk K φ H v d) : Rk K φ' H' v d := by
  obtain ⟨x, r, q⟩ := h
  exact ⟨x, r, dp_mono g.same q⟩
theorem each_at {α β : Type} {F : α → β → Prop} : ∀ {as : List α} {bs : List β} {i : Nat} {a : α}, PySem.W.EachIs F as bs → as[i]? = some a → ∃ b, bs[i]? = some b ∧ F a b
  | _, _, _, _, .nil, e => by simp at e
  | _, _, 0, _, .cons (b := b) h t, e => by
    simp at e
    subst e
    exact ⟨b, rfl, h⟩
  | _, _, i + 1, _, .cons _ t, e => by
    obtain ⟨v, h1, h2⟩ := each_at (i := i) t (by simpa using e)
    exact ⟨v, by simpa using h1, h2⟩
theorem each_push {α β : Type} {F : α → β → Prop} : ∀ {as : List α} {bs : List β} {a : α} {b : β}, PySem.W.EachIs F as bs → F a b → PySem.W.EachIs F (as ++ [a]) (bs ++ [b])
  | _, _, _, _, .nil, h => .cons h .nil
  | _, _, _, _, .cons q t, h => .cons q (each_push t h)
theorem each_zip {α β γ : Type} {F : α → β → Prop} : ∀ {as : List α} {bs : List β} {cs : List γ}, cs.length = bs.length → PySem.W.EachIs F as bs → PySem.W.EachIs (fun a (q : γ × β) => F a q.2) as (cs.zip bs)
  | _, _, [], e, .nil => .nil
  | _, _, _ :: _, e, .nil => by simp at e
  | _, _, [], e, .cons _ _ => by simp at e
  | _, _, c :: cs, e, .cons q t => .cons q (each_zip (by simpa using e) t)
theorem each_mapB {α β γ : Type} {F : α → γ → Prop} (f : β → γ) : ∀ {as : List α} {bs : List β}, PySem.W.EachIs (fun a b => F a (f b)) as bs → PySem.W.EachIs F as (bs.map f)
  | _, _, .nil => .nil
  | _, _, .cons q t => .cons q (each_mapB f t)
section
variable {X : Cx} {pins : List (Addr × Obj)} {σ : L2.St} {H : Hp} {s : Shared} {k : Nat} {bs : List Bool} {fb : EF} {p : Str} {f : Addr}
theorem sortK_core {φ : Ad} {env : Sl} {m m' : M} {r : R} {ds : List D} {u : Value} {Q : VK} (I : Inv X pins σ H s) (hr : Room (k + 3) X.A) (S : SR ζ X.K φ H m) (E : ER X.K φ H σ env) (L : LamAt ζ X k bs fb p f s H) (hev : sortKF (keyF fb bs env) ds m = some (r, m'))
    (hcol : ∀ E' : Value → Shared → Prop, wpAny (model X.prog X.w) X.A.in1 (collect u) (fun vs s1 => Inv X pins σ H s1 ∧ (∀ b o, s.heap.get? b = some o → s1.heap.get? b = some o) ∧ PySem.W.EachIs (Rk X.K φ H) vs ds) E' s)
    (q : ∀ φ2 H2 v2, Gr φ H φ2 H2 → SR ζ X.K φ2 H2 m' → RR X.K φ2 H2 v2 r → Q v2 H2) :
    wpAny (model X.prog X.w) X.A (PySem.call (.builtin "sorted") [u] [(Str.ofString "key", .ref f)]) (EP X pins σ Q) X.xe s := by
  obtain ⟨⟨ks, mE⟩, hk, hev⟩ := bind_some_iff hev
  simp only at hev
  split at hev
  · rename_i hc
    cases hev
    rw [Bool.and_eq_true, Bool.and_eq_true] at hc
    obtain ⟨⟨c1, c2⟩, c3⟩ := hc
    obtain ⟨hal, hso⟩ := sortable_ok c1
    have hsm := of_decide_eq_true c2
    have hlen := of_decide_eq_true c3
    have hun := hr.un
    have hkl := kfold_len hk
    refine PySem.W.sorted_of_collect (PyProof.Rows.ksk_s1 _ _) (fun _ => PyProof.Rows.ksk_l1 _ _) fun E' => ?_
    refine wpAny_mono (hcol E') (fun vs s1 ⟨I1, up, hR⟩ => ⟨by rw [hR.length]; exact hlen, fun h2 c kp hsz hat E2 => ?_⟩) fun _ _ e => e
    rw [PyProof.Rows.ksk_t1]
    have I2 : Inv X pins σ H { s1 with heap := h2 } := I1.kept (t' := s1.toks) kp
    have nS : ∀ b : Addr, s1.heap.objs.size ≤ b → H b = none := fun b hb => I1.hok.fresh hb
    have nF : ∀ b : Addr, s1.heap.objs.size ≤ b → b ∉ frs X.stack := fun b hb z => by
      rcases List.mem_cons.mp (I1.stkSub _ z) with e | e
      · have h1 := I1.lt
        rw [← e] at h1
        exact Nat.lt_irrefl _ (Nat.lt_of_lt_of_le h1 hb)
      · exact I1.nofs hb e
    have hkS : s1.heap.objs.size ≤ h2.objs.size + 1 := by omega
    obtain ⟨of, hof⟩ := L.here
    have hflt : f < s1.heap.objs.size := Heap.lt_size (up _ _ hof)
    have hfa : f ≠ s1.heap.objs.size := Nat.ne_of_lt hflt
    have hfk : f ≠ h2.objs.size + 1 := by rw [hsz]; exact Nat.ne_of_lt (Nat.lt_succ_of_lt (Nat.lt_succ_of_lt hflt))
    have hka : h2.objs.size + 1 ≠ s1.heap.objs.size := by omega
    have fpk : ∀ {H' : Hp}, H' (h2.objs.size + 1) = none → FpOk X pins H' (h2.objs.size + 1) := fun h => I1.fpOk hkS h
    have fpa : ∀ {H' : Hp}, H' s1.heap.objs.size = none → FpOk X pins H' s1.heap.objs.size := fun h => I1.fpOk (Nat.le_refl _) h
    refine PySem.W.keyI_tree (s := { s1 with heap := h2 }) (n := c) (J := fun i keys s' => ∃ φ' H' m1 kds rest, Inv X pins σ H' s' ∧ Gr φ H φ' H' ∧ SR ζ X.K φ' H' m1 ∧ H' (h2.objs.size + 1) = none ∧ H' s1.heap.objs.size = none ∧ H' f = none ∧ s'.heap.get? f = s.heap.get? f ∧
        PySem.W.EachIs (Rk X.K φ' H') keys.toList kds ∧ kfold (keyF fb bs env) (ds.drop i) m1 = some (rest, m') ∧ ks = kds ++ rest) hat (by rw [hR.length]; exact hlen) (fun h' e1 k1 na nk => ?_) (fun i v keys e e1 s' hv hJ nk na => ?_) fun keys e s' hJ nk hsz2 => ?_
    · -- the start
      have I3 : Inv X pins σ H { s1 with heap := h' } := Inv.turnedL (s := { s1 with heap := h2 }) (t' := s1.toks) I2 (ch := [s1.heap.objs.size]) (fun b o hb e => k1 b o (fun z => hb (by simp [z])) e) (fun b hb => by
        rw [List.mem_singleton.mp hb]
        exact fpa (nS _ (Nat.le_refl _)))
      exact ⟨φ, H, m, [], ks, I3, .refl, S, nS _ hkS, nS _ (Nat.le_refl _), L.free, (k1 f _ hfa (kp _ _ (up _ _ hof))).trans hof.symm, .nil, hk, rfl⟩
    · -- a turn
      obtain ⟨φ', H', m1, kds, rest, I', g, S', nk', na', nf', hf', hkd, hfo, eks⟩ := hJ
      obtain ⟨d, hd, rd⟩ := each_at hR hv
      have hdr : ds.drop i = d :: ds.drop (i + 1) := by
        obtain ⟨hi, e⟩ := List.getElem?_eq_some_iff.mp hd
        rw [List.drop_eq_getElem_cons hi, e]
      rw [hdr] at hfo
      obtain ⟨⟨kd, m2⟩, h1, hfo⟩ := bind_some_iff hfo
      obtain ⟨⟨rest2, m3⟩, h3, hfo⟩ := bind_some_iff hfo
      cases hfo
      obtain ⟨⟨r1, m4⟩, h4, h1⟩ := bind_some_iff h1
      cases r1 with
      | tp j => first | (cases hf; done) | (cases e; done) | (cases h1; done) | (cases h; done) | (cases h7; done) | (cases h2; done)
      | ref j => cases h1
      | val kd' =>
        cases h1
        obtain ⟨x, rx, dx⟩ := Rk.mono g rd
        refine wpAny_mono (L.call I' I'.env0.in1.in1 (hr.in1.in1) hf'.symm (fun cc q hc => code_stay S g hc) rx S' (E.mono g) (r := .val d) dx h4) (fun kv s'' hq => ?_) fun _ _ e => e
        obtain ⟨x2, φ2, H2, rx2, I3, un, g2, S3, R3⟩ := hq
        have k2 : s''.heap.get? (h2.objs.size + 1) = some (seqObj "list" keys e) := un.keep _ _ nk nk' (nF _ hkS) (by simp)
        have a2 : s''.heap.get? s1.heap.objs.size = some (seqObj "list" #[] e1) := un.keep _ _ na na' (nF _ (Nat.le_refl _)) (by simp)
        have f2 : s''.heap.get? f = s.heap.get? f := by
          rw [hof] at hf' ⊢
          exact un.keep _ _ hf' nf' L.nofr (by simp)
        refine ⟨k2, a2, fun h' sb hex => ?_⟩
        have n2 : H2 (h2.objs.size + 1) = none := un.free _ _ nk nk' (by simp)
        have n3 : H2 s1.heap.objs.size = none := un.free _ _ na na' (by simp)
        have n4 : H2 f = none := un.free _ _ (hf'.trans hof) nf' (by simp)
        have I4 : Inv X pins σ H2 { s'' with heap := h' } := I3.turnedL (t' := s''.toks) (ch := [h2.objs.size + 1]) (fun b o hb e => by
            rw [sb.2 b (fun z => hb (by simp [z]))]
            exact e) (fun b hb => by
          rw [List.mem_singleton.mp hb]
          exact fpk n2)
        refine ⟨φ2, H2, m4, kds ++ [kd], rest2, I4, g.trans g2, S3, n2, n3, n4, (sb.2 f hfk).trans f2, ?_, h3, by rw [List.append_assoc]; exact eks⟩
        have : (keys.push kv).toList = keys.toList ++ [kv] := by simp
        rw [this]
        exact each_push (hkd.mono fun v d z => z.mono g2) ⟨x2, rx2, R3⟩
    · -- the end
      obtain ⟨φ', H', m1, kds, rest, I', g, S', nk', na', nf', hf', hkd, hfo, eks⟩ := hJ
      have hdr : ds.drop vs.length = [] := List.drop_eq_nil_of_le (by rw [hR.length]; exact Nat.le_refl _)
      rw [hdr] at hfo
      cases hfo
      rw [List.append_nil] at eks
      subst eks
      refine ⟨ks, hkd.mono fun v d ⟨x, r, q⟩ => Dp.reads I' _ _ _ (dp_mono off_same q) r, hal, hso, fun d hd => ?_, fun h' tk out c2 kb hb ko => ⟨rfl, ?_⟩⟩
      · have h1 := depth_all hd
        show X.A.units + 2 + d.depth < cLine
        omega
      · have hkk : (ks.zip ds).map Prod.fst = ks := by
          rw [List.map_fst_zip]
          omega
        have e0 := PySem.W.keyedOut_each (bs := ks.zip ds) Prod.fst (by rw [hkk]; exact ko) (each_zip hkl hR)
        have e1 : PySem.W.EachIs (Rk X.K φ H) out (sortKD ks ds) := each_mapB (F := Rk X.K φ H) Prod.snd e0
        obtain ⟨ys, rv, hd⟩ := of_each (e1.mono fun v d z => z.mono g)
        have hyl : ys.length ≤ sizeLine := by
          rw [rv.length, e1.length]
          unfold sortKD
          rw [List.length_map, List.length_mergeSort, List.length_zip]
          omega
        have hsz3 : s1.heap.objs.size < h2.objs.size := by omega
        have nin : ∀ b w, H' b = some w → b ≠ s1.heap.objs.size ∧ b ≠ h2.objs.size + 1 := fun b w e => ⟨(fun z => by rw [z, na'] at e; cases e), (fun z => by rw [z, nk'] at e; cases e)⟩
        have I5 : Inv X pins σ (upd H' s1.heap.objs.size (.lst ys)) { s' with heap := h', toks := tk } := by
          refine I'.step (g' := s'.gens) (d' := s'.drawn) (ch := [s1.heap.objs.size, h2.objs.size + 1]) (fun b hb => ?_) (fun b o _ _ hc e _ => kb b o (fun z => hc (by simp [z])) (fun z => hc (by simp [z])) e) (fun b o _ _ hc e _ => ⟨o.slots, kb b o (fun z => hc (by simp [z])) (fun z => hc (by simp [z])) e⟩)
            (fun b o hc _ n => by rw [upd_ne (fun z => hc (by simp [z]))]; exact n) (fun b o hc e => ⟨o, kb b o (fun z => hc (by simp [z])) (fun z => hc (by simp [z])) e⟩) (fun b xs e => by rw [upd_ne (nin b _ e).1]; exact e) (fun b o w e => by rw [upd_ne (nin b _ e).1]; exact e) (fun b ps e => ⟨#[], by rw [upd_ne (nin b _ e).1, e]; simp⟩)
            (fun mm hm => ?_) (fun b w e => ?_) I'.bare
          · rcases List.mem_cons.mp hb with z | z
            · subst z
              have f0 := fpa (H' := H') na'
              exact ⟨f0.2.2.2.1, f0.2.1, f0.2.2.2.2.1, f0.2.2.2.2.2⟩
            · rw [List.mem_singleton.mp z]
              have f0 := fpk (H' := H') nk'
              exact ⟨f0.2.2.2.1, f0.2.1, f0.2.2.2.2.1, f0.2.2.2.2.2⟩
          · obtain ⟨o, es, ep, ho, rr⟩ := hm
            exact ⟨o, es, ep, kb _ o (fpa (H' := H') na').2.1.symm (fpk (H' := H') nk').2.1.symm ho, rr⟩
          · by_cases hb2 : b = s1.heap.objs.size
            · subst hb2
              rw [upd_same] at e
              cases e
              exact ⟨hyl, out, c2, rv, hb⟩
            · rw [upd_ne hb2] at e
              refine (I'.hok b w e).stay (fun d v hd z => ?_) (fun d z => by rw [upd_ne (nin d _ z).1]; exact z) fun d xs z => by rw [upd_ne (nin d _ z).1]; exact z
              rcases hd with y | y
              · rw [y] at z ⊢
                exact kb _ _ (nin b _ e).1 (nin b _ e).2 z
              · exact kb _ _ (nin d _ y).1 (nin d _ y).2 z
        refine ⟨.ref s1.heap.objs.size, _, I5, rfl, q φ' _ _ (g.trans (gr_alloc na')) (S'.alloc na') (rr_newL S' na' hd)⟩
  · cases hev
end
theorem collect_tupV {P : Program} {w : World} {A : Around} {E : Value → Shared → Prop} {s : Shared} {l : Addr} {vs : List Value} {Q : List Value → Shared → Prop} (hl : IsTup s.heap l vs.toArray) (hz : vs.length ≤ sizeLine)
    (q : ∀ h' : Heap, (∀ b o, s.heap.get? b = some o → h'.get? b = some o) → Q vs { s with heap := h' }) : wpAny (model P w) A (collect (.ref l)) Q E s := by
  obtain ⟨o, ho, hc, n, hd⟩ := hl
  have hn : (s.heap.push (seqObj "list" #[] 0)).get? s.heap.objs.size = some (seqObj "list" #[] 0) := Heap.get?_push_size _ rfl
  have ho' : (s.heap.push (seqObj "list" #[] 0)).get? l = some o := Heap.get?_push_of_some _ ho
  unfold collect
  refine wpAny_bind (wpAny_runValue (codeAny_builtin F.entry_proto_collect ?_))
  refine wpAny_bind (m := newList []) (wpAny_newList (wpAny_pure ⟨plainId_quiet F.plain_list_iadd _, codeAny_builtin F.entry_list_iadd ?_⟩))
  show wpAny (model P w) _ (Builtin.List.listExtendWith (.ref s.heap.objs.size) (.ref l) (.ref s.heap.objs.size)) _ _ ⟨s.heap.push (seqObj "list" #[] 0), s.gens, s.drawn, s.toks, s.os⟩
  unfold Builtin.List.listExtendWith
  refine wpAny_bind (wpAny_typeOf (T := "tuple") ⟨o, ho', hc⟩ ?_)
  have ht : (Value.type "tuple" == Value.type "tuple") = true := rfl
  rw [if_pos (by rw [ht, Bool.or_true])]
  refine wpAny_bind (listItems_at ho' hd (wpAny_bind (listItems_at hn rfl ?_)))
  rw [if_neg (by simp)]
  refine wpAny_bind (listUpdate_at hn rfl (wpAny_pure ?_) (Nat.zero_le _) (by
    have e : (#[] ++ vs.toArray).size = vs.length := by simp
    rw [e]
    exact Nat.le_succ_of_le hz))
  refine wpAny_bind (m := load s.heap.objs.size) (wpAny_load (get?_update_seq hn _) ?_)
  have e : ((#[] : Array Value) ++ vs.toArray).toList = vs := by simp
  show wpAny _ _ (pure ((#[] : Array Value) ++ vs.toArray).toList) Q E _
  rw [e]
  refine wpAny_pure (q _ fun b u hb => ?_)
  have nb : b ≠ s.heap.objs.size := Nat.ne_of_lt (Heap.lt_size hb)
  rw [Heap.get?_update_ne _ _ _ _ nb]
  exact Heap.get?_push_of_some _ hb
section
variable {X : Cx} {k : Nat} {bs : List Bool} {fb fe : EF} {p : Str} {e body : Expr} {params : Arguments} {scope : Scope} {c P : Addr} {p0 pos lpos kpos : Pos}
/-- a list or a tuple as what is gone through -/
theorem col_LT {pins : List (Addr × Obj)} {σ : L2.St} {φ : Ad} {H : Hp} {m : M} {s : Shared} {r : R} {v : V} {u : Value} {ds : List D} (I : Inv X pins σ H s) (S : SR ζ X.K φ H m) (R : RR X.K φ H v r) (rv : RelV v u) (h : asLT r m = some ds) {A : Around} {E : Value → Shared → Prop} :
    wpAny (model X.prog X.w) A (collect u) (fun vs s1 => Inv X pins σ H s1 ∧ (∀ b o, s.heap.get? b = some o → s1.heap.get? b = some o) ∧ PySem.W.EachIs (Rk X.K φ H) vs ds) E s := by
  by_cases ht : ∃ ts, r = .val (.tuple ts)
  · obtain ⟨ts, rfl⟩ := ht
    cases h
    obtain ⟨a, xs, rfl, hs, hd⟩ := seqT_of R
    obtain rfl : u = Value.ref a := rv
    obtain ⟨its, rvs, hl, hz⟩ := I.tuple hs
    refine collect_tupV hl (by rw [← rvs.length]; exact hz) fun h' up => ⟨I.kept (t' := s.toks) up, up, each_of hd rvs⟩
  · have h2 : asL r m = some ds := by
      unfold asLT at h
      split at h
      · exact absurd ⟨_, rfl⟩ ht
      · exact h
    obtain ⟨a, xs, rfl, hs, hd⟩ := seqL_of S R h2
    obtain rfl : u = Value.ref a := rv
    obtain ⟨its, rvs, hl, hz⟩ := I.list hs
    have up : ∀ b o, s.heap.get? b = some o → ((s.heap.push (seqObj "list" #[] 0)).update s.heap.objs.size (Obj.mapSeq (· ++ its.toArray))).get? b = some o := fun b o hb => by
      rw [Heap.get?_update_ne _ _ _ _ (Nat.ne_of_lt (Heap.lt_size hb))]
      exact Heap.get?_push_of_some _ hb
    refine collect_list hl.isList ⟨I.kept (t' := s.toks) up, up, each_of hd rvs⟩ (by rw [← rvs.length]; exact hz)
def lst1 (fa : AF) : Sl → M → Option (R × M) := fun env m => (fa env m).bind fun x => match x.1 with
  | [r] => some (r, x.2)
  | _ => none
def eSortK (bs : List Bool) (fb : EF) (fa : AF) : EF := fun env m => (lst1 fa env m).bind fun x => (asLT x.1 x.2).bind fun ds => sortKF (keyF fb bs env) ds x.2
theorem x_sortK {fa : AF} (L : LamOk ζ X k bs fb p params body scope c P) (hr : Room (k + 3) X.A) (hg : Gl X "sorted") (hm : X.mg "sorted" = none) (ha : PA X [e] (tA ζ X.K fa))
    (h1 : backTo pos (starEach [e] X.env) = (false, eval e X.env) :: backTo pos (starEach [] X.env) := by rfl) (h2 : (backTo pos (starEach [e] X.env)).any (·.1) = false := by rfl) :
    PE X (.Call (.Name "sorted" p0) [e] [⟨some "key", .Lambda params body scope lpos, kpos⟩] pos) (tE ζ X.K (eSortK bs fb fa)) := by
  refine ⟨fun pins s σ H Q I h => ?_⟩
  obtain ⟨φ, env, m, r, m', S, E, hf, q⟩ := h
  obtain ⟨⟨r1, m1⟩, h3, hf⟩ := bind_some_iff hf
  obtain ⟨ds, h4, hf⟩ := bind_some_iff hf
  obtain ⟨⟨rs, m2⟩, h5, h3⟩ := bind_some_iff h3
  simp only at h3
  split at h3
  · rename_i r0
    cases h3
    refine wpAny_Call_Name_kw (ld_blt I hg hm bt_sorted ?_)
    refine callWith_kw (thn (ha.run pos pins s σ H (fun vs H1 => ∃ φ1, Gr φ H φ1 H1 ∧ SR ζ X.K φ1 H1 m1 ∧ RRs X.K φ1 H1 vs [r1]) I ⟨φ, env, m, [r1], m1, S, E, h5, fun φ1 H1 vs g1 S1 R1 => ⟨φ1, g1, S1, R1⟩⟩) fun us s1 ⟨vs, H1, I1, rvs, φ1, g1, S1, R1⟩ => ?_) h1 h2
    cases R1 with
    | cons R1 R0 =>
      cases R0
      obtain ⟨u, rfl, rv⟩ := one_val rvs
      show wpAny _ _ (evalAll ((do let v ← eval (.Lambda params body scope lpos) X.env; standAt pos; pure v) :: (backToKw pos (keywordEach [] X.env)).map (·.2))) _ _ s1
      refine wpAny_evalAll_cons (wpAny_bind (lam_make L I1 S1 fun f H2 s2 I2 g2 S2 LA => wpAny_bind (wpAny_standAt (wpAny_pure (wpAny_evalAll_nil ?_)))))
      exact sortK_core I2 hr S2 (E.mono (g1.trans g2)) LA hf (fun E' => col_LT I2 S2 (R1.mono g2) rv h4) fun φ2 H3 v2 g3 S3 R3 => q φ2 H3 v2 (g1.trans (g2.trans g3)) S3 R3
  · cases h3
/-! ranges -/
theorem cr_range1 : CallR X (.type "range") (fun vs H Q => ∃ j, vs = [V.int j] ∧ ∀ p, H p = none → Q (.ref p) (upd H p (.rng 0 j))) := by
  intro pins s σ H vs us Q I r h
  obtain ⟨j, rfl, q⟩ := h
  obtain ⟨u1, rfl, rj⟩ := one_val r
  obtain ⟨t, rfl⟩ := rj
  refine call_range_1 ⟨.ref s.heap.objs.size, upd H s.heap.objs.size (.rng 0 j), I.laid (fun b o z => Heap.get?_push_of_some _ z) (Nat.le_refl _) ?_, rfl, q _ (I.hok.fresh (Nat.le_refl _))⟩
  exact ⟨_, t, _, Heap.get?_push_size _ rfl⟩
/-- range(b) or range(a, b): the bounds -/
def bds (rs : List R) : Option (Int × Int) := match rs with
  | [.val (.int j)] => some (0, j)
  | [.val (.int i), .val (.int j)] => some (i, j)
  | _ => none
theorem col_R {pins : List (Addr × Obj)} {σ : L2.St} {φ : Ad} {H : Hp} {s : Shared} {a : Addr} {i j : Int} (I : Inv X pins σ H s) (hc : X.calm = true) (h : H a = some (.rng i j)) (ok : RgOk i j) {E : Value → Shared → Prop} :
    wpAny (model X.prog X.w) X.A.in1 (collect (.ref a)) (fun vs s1 => Inv X pins σ H s1 ∧ (∀ b o, s.heap.get? b = some o → s1.heap.get? b = some o) ∧ PySem.W.EachIs (Rk X.K φ H) vs (rngD i (j - i).toNat)) E s := by
  obtain ⟨t, u, v, ho⟩ := I.hok a _ h
  obtain ⟨b1, b2, b3, b4, b5⟩ := ok
  refine collect_range (A := X.A.in1) (a := i) (b := j) (c := 1) (t := t) (u := u) (v := v) (n := (j - i).toNat) (I.ok.hd hc) ho (small_one b1 b2 b3 b4) (rangeSize_nat i j) b5 fun h' tk acc up hi => ⟨I.kept up, up, ?_⟩
  exact each_of (rgV_dp i j) (vals_rg hi)
def eSortKR (bs : List Bool) (fb : EF) (fa : AF) : EF := fun env m => (fa env m).bind fun x => (bds x.1).bind fun b => if rgOkB b.1 b.2 = true then sortKF (keyF fb bs env) (rngD b.1 (b.2 - b.1).toNat) x.2 else none
theorem x_sortKR {e : Expr} {es : List Expr} {fa : AF} {pr pr2 : Pos} (L : LamOk ζ X k bs fb p params body scope c P) (hc : X.calm = true) (hr : Room (k + 3) X.A) (hg : Gl X "sorted") (hm : X.mg "sorted" = none) (hg2 : Gl X "range") (hm2 : X.mg "range" = none) (ha : PA X (e :: es) (tA ζ X.K fa))
    (he : starEach (e :: es) X.env = (false, eval e X.env) :: starEach es X.env := by rfl) (hpl : (backTo pr2 (starEach es X.env)).any (·.1) = false := by rfl)
    (h0 : starEach [.Call (.Name "range" pr) (e :: es) [] pr2] X.env = (false, eval (.Call (.Name "range" pr) (e :: es) [] pr2) X.env) :: starEach [] X.env := by rfl)
    (h1 : backTo pos (starEach [.Call (.Name "range" pr) (e :: es) [] pr2] X.env) = (false, eval (.Call (.Name "range" pr) (e :: es) [] pr2) X.env) :: backTo pos (starEach [] X.env) := by rfl) (h2 : (backTo pos (starEach [.Call (.Name "range" pr) (e :: es) [] pr2] X.env)).any (·.1) = false := by rfl) :
    PE X (.Call (.Name "sorted" p0) [.Call (.Name "range" pr) (e :: es) [] pr2] [⟨some "key", .Lambda params body scope lpos, kpos⟩] pos) (tE ζ X.K (eSortKR bs fb fa)) := by
  refine ⟨fun pins s σ H Q I h => ?_⟩
  obtain ⟨φ, env, m, r, m', S, E, hf, q⟩ := h
  obtain ⟨⟨rs, m1⟩, h5, hf⟩ := bind_some_iff hf
  obtain ⟨⟨i, j⟩, h4, hf⟩ := bind_some_iff hf
  simp only at hf h4
  split at hf
  · rename_i ok
    have hrg : ∀ vs H1 φ1 (Q : VK), RRs X.K φ1 H1 vs rs → (∀ p, H1 p = none → Q (.ref p) (upd H1 p (.rng i j))) → (∀ pins s σ us, Inv X pins σ H1 s → Vals vs us → wpAny (model X.prog X.w) X.A (call (.type "range") us) (EP X pins σ Q) X.xe s) := by
      intro vs H1 φ1 Q R q pins s σ us I rv
      unfold bds at h4
      split at h4
      · cases h4
        cases R with
        | cons a t =>
          cases t
          have e := rr_int a
          subst e
          exact cr_range1 pins s σ H1 _ us Q I rv ⟨_, rfl, q⟩
      · cases h4
        cases R with
        | cons a t =>
          cases t with
          | cons b t =>
            cases t
            have e := rr_int a
            have e2 := rr_int b
            subst e e2
            exact cr_range2 pins s σ H1 _ us Q I rv ⟨_, _, rfl, q⟩
      · cases h4
    have hR : PE X (.Call (.Name "range" pr) (e :: es) [] pr2) (fun σ H Q => ∃ φ env m m', SR ζ X.K φ H m ∧ ER X.K φ H σ env ∧ fa env m = some (rs, m') ∧ ∀ φ' H' p, Gr φ H φ' H' → SR ζ X.K φ' H' m' → H' p = none → Q (.ref p) (upd H' p (.rng i j))) := by
      refine ⟨fun pins s σ H Q I h => ?_⟩
      obtain ⟨φ, env, m, m', S, E, hf, q⟩ := h
      refine wpAny_Call_Name_kw (ld_blt I hg2 hm2 boot_range ?_)
      refine PyProof.Rows.callWith_type1 (thn (ha.run pr2 pins s σ H (fun vs H1 => ∃ φ1, Gr φ H φ1 H1 ∧ SR ζ X.K φ1 H1 m' ∧ RRs X.K φ1 H1 vs rs) I ⟨φ, env, m, rs, m', S, E, hf, fun φ1 H1 vs g1 S1 R1 => ⟨φ1, g1, S1, R1⟩⟩) fun us s1 ⟨vs, H1, I1, rvs, φ1, g1, S1, R1⟩ => ?_) he hpl
      exact hrg vs H1 φ1 Q R1 (fun p hp => q φ1 H1 p g1 S1 hp) pins s1 σ us I1 rvs
    refine wpAny_Call_Name_kw (ld_blt I hg hm bt_sorted ?_)
    refine callWith_kw (args_cons (thn (hR.run pins s σ H (fun v H1 => ∃ φ1 p, Gr φ H φ1 H1 ∧ SR ζ X.K φ1 H1 m1 ∧ v = .ref p ∧ off φ1 H1 p = some (.rng i j)) I ⟨φ, env, m, m1, S, E, h5, fun φ1 H1 p g1 S1 hp => ⟨φ1, p, g1.trans (gr_alloc hp), S1.alloc hp, rfl, off_some.mpr ⟨S1.new hp, upd_same, rfl⟩⟩⟩) fun u s1 ⟨v, H1, I1, rv, φ1, p1, g1, S1, ev, ho⟩ => args_nil ?_) h0) h1 h2
    subst ev
    obtain rfl : u = Value.ref p1 := rv
    show wpAny _ _ (evalAll ((do let v ← eval (.Lambda params body scope lpos) X.env; standAt pos; pure v) :: (backToKw pos (keywordEach [] X.env)).map (·.2))) _ _ s1
    refine wpAny_evalAll_cons (wpAny_bind (lam_make L I1 S1 fun f H2 s2 I2 g2 S2 LA => wpAny_bind (wpAny_standAt (wpAny_pure (wpAny_evalAll_nil ?_)))))
    exact sortK_core I2 hr S2 (E.mono (g1.trans g2)) LA hf (fun E' => col_R I2 hc (off_some.mp (g2.same _ _ ho)).2.1 (rgOk_of ok)) fun φ2 H3 v2 g3 S3 R3 => q φ2 H3 v2 (g1.trans (g2.trans g3)) S3 R3
  · cases hf
end
end Ev
namespace Ev
open PySem PySem.Spec PyProof.Rows L2 LamX
theorem msk_ok {N : List Str} {p : Str} {bs : List Bool} (h : (N.map fun x => decide (x = p)) = bs) (i : Nat) (e : N[i]? = some p) : bs[i]? = some true := by
  rw [← h, List.getElem?_map, e]
  simp
theorem msk_no {N : List Str} {p : Str} {bs : List Bool} (h : N.contains p = false) (i : Nat) (e : N[i]? = some p) : bs[i]? = some true := by
  have := List.mem_of_getElem? e
  rw [← List.contains_iff_mem, h] at this
  cases this
theorem tab_uniq : ∀ (ζ : Tbs) {P : Addr} {x : Str}, (ζ.map Prod.fst).Nodup → (P, x) ∈ ζ → ∀ p ∈ ζ, p.1 = P → p.2 = x
  | [], _, _, _, h => by cases h
  | z :: ζ, P, x, nd, h => fun p hp e => by
    rw [List.map_cons, List.nodup_cons] at nd
    rcases List.mem_cons.mp h with h | h
    · rcases List.mem_cons.mp hp with q | q
      · rw [q, ← h]
      · exact absurd (List.mem_map.mpr ⟨p, q, by rw [e, ← h]⟩) nd.1
    · rcases List.mem_cons.mp hp with q | q
      · refine absurd (List.mem_map.mpr ⟨_, h, ?_⟩) nd.1
        rw [← q, e]
      · exact tab_uniq ζ nd.2 h p q e
end Ev

/-! fractions, in plain Lean -/
namespace Qa
theorem low_num (n d : Int) (h : 0 < d) : n / (Int.gcd n d : Int) = ((n:Rat)/d).num ∧ d / (Int.gcd n d : Int) = (((n:Rat)/d).den : Int) := by
  rw [← Rat.divInt_eq_div, Rat.num_divInt, Rat.den_divInt]
  rw [Int.sign_eq_one_of_pos h, Int.gcd_comm d n]
  constructor
  · rw [Int.one_mul]
  · rw [if_neg (by omega)]
    have : (d.natAbs : Int) = d := by omega
    push_cast
    rw [this]
theorem frac (x : Rat) : ((x.num : Int) : Rat) / (((x.den : Nat) : Int) : Rat) = x := by
  rw [← Rat.divInt_eq_div, Rat.num_divInt_den]
theorem den_pos (x : Rat) : (0 : Int) < ((x.den : Nat) : Int) := by
  have := x.den_nz
  omega
theorem den_ne (x : Rat) : (((x.den : Nat) : Int) : Rat) ≠ 0 := by
  have h := x.den_nz
  intro e
  have : ((x.den : Nat) : Int) = 0 := by exact_mod_cast e
  omega
theorem add_eq (x y : Rat) : (((x.num * y.den + y.num * x.den : Int)) : Rat) / ((((x.den * y.den : Int))) : Rat) = x + y := by
  have h1 := frac x
  have h2 := frac y
  have h3 := den_ne x
  have h4 := den_ne y
  push_cast at *
  generalize ((x.num : Int) : Rat) = a at *
  generalize ((y.num : Int) : Rat) = b at *
  generalize ((x.den : Nat) : Rat) = c at *
  generalize ((y.den : Nat) : Rat) = d at *
  rw [← h1, ← h2]
  grind
theorem mul_eq (x y : Rat) : (((x.num * y.num : Int)) : Rat) / ((((x.den * y.den : Int))) : Rat) = x * y := by
  have h1 := frac x
  have h2 := frac y
  have h3 := den_ne x
  have h4 := den_ne y
  push_cast at *
  generalize ((x.num : Int) : Rat) = a at *
  generalize ((y.num : Int) : Rat) = b at *
  generalize ((x.den : Nat) : Rat) = c at *
  generalize ((y.den : Nat) : Rat) = d at *
  rw [← h1, ← h2]
  grind
theorem num_neg (x : Rat) : (-x).num = -x.num ∧ (-x).den = x.den := ⟨rfl, rfl⟩
/-- a multiple of 1 / N -/
def In (N : Nat) (x : Rat) : Prop := ∃ k : Int, x * (N : Rat) = k
theorem In.add {N : Nat} {x y : Rat} (a : In N x) (b : In N y) : In N (x + y) := by
  obtain ⟨k, a⟩ := a
  obtain ⟨l, b⟩ := b
  refine ⟨k + l, ?_⟩
  push_cast
  grind
theorem In.neg {N : Nat} {x : Rat} (a : In N x) : In N (-x) := by
  obtain ⟨k, a⟩ := a
  refine ⟨-k, ?_⟩
  push_cast
  grind
theorem In.sub {N : Nat} {x y : Rat} (a : In N x) (b : In N y) : In N (x - y) := by
  obtain ⟨k, a⟩ := a
  obtain ⟨l, b⟩ := b
  refine ⟨k - l, ?_⟩
  push_cast
  grind
theorem In.mul {N M : Nat} {x y : Rat} (a : In N x) (b : In M y) : In (N * M) (x * y) := by
  obtain ⟨k, a⟩ := a
  obtain ⟨l, b⟩ := b
  refine ⟨k * l, ?_⟩
  push_cast
  grind
theorem In.int {N : Nat} (i : Int) : In N (i : Rat) := ⟨i * N, by push_cast; rfl⟩
theorem In.nat {N : Nat} (i : Nat) : In N (i : Rat) := ⟨i * N, by push_cast; rfl⟩
theorem In.up {N : Nat} {x : Rat} (a : In N x) (M : Nat) : In (N * M) x := by
  obtain ⟨k, a⟩ := a
  refine ⟨k * M, ?_⟩
  push_cast
  grind
theorem In.dvd {N M : Nat} {x : Rat} (a : In N x) (h : N ∣ M) : In M x := by
  obtain ⟨c, rfl⟩ := h
  exact a.up c
theorem In.inv {N : Nat} (h : 0 < N) : In N (1 / (N : Rat)) := ⟨1, by
  have : (N : Rat) ≠ 0 := by
    intro e
    have : N = 0 := by exact_mod_cast e
    omega
  grind⟩
theorem In.den {N : Nat} {x : Rat} (hN : 0 < N) (a : In N x) : x.den ∣ N := by
  obtain ⟨k, a⟩ := a
  have hn : (N : Rat) ≠ 0 := by
    intro e
    have : N = 0 := by exact_mod_cast e
    omega
  have e : x = (k : Rat) / (((N : Nat) : Int) : Rat) := by
    push_cast
    grind
  have h2 := (low_num k N (by omega)).2
  rw [← e] at h2
  have h3 : (x.den : Int) * (Int.gcd k N : Int) = N := by
    rw [← h2]
    exact Int.ediv_mul_cancel (Int.gcd_dvd_right _ _)
  exact ⟨Int.gcd k N, by exact_mod_cast h3.symm⟩
theorem In.den_le {N : Nat} {x : Rat} (hN : 0 < N) (a : In N x) : x.den ≤ N := Nat.le_of_dvd hN (a.den hN)
theorem num_le {B : Nat} {x : Rat} (h1 : -(B : Rat) ≤ x) (h2 : x ≤ (B : Rat)) : x.num.natAbs ≤ B * x.den := by
  have e1 := Rat.le_iff (a := -(B : Rat)) (b := x)
  have e2 := Rat.le_iff (a := x) (b := (B : Rat))
  have a1 := e1.mp h1
  have a2 := e2.mp h2
  have n1 : (-(B : Rat)).num = -(B : Int) := rfl
  have n2 : ((B : Rat)).num = (B : Int) := rfl
  have n3 : (-(B : Rat)).den = 1 := rfl
  have n4 : ((B : Rat)).den = 1 := rfl
  rw [n1, n3] at a1
  rw [n2, n4] at a2
  have e3 : (-(B : Int)) * (x.den : Int) = -(((B * x.den : Nat)) : Int) := by push_cast; grind
  have e4 : ((B : Int)) * (x.den : Int) = (((B * x.den : Nat)) : Int) := by push_cast; rfl
  rw [e3] at a1
  rw [e4] at a2
  omega
end Qa

set_option Elab.async false
set_option linter.all false
set_option maxRecDepth 100000
/-! greatest common divisors, fractions. -/
namespace Ev
open PySem PySem.Spec PyProof.Rows L2 Qa
theorem gcd_loop {c : TF} {body : SF} {m : M} (e : Nat → Nat → Sl) (hc : ∀ a b, c (e a b) m = some (decide (0 < b), m)) (hb : ∀ a b, 0 < b → body (e a b) m = some (.nx (e b (a % b)) m)) :
    ∀ (k n a b : Nat), b < 2 ^ k → 2 * k + 1 ≤ n → wloop c body n (e a b) m = some (.nx (e (Nat.gcd a b) 0) m)
  | k, 0, a, b, _, h => by omega
  | k, n + 1, a, 0, _, _ => by
    unfold wloop
    rw [hc, ob_some]
    simp
  | 0, n + 1, a, b + 1, h, _ => by simp at h
  | k + 1, n + 1, a, b + 1, h, hn => by
    have hp : 0 < b + 1 := Nat.succ_pos b
    have hlt : a % (b + 1) < b + 1 := Nat.mod_lt a hp
    unfold wloop
    rw [hc, ob_some]
    simp only [hp, decide_true, if_true]
    rw [hb a (b + 1) hp, ob_some, ev_aft_nx]
    have e1 : Nat.gcd a (b + 1) = Nat.gcd (b + 1) (a % (b + 1)) := by rw [Nat.gcd_comm a, Nat.gcd_rec, Nat.gcd_comm]
    rw [e1]
    cases n with
    | zero => omega
    | succ n =>
      by_cases hr : a % (b + 1) = 0
      · rw [hr]
        unfold wloop
        rw [hc, ob_some]
        simp
      · have hrp : 0 < a % (b + 1) := Nat.pos_of_ne_zero hr
        unfold wloop
        rw [hc, ob_some]
        simp only [hrp, decide_true, if_true]
        rw [hb _ _ hrp, ob_some, ev_aft_nx]
        have h2 : (b + 1) % (a % (b + 1)) < 2 ^ k := by
          have h3 : (b + 1) % (a % (b + 1)) < a % (b + 1) := Nat.mod_lt _ hrp
          have h4 : (b + 1) % (a % (b + 1)) + a % (b + 1) ≤ b + 1 := by
            have h5 := Nat.div_add_mod (b + 1) (a % (b + 1))
            have h6 : 1 ≤ (b + 1) / (a % (b + 1)) := Nat.div_pos (Nat.le_of_lt hlt) hrp
            have h7 : a % (b + 1) * 1 ≤ a % (b + 1) * ((b + 1) / (a % (b + 1))) := Nat.mul_le_mul_left _ h6
            omega
          rw [Nat.pow_succ] at h
          omega
        rw [gcd_loop e hc hb k n _ _ h2 (by omega)]
        have e2 : Nat.gcd (a % (b + 1)) ((b + 1) % (a % (b + 1))) = Nat.gcd (b + 1) (a % (b + 1)) := by rw [Nat.gcd_comm (a % (b + 1)), ← Nat.gcd_rec, Nat.gcd_comm]
        rw [e2]
/-- small: below 2 ^ k -/
def Sz (k : Nat) (i : Int) : Prop := i.natAbs < 2 ^ k
theorem Sz.log {k : Nat} {i : Int} (h : Sz k i) : i.natAbs.log2 ≤ k := by
  by_cases z : i.natAbs = 0
  · rw [z]; exact Nat.zero_le _
  · exact Nat.le_of_lt ((Nat.log2_lt z).mpr h)
theorem Sz.mul {k l : Nat} {i j : Int} (a : Sz k i) (b : Sz l j) : Sz (k + l) (i * j) := by
  unfold Sz at *
  rw [Int.natAbs_mul, Nat.pow_add]
  exact Nat.mul_lt_mul'' a b
theorem Sz.up {k l : Nat} {i : Int} (a : Sz k i) (h : k ≤ l) : Sz l i := Nat.lt_of_lt_of_le a (Nat.pow_le_pow_right (by decide) h)
theorem Sz.add {k : Nat} {i j : Int} (a : Sz k i) (b : Sz k j) : Sz (k + 1) (i + j) := by
  unfold Sz at *
  rw [Nat.pow_succ]
  omega
theorem Sz.neg {k : Nat} {i : Int} (a : Sz k i) : Sz k (-i) := by
  unfold Sz at *
  omega
theorem pm_sz {k l : Nat} {i j : Int} {m : M} (a : Sz k i) (b : Sz l j) (h : k + l < 900000) : pMul (.val (.int i)) (.val (.int j)) m = some (.val (.int (i * j)), m) := by
  have h : mulOk i j = true := by
    have h1 := a.log
    have h2 := b.log
    exact decide_eq_true (by omega)
  show (if mulOk i j = true then some (R.val (.int (i * j)), m) else none) = _
  rw [if_pos h]
theorem pdv_sz {k : Nat} {i j : Int} {m : M} (hj : 0 < j) (b : Sz k j) (h : k < 8000) : pDiv (.val (.int i)) (.val (.int j)) m = some (.val (.int (i / j)), m) := by
  have h : divOk i j = true := by
    have h2 := b.log
    exact decide_eq_true ⟨hj, by omega⟩
  show (if divOk i j = true then some (R.val (.int (i / j)), m) else none) = _
  rw [if_pos h]
/-- a fraction as the program has it -/
def encQ (x : Rat) : D := .tuple [.int x.num, .int (x.den : Int)]
/-- below 2 ^ 1000, above and below the line -/
structure SmQ (x : Rat) : Prop where
  num : Sz 1000 x.num
  den : Sz 1000 (x.den : Int)
theorem SmQ.of {N B : Nat} {x : Rat} (hN : 0 < N) (a : In N x) (h1 : -(B : Rat) ≤ x) (h2 : x ≤ (B : Rat)) (h : B * N < 2 ^ 1000) (hN2 : N < 2 ^ 1000) : SmQ x := by
  have h3 := num_le h1 h2
  have h4 := a.den_le hN
  refine ⟨Nat.lt_of_le_of_lt (Nat.le_trans h3 (Nat.mul_le_mul_left B h4)) h, ?_⟩
  show ((x.den : Nat) : Int).natAbs < 2 ^ 1000
  rw [Int.natAbs_natCast]
  exact Nat.lt_of_le_of_lt h4 hN2
theorem SmQ.nat {n : Nat} (h : n < 2 ^ 1000) : SmQ (n : Rat) := ⟨by show ((n : Nat) : Int).natAbs < _; rw [Int.natAbs_natCast]; exact h, by show (1 : Nat) < 2 ^ 1000; exact Nat.one_lt_two_pow (by decide)⟩
theorem encQ_nat (n : Nat) : encQ (n : Rat) = .tuple [.int n, .int 1] := rfl
theorem encQ_0 : encQ 0 = .tuple [.int 0, .int 1] := rfl
theorem encQ_1 : encQ 1 = .tuple [.int 1, .int 1] := rfl
theorem inv_num {n : Nat} (h : 0 < n) : (1 / (n : Rat)).num = 1 ∧ (1 / (n : Rat)).den = n := by
  have e := low_num 1 n (by omega)
  have g : Int.gcd 1 n = 1 := by simp
  rw [g] at e
  have e2 : ((1 : Int) : Rat) / (((n : Nat) : Int) : Rat) = 1 / (n : Rat) := by push_cast; rfl
  rw [e2] at e
  refine ⟨by rw [← e.1]; simp, ?_⟩
  have := e.2
  have h2 : ((n : Nat) : Int) / ((1 : Nat) : Int) = n := by simp
  rw [h2] at this
  exact_mod_cast this.symm
theorem encQ_inv {n : Nat} (h : 0 < n) : encQ (1 / (n : Rat)) = .tuple [.int 1, .int n] := by
  unfold encQ
  rw [(inv_num h).1, (inv_num h).2]
theorem encQ_neg (x : Rat) : encQ (-x) = .tuple [.int (-x.num), .int (x.den : Int)] := rfl
theorem pixq0 {x : Rat} {m : M} : pIdx (.val (encQ x)) (.val (.int 0)) m = some (.val (.int x.num), m) := by
  unfold encQ
  rw [pix_t, atI_0]
  rfl
theorem pixq1 {x : Rat} {m : M} : pIdx (.val (encQ x)) (.val (.int 1)) m = some (.val (.int (x.den : Int)), m) := by
  unfold encQ
  rw [pix_t, atI_1]
  rfl
theorem num_pos (x : Rat) : 0 < x.num ↔ 0 < x := by
  rw [Rat.lt_iff]
  have h1 : (0 : Rat).num = 0 := rfl
  have h2 : (0 : Rat).den = 1 := rfl
  rw [h1, h2]
  simp
theorem num_zero (x : Rat) : x.num = 0 ↔ x = 0 := Rat.num_eq_zero
/-- ints as data -/
def encI (l : List Nat) : List D := l.map fun a : Nat => .int a
def encT (l : List Nat) : D := .tuple (encI l)
theorem encI_len (l : List Nat) : (encI l).length = l.length := by unfold encI; rw [List.length_map]
theorem encI_get {l : List Nat} {i a : Nat} (h : l[i]? = some a) : (encI l)[i]? = some (.int a) := by
  unfold encI
  rw [List.getElem?_map, h]
  rfl
theorem sum_cast : ∀ l : List Nat, (l.map fun a : Nat => (a : Int)).sum = ((l.sum : Nat) : Int)
  | [] => rfl
  | a :: l => by
    rw [List.map_cons, List.sum_cons, sum_cast l, List.sum_cons]
    push_cast
    rfl
theorem psum_T {l : List Nat} {m : M} : pSum [.val (encT l)] m = some (.val (.int (l.sum : Nat)), m) := by
  have h := psum_t (m := m) l (fun a : Nat => (a : Int))
  rw [sum_cast] at h
  exact h
theorem plen_T {l : List Nat} {m : M} : pLen [.val (encT l)] m = some (.val (.int (l.length : Nat)), m) := by
  unfold encT
  rw [plen_t, encI_len]
theorem pix_T {l : List Nat} {i a : Nat} {m : M} (h : l[i]? = some a) : pIdx (.val (encT l)) (.val (.int (i : Nat))) m = some (.val (.int a), m) := by
  unfold encT
  rw [pix_t, at_nat (encI_get h)]
  rfl
theorem pix_T0 {l : List Nat} {a : Nat} {m : M} (h : l[0]? = some a) : pIdx (.val (encT l)) (.val (.int 0)) m = some (.val (.int a), m) := pix_T (i := 0) h
/-! slices -/
def sl1 (r : R) (lo hi : Option Int) (m : M) : Option (R × M) := match r with
  | .val (.tuple ds) => some (.val (.tuple (cutD ds lo hi)), m)
  | r => (asL r m).bind fun ds => some (.val (.list (cutD ds lo hi)), m)
theorem ev_sl {f : EF} {l h : OF} {env : Sl} {m : M} : eSl f l h env m = (f env m).bind fun x => (l env x.2).bind fun y => (h env y.2).bind fun z => sl1 x.1 y.1 z.1 z.2 := nr rfl
theorem ev_oNone {env : Sl} {m : M} : oNone env m = some (none, m) := nr rfl
theorem ev_oSome {f : EF} {env : Sl} {m : M} : oSome f env m = (f env m).bind fun x => (asI x.1).bind fun i => some (some i, x.2) := nr rfl
theorem sl1_r {k : Nat} {m : M} {ds : List D} {lo hi : Option Int} (h : m[k]? = some (.lst ds)) : sl1 (.ref k) lo hi m = some (.val (.list (cutD ds lo hi)), m) := by
  show ((asL (.ref k) m).bind fun ds => some (R.val (.list (cutD ds lo hi)), m)) = _
  rw [asL_r h]
  rfl
theorem sl1_t {m : M} {ds : List D} {lo hi : Option Int} : sl1 (.val (.tuple ds)) lo hi m = some (.val (.tuple (cutD ds lo hi)), m) := nr rfl
theorem sl1_l {m : M} {ds : List D} {lo hi : Option Int} : sl1 (.val (.list ds)) lo hi m = some (.val (.list (cutD ds lo hi)), m) := nr rfl
theorem six_nat {n d k : Nat} : HT.sIx n d (some (k : Int)) = min k n := by
  unfold HT.sIx
  simp
  omega
theorem cut_take {ds : List D} {k : Nat} : cutD ds none (some (k : Int)) = ds.take k := by
  unfold cutD
  rw [six_nat]
  show (ds.drop 0).take (min k ds.length - 0) = _
  rw [List.drop_zero, Nat.sub_zero, ← List.take_eq_take_min]
theorem cut_drop {ds : List D} {k : Nat} : cutD ds (some (k : Int)) none = ds.drop k := by
  unfold cutD
  rw [six_nat]
  show (ds.drop (min k ds.length)).take (ds.length - min k ds.length) = _
  by_cases h : k ≤ ds.length
  · rw [Nat.min_eq_left h]
    refine List.take_of_length_le ?_
    rw [List.length_drop]
    exact Nat.le_refl _
  · rw [Nat.min_eq_right (by omega), Nat.sub_self, List.take_zero, List.drop_eq_nil_of_le (by omega)]
theorem cut_mid {ds : List D} {j k : Nat} (h : j ≤ k) : cutD ds (some (j : Int)) (some (k : Int)) = (ds.take k).drop j := by
  unfold cutD
  rw [six_nat, six_nat, List.drop_take]
  by_cases h2 : k ≤ ds.length
  · rw [Nat.min_eq_left h2, Nat.min_eq_left (by omega)]
  · by_cases h3 : j ≤ ds.length
    · rw [Nat.min_eq_right (by omega), Nat.min_eq_left h3, List.take_of_length_le, List.take_of_length_le]
      · rw [List.length_drop]; omega
      · rw [List.length_drop]; omega
    · rw [Nat.min_eq_right (by omega), Nat.min_eq_right (by omega), List.drop_eq_nil_of_le (by omega), List.drop_eq_nil_of_le (by omega)]
      simp
theorem encI_take (l : List Nat) (k : Nat) : (encI l).take k = encI (l.take k) := by
  unfold encI
  rw [List.map_take]
theorem encI_drop (l : List Nat) (k : Nat) : (encI l).drop k = encI (l.drop k) := by
  unfold encI
  rw [List.map_drop]
/-! whole part -/
theorem floor_facts (x : Rat) (h : 0 ≤ x) : ∃ w : Nat, x.num / (x.den : Int) = (w : Nat) ∧ (w : Rat) ≤ x ∧ x < (w : Rat) + 1 ∧ (((x.num % (x.den : Int) : Int)) : Rat) / (((x.den : Nat) : Int) : Rat) = x - (w : Rat) := by
  have hd := den_pos x
  have hn : 0 ≤ x.num := by
    rw [Rat.le_iff] at h
    have h1 : (0 : Rat).num = 0 := rfl
    have h2 : (0 : Rat).den = 1 := rfl
    rw [h1, h2] at h
    simpa using h
  have hw := Int.ediv_nonneg hn (Int.le_of_lt hd)
  obtain ⟨w, hw2⟩ : ∃ w : Nat, x.num / (x.den : Int) = w := ⟨(x.num / (x.den : Int)).toNat, by omega⟩
  have e := Int.emod_add_mul_ediv x.num (x.den : Int)
  have r0 := Int.emod_nonneg x.num (show ((x.den : Nat) : Int) ≠ 0 by omega)
  have r1 := Int.emod_lt_of_pos x.num hd
  rw [hw2] at e
  have f := frac x
  have dn := den_ne x
  have dp : (0 : Rat) < (((x.den : Nat) : Int) : Rat) := by exact_mod_cast hd
  have e' : ((x.num % (x.den : Int) : Int) : Rat) + (((x.den : Nat) : Int) : Rat) * (w : Rat) = ((x.num : Int) : Rat) := by exact_mod_cast congrArg (fun z : Int => (z : Rat)) e
  have key : (((x.num % (x.den : Int) : Int)) : Rat) / (((x.den : Nat) : Int) : Rat) = x - (w : Rat) := by
    rw [← f, ← e']
    grind
  have r0' : (0 : Rat) ≤ (((x.num % (x.den : Int) : Int)) : Rat) := by exact_mod_cast r0
  have r1' : (((x.num % (x.den : Int) : Int)) : Rat) < (((x.den : Nat) : Int) : Rat) := by exact_mod_cast r1
  have k0 : (0 : Rat) ≤ (((x.num % (x.den : Int) : Int)) : Rat) / (((x.den : Nat) : Int) : Rat) := by
    rw [Rat.div_def]
    exact Rat.mul_nonneg r0' (Rat.le_of_lt (Rat.inv_pos.mpr dp))
  have k1 : (((x.num % (x.den : Int) : Int)) : Rat) / (((x.den : Nat) : Int) : Rat) < 1 := by
    have := (Rat.mul_lt_mul_right (Rat.inv_pos.mpr dp)).mpr r1'
    rw [← Rat.div_def, ← Rat.div_def] at this
    grind
  exact ⟨w, hw2, by grind, by grind, key⟩
/-! a list of the store gone through -/
theorem stepR_nx {k i n : Nat} {ds : List D} {d : D} {m m1 m2 : M} {gf : GF} {sf : SF} {env env1 env2 : Sl} (hm : m[k]? = some (.lst ds)) (hd : ds[i]? = some d) (hg : gf (.val d) env m = some (env1, m1)) (hb : sf env1 m1 = some (.nx env2 m2)) :
    loop (srcR k) gf sf (n + 1) i env m = loop (srcR k) gf sf n (i + 1) env2 m2 := by
  have e : srcR k i m = some (some d) := by
    unfold srcR
    rw [hm]
    simp only [hd]
  show ((srcR k i m).bind fun o => match o with
    | none => some (.nx env m)
    | some d => (gf (.val d) env m).bind fun x => (sf x.1 x.2).bind fun fl => aftF fl (loop (srcR k) gf sf n (i + 1))) = _
  rw [e, ob_some]
  simp only [hg, ob_some, hb, ev_aft_nx]
theorem stepR_rt {k i n : Nat} {ds : List D} {d : D} {m m1 m2 : M} {gf : GF} {sf : SF} {env env1 : Sl} {r : R} (hm : m[k]? = some (.lst ds)) (hd : ds[i]? = some d) (hg : gf (.val d) env m = some (env1, m1)) (hb : sf env1 m1 = some (.rt r m2)) :
    loop (srcR k) gf sf (n + 1) i env m = some (.rt r m2) := by
  have e : srcR k i m = some (some d) := by
    unfold srcR
    rw [hm]
    simp only [hd]
  show ((srcR k i m).bind fun o => match o with
    | none => some (.nx env m)
    | some d => (gf (.val d) env m).bind fun x => (sf x.1 x.2).bind fun fl => aftF fl (loop (srcR k) gf sf n (i + 1))) = _
  rw [e, ob_some]
  simp only [hg, ob_some, hb, ev_aft_rt]
theorem endR {k i n : Nat} {ds : List D} {m : M} {gf : GF} {sf : SF} {env : Sl} (hm : m[k]? = some (.lst ds)) (hd : ds[i]? = none) : loop (srcR k) gf sf n i env m = some (.nx env m) := by
  have e : srcR k i m = some none := by
    unfold srcR
    rw [hm]
    simp only [hd]
  cases n <;> simp [loop, e]
theorem run_ref {k : Nat} {ds : List D} {m : M} {gf : GF} {sf : SF} {env : Sl} (hm : m[k]? = some (.lst ds)) : runI (an1 (.ref k) m) gf sf env = loop (srcR k) gf sf ds.length 0 env m := by
  unfold an1 runI
  simp only [hm, ob_some]
theorem eraseIdx_mapL {α β : Type} (f : α → β) : ∀ (l : List α) (j : Nat), (l.map f).eraseIdx j = (l.eraseIdx j).map f
  | [], j => by simp
  | a :: l, 0 => by simp
  | a :: l, j + 1 => by simp [eraseIdx_mapL f l j]
theorem place_enc {i : Nat} : ∀ {l : List Nat}, i ∈ l → ∃ j, placeI (i : Int) (l.map fun a : Nat => (a : Int)) = some j ∧ l.eraseIdx j = l.erase i
  | [], h => by cases h
  | a :: l, h => by
    rw [List.map_cons]
    unfold placeI
    by_cases e : a = i
    · subst e
      exact ⟨0, by rw [if_pos rfl], by simp⟩
    · have e2 : ¬ ((a : Int) = (i : Int)) := by omega
      rw [if_neg e2]
      rcases List.mem_cons.mp h with z | z
      · exact absurd z.symm e
      · obtain ⟨j, h1, h2⟩ := place_enc z
        refine ⟨j + 1, by rw [h1]; rfl, ?_⟩
        rw [List.eraseIdx_cons_succ, h2, List.erase_cons_tail (by simpa using e)]
theorem remove_enc {l : List Nat} {i k : Nat} {m : M} (nd : l.Nodup) (h : i ∈ l) (hm : m[k]? = some (.lst (encI l))) : pRemove (.ref k) [.val (.int (i : Nat))] m = some (.val .none, m.set k (.lst (encI (l.filter fun j => j != i)))) := by
  obtain ⟨j, h1, h2⟩ := place_enc h
  have e1 : asIs (encI l) = some (l.map fun a : Nat => (a : Int)) := asIs_map' l fun a : Nat => (a : Int)
  show ((m[k]?).bind fun o => match o with
    | .lst ds => (asIs ds).bind fun ns => (placeI (i : Int) ns).bind fun j => some (R.val .none, m.set k (.lst ((ns.eraseIdx j).map PyData.int)))
    | .dct _ _ _ => none) = _
  rw [hm, ob_some]
  simp only [e1, ob_some, h1]
  have e2 : ((l.map fun a : Nat => (a : Int)).eraseIdx j).map PyData.int = encI (l.filter fun j => j != i) := by
    rw [eraseIdx_mapL, h2, List.Nodup.erase_eq_filter nd]
    unfold encI
    rw [List.map_map]
    rfl
  rw [e2]
/-! one turn of a while -/
theorem w_nx {c : TF} {body : SF} {n : Nat} {env e2 : Sl} {m m1 m2 : M} (hc : c env m = some (true, m1)) (hb : body env m1 = some (.nx e2 m2)) : wloop c body (n + 1) env m = wloop c body n e2 m2 := by
  show ((c env m).bind fun x => if x.1 = true then (body env x.2).bind fun fl => aftF fl (wloop c body n) else some (.nx env x.2)) = _
  rw [hc, ob_some]
  simp only [if_true, hb, ob_some, ev_aft_nx]
theorem w_end {c : TF} {body : SF} {n : Nat} {env : Sl} {m m1 : M} (hc : c env m = some (false, m1)) : wloop c body (n + 1) env m = some (.nx env m1) := by
  show ((c env m).bind fun x => if x.1 = true then (body env x.2).bind fun fl => aftF fl (wloop c body n) else some (.nx env x.2)) = _
  rw [hc, ob_some]
  simp only [Bool.false_eq_true, if_false]
end Ev

set_option Elab.async false
set_option linter.all false
set_option maxRecDepth 100000
/-! repr of data that is not large. -/
namespace Ev
open PySem PySem.Spec PyProof.Rows L2
structure Sh (w dep : Nat) (d : D) : Prop where
  sm : smallD d = true
  wt : d.weight ≤ w
  dp : d.depth ≤ dep
structure ShA (w dep : Nat) (ds : List D) : Prop where
  sm : smallDs ds = true
  wt : PyData.weightAll ds ≤ w
  dp : PyData.depthAll ds ≤ dep
theorem Sh.int {i : Int} (h : -(1000000000000000000000000 : Int) < i ∧ i < (1000000000000000000000000 : Int)) : Sh 81 0 (.int i) := by
  refine ⟨decide_eq_true h, ?_, Nat.le_refl _⟩
  have h1 := int_log h
  show (if i == 0 then 0 else i.natAbs.log2 + 1) ≤ 81
  split
  · exact Nat.zero_le _
  · have := log2_lt_of (k := 79) (Nat.lt_of_lt_of_le h1 (by decide))
    omega
theorem Sh.up {w w' dep dep' : Nat} {d : D} (h : Sh w dep d) (hw : w ≤ w') (hd : dep ≤ dep') : Sh w' dep' d := ⟨h.sm, Nat.le_trans h.wt hw, Nat.le_trans h.dp hd⟩
theorem Sh.non : Sh 1 0 .none := ⟨rfl, by decide, by decide⟩
theorem Sh.bl {b : Bool} : Sh 1 0 (.bool b) := ⟨rfl, by cases b <;> decide, by cases b <;> decide⟩
theorem ShA.nil : ShA 0 0 [] := ⟨rfl, Nat.le_refl _, Nat.le_refl _⟩
theorem ShA.cons {w v a b : Nat} {d : D} {ds : List D} (h : Sh w a d) (t : ShA v b ds) : ShA (w + 1 + v) (max a b) (d :: ds) := by
  refine ⟨?_, ?_, ?_⟩
  · show (smallD d && smallDs ds) = true
    rw [h.sm, t.sm]
    rfl
  · show d.weight + 1 + PyData.weightAll ds ≤ _
    have := h.wt
    have := t.wt
    omega
  · show max d.depth (PyData.depthAll ds) ≤ _
    have := h.dp
    have := t.dp
    omega
theorem Sh.tup {w dep : Nat} {ds : List D} (h : ShA w dep ds) : Sh w (dep + 1) (.tuple ds) := ⟨h.sm, h.wt, by
  show PyData.depthAll ds + 1 ≤ _
  have := h.dp
  omega⟩
theorem Sh.lst {w dep : Nat} {ds : List D} (h : ShA w dep ds) : Sh w (dep + 1) (.list ds) := ⟨h.sm, h.wt, by
  show PyData.depthAll ds + 1 ≤ _
  have := h.dp
  omega⟩
theorem ShA.map {α : Type} {w dep : Nat} {f : α → D} : ∀ {l : List α}, (∀ x ∈ l, Sh w dep (f x)) → ShA ((w + 1) * l.length) dep (l.map f)
  | [], _ => ⟨rfl, Nat.le_refl _, Nat.zero_le _⟩
  | a :: l, h => by
    have ih := ShA.map (l := l) fun x hx => h x (List.mem_cons_of_mem _ hx)
    have := ShA.cons (h a (by simp)) ih
    rw [Nat.max_self] at this
    rw [List.length_cons, Nat.mul_succ, Nat.add_comm]
    exact this
theorem Sh.repr {w dep : Nat} {d : D} {m : M} (h : Sh w dep d) (hw : w ≤ 500000) (hd : dep ≤ 60) : pRepr [.val d] m = some (.val (.str d.shown), m) := pRepr_ok h.sm (Nat.le_trans h.dp hd) (Nat.le_trans h.wt hw)
theorem sh_encI {l : List Nat} (h : ∀ a ∈ l, a < 1000000000000000000000000) : ShA (82 * l.length) 0 (encI l) := by
  refine ShA.map (f := fun a : Nat => PyData.int a) fun a ha => Sh.int ⟨by omega, ?_⟩
  have := h a ha
  omega
/-- a fraction that is not large -/
theorem sh_Q {N B : Nat} {x : Rat} (hN : 0 < N) (a : Qa.In N x) (h1 : -(B : Rat) ≤ x) (h2 : x ≤ (B : Rat)) (h : B * N < 1000000000000000000000000) (hN2 : N < 1000000000000000000000000) : Sh 164 1 (encQ x) := by
  have h3 := Qa.num_le h1 h2
  have h4 := a.den_le hN
  have h5 : B * x.den ≤ B * N := Nat.mul_le_mul_left B h4
  have e1 : Sh 81 0 (.int x.num) := Sh.int (by omega)
  have e2 : Sh 81 0 (.int (x.den : Int)) := Sh.int (by omega)
  exact (Sh.tup (ShA.cons e1 (ShA.cons e2 ShA.nil))).up (by decide) (by decide)
theorem ev_gTp {n : Nat} {g : GsF} {ds : List D} {env : Sl} {m : M} : gTp n g (.val (.tuple ds)) env m = if ds.length = n then g (ds.map R.val) env m else none := nr rfl
theorem ev_gsC {g : GF} {h : GsF} {r : R} {rs : List R} {env : Sl} {m : M} : gsCons g h (r :: rs) env m = (g r env m).bind fun x => h rs x.1 x.2 := nr rfl
theorem ev_gsN {env : Sl} {m : M} : gsNil [] env m = some (env, m) := nr rfl
end Ev

set_option Elab.async false
set_option linter.all false
set_option maxRecDepth 100000
/-! sorting by keys, of known values. -/
namespace Ev
open PySem PySem.Spec PyProof.Rows L2
theorem kfold_map {α : Type} {fk : D → M → Option (D × M)} {m : M} (enc K : α → D) : ∀ (l : List α), (∀ a ∈ l, fk (enc a) m = some (K a, m)) → kfold fk (l.map enc) m = some (l.map K, m)
  | [], _ => rfl
  | a :: l, h => by
    rw [List.map_cons]
    unfold kfold
    rw [h a (by simp), ob_some, kfold_map enc K l fun b hb => h b (List.mem_cons_of_mem _ hb), ob_some]
    rfl
theorem sortKD_map {α : Type} (enc K : α → D) (l : List α) : sortKD (l.map K) (l.map enc) = (l.mergeSort fun a b => PySem.W.dataLe false K a b).map enc := by
  unfold sortKD
  have e : (l.map K).zip (l.map enc) = l.map fun a => (K a, enc a) := by
    induction l with
    | nil => rfl
    | cons a l ih => simp [ih]
  have e2 := List.map_mergeSort (r := fun a b => PySem.W.dataLe false K a b) (s := PySem.W.dataLe false Prod.fst) (f := fun a => (K a, enc a)) (l := l) fun a _ b _ => rfl
  rw [e, ← e2, List.map_map]
  rfl
theorem depth_map {α : Type} {K : α → D} {n : Nat} : ∀ (l : List α), (∀ a ∈ l, (K a).depth ≤ n) → PyData.depthAll (l.map K) ≤ n
  | [], _ => Nat.zero_le _
  | a :: l, h => by
    have := h a (by simp)
    have := depth_map l fun b hb => h b (List.mem_cons_of_mem _ hb)
    show max (K a).depth (PyData.depthAll (l.map K)) ≤ n
    omega
theorem sortable_tup {α : Type} {K : α → D} (l : List α) (h : ∀ a ∈ l, ∃ x xs, K a = .tuple (x :: xs)) (hal : ∀ a ∈ l, ∀ b ∈ l, PySem.W.alike (K a) (K b) = true) : sortableB (l.map K) = true := by
  unfold sortableB
  rw [Bool.and_eq_true, Bool.or_eq_true]
  refine ⟨?_, .inl ?_⟩
  · rw [List.all_eq_true]
    intro x hx
    rw [List.all_eq_true]
    intro y hy
    obtain ⟨a, ha, rfl⟩ := List.mem_map.mp hx
    obtain ⟨b, hb, rfl⟩ := List.mem_map.mp hy
    exact hal a ha b hb
  · rw [List.all_eq_true]
    intro x hx
    obtain ⟨a, ha, rfl⟩ := List.mem_map.mp hx
    obtain ⟨y, ys, e⟩ := h a ha
    rw [e]
theorem sortKF_map {α : Type} {fk : D → M → Option (D × M)} {m : M} (enc K : α → D) (l : List α) (h : ∀ a ∈ l, fk (enc a) m = some (K a, m)) (h1 : sortableB (l.map K) = true) (h2 : ∀ a ∈ l, (K a).depth ≤ 60) (h3 : l.length ≤ 16777216) :
    sortKF fk (l.map enc) m = some (.val (.list ((l.mergeSort fun a b => PySem.W.dataLe false K a b).map enc)), m) := by
  have e1 : smallAll (l.map K) = true := decide_eq_true (depth_map l h2)
  have e2 : decide ((l.map enc).length ≤ sizeLine) = true := decide_eq_true (by rw [List.length_map, sz]; exact h3)
  unfold sortKF
  rw [kfold_map enc K l h, ob_some]
  simp only [h1, e1, e2, Bool.and_self, if_true, sortKD_map]
theorem alike_ii (a b c d : Int) : PySem.W.alike (.tuple [.int a, .int b]) (.tuple [.int c, .int d]) = true := by simp [PySem.W.alike, PySem.W.alikeAll]
/-- by pairs of ints -/
theorem sortKF_ii {α : Type} {fk : D → M → Option (D × M)} {m : M} (enc : α → D) (x y : α → Int) (l : List α) (h : ∀ a ∈ l, fk (enc a) m = some (.tuple [.int (x a), .int (y a)], m)) (h3 : l.length ≤ 16777216) :
    sortKF fk (l.map enc) m = some (.val (.list ((l.mergeSort fun p q => decide (x p < x q ∨ (x p = x q ∧ y p ≤ y q))).map enc)), m) := by
  have := sortKF_map enc (fun a => .tuple [.int (x a), .int (y a)]) l h (sortable_tup l (fun a _ => ⟨_, _, rfl⟩) fun a _ b _ => alike_ii _ _ _ _) (fun a _ => by show 1 ≤ 60; decide) h3
  rw [this]
  have e := PySem.W.dataLe_ii (β := α) x y
  have e2 : (fun a b => PySem.W.dataLe false (fun a => PyData.tuple [.int (x a), .int (y a)]) a b) = fun p q => decide (x p < x q ∨ (x p = x q ∧ y p ≤ y q)) := e
  rw [e2]
@[simp] theorem ev_sortKR {bs : List Bool} {fb : EF} {fa : AF} {env : Sl} {m : M} : eSortKR bs fb fa env m = (fa env m).bind fun x => (bds x.1).bind fun b => if rgOkB b.1 b.2 = true then sortKF (keyF fb bs env) (rngD b.1 (b.2 - b.1).toNat) x.2 else none := nr rfl
theorem bds1 {n : Nat} : bds [.val (.int (n : Nat))] = some (0, (n : Int)) := nr rfl
theorem rgOk0 {n : Nat} (h : n ≤ 1000000) : rgOkB 0 (n : Int) = true := decide_eq_true ⟨by decide, by decide, by omega, by omega, by omega⟩
/-! natural numbers -/
theorem pmN {a b : Nat} {m : M} (ha : a < 1000000000000000000) (hb : b < 1000000000000000000) : pMul (.val (.int (a : Int))) (.val (.int (b : Int))) m = some (.val (.int ((a * b : Nat) : Int)), m) := by
  rw [pm_ii (by omega) (by omega)]
  push_cast
  rfl
theorem pdN {a b : Nat} {m : M} (h : 0 < b) (hb : b < 1000000000000000000) : pDiv (.val (.int (a : Int))) (.val (.int (b : Int))) m = some (.val (.int ((a / b : Nat) : Int)), m) := by
  rw [pdv_ii (by omega) (by omega)]
  push_cast
  rfl
theorem pmodN {a b : Nat} {m : M} (h : 0 < b) : pMod (.val (.int (a : Int))) (.val (.int (b : Int))) m = some (.val (.int ((a % b : Nat) : Int)), m) := by
  rw [pmd_ii (by omega)]
  push_cast
  rfl
theorem ppN {a b : Nat} {m : M} : pPlus (.val (.int (a : Int))) (.val (.int (b : Int))) m = some (.val (.int ((a + b : Nat) : Int)), m) := by
  rw [pp_ii]
  push_cast
  rfl
theorem pltN {a b : Nat} {m : M} : pLt (.val (.int (a : Int))) (.val (.int (b : Int))) m = some (.val (.bool (decide (a < b))), m) := by
  rw [plt_ii]
  simp
theorem pgtN {a b : Nat} {m : M} : pGt (.val (.int (a : Int))) (.val (.int (b : Int))) m = some (.val (.bool (decide (b < a))), m) := by
  rw [pgt_ii]
  simp
/-- a list of natural numbers in the store, read and written -/
theorem pix_rN {k i a : Nat} {l : List Nat} {m : M} (hm : m[k]? = some (.lst (encI l))) (h : l[i]? = some a) : pIdx (.ref k) (.val (.int (i : Int))) m = some (.val (.int (a : Int)), m) := by
  rw [pix_r hm, at_nat (encI_get h)]
  rfl
theorem pset_rN {k i a : Nat} {l : List Nat} {m : M} (hm : m[k]? = some (.lst (encI l))) (h : i < l.length) : pSet (.ref k) (.val (.int (i : Int))) (.val (.int (a : Int))) m = some (m.set k (.lst (encI (l.set i a)))) := by
  rw [pset_r hm, encI_len, ixN_nat h, ob_some]
  congr 2
  unfold encI
  rw [List.map_set]
theorem getD_some {l : List Nat} {i : Nat} (h : i < l.length) : l[i]? = some (l.getD i 0) := by
  rw [List.getD, List.getElem?_eq_getElem h]
  rfl
theorem psum_rN {k : Nat} {r : List Nat} {m : M} (h : m[k]? = some (.lst (encI r))) : pSum [.ref k] m = some (.val (.int (r.sum : Nat)), m) := by
  show ((asLT (.ref k) m).bind fun ds => (asIs ds).bind fun ns => some (R.val (.int ns.sum), m)) = _
  have e1 : asLT (.ref k) m = some (encI r) := by simp [asLT, asL, h]
  have e2 : asIs (encI r) = some (r.map fun a : Nat => (a : Int)) := asIs_map' r fun a : Nat => (a : Int)
  rw [e1, ob_some, e2, ob_some, sum_cast]
def rp (ds : List D) (r : R) (m : M) : Option (List D × M) := (asI r).bind fun k => if -(2 ^ 63) ≤ k ∧ k < 2 ^ 63 ∧ ds.length * k.toNat ≤ sizeLine then some ((List.replicate k.toNat ds).flatten, m) else none
theorem ev_rep {f : NF} {g : EF} {env : Sl} {m : M} : nRep f g env m = (f env m).bind fun x => (g env x.2).bind fun y => rp x.1 y.1 y.2 := nr rfl
theorem rp_zeros {n : Nat} {m : M} (h : n ≤ 1000) : rp [.int 0] (.val (.int (n : Int))) m = some (encI (List.replicate n 0), m) := by
  unfold rp
  rw [ev_asI, ob_some, if_pos ⟨by omega, by omega, by rw [sz, Int.toNat_natCast]; simp; omega⟩]
  rw [Int.toNat_natCast]
  congr 2
  unfold encI
  rw [List.map_replicate]
  induction n with
  | zero => rfl
  | succ n ih =>
    rw [List.replicate_succ, List.flatten_cons, ih (by omega), List.replicate_succ]
    rfl
end Ev

set_option Elab.async false
set_option linter.all false
set_option maxRecDepth 100000
/-! dicts: the pure side, and what is asked of one dict. -/
namespace Ev
open PySem PySem.Spec PyProof.Rows L2

def sameD : Bool → D → D → Bool
  | false, a, b => decide (keyK a = keyK b)
  | true, a, b => decide (keyN a = keyN b)
theorem sameD_F {a b : D} : sameD false a b = decide (keyK a = keyK b) := rfl
theorem sameD_T {a b : D} : sameD true a b = decide (keyN a = keyN b) := rfl
def topN : NestedKey → Bool
  | .tup ks => decide ((NestedKey.tup ks).depth ≤ 8)
  | _ => false
def keyOkN (d : D) : Bool := match keyN d with
  | some k => topN k
  | none => false
def keyOk : Bool → D → Bool
  | false, d => (keyK d).isSome
  | true, d => keyOkN d
def lookD (t : Bool) (kvs : List (D × D)) (d : D) : Option D := (kvs.find? fun q => sameD t q.1 d).map (·.2)
def putD (t : Bool) (kvs : List (D × D)) (d x : D) : List (D × D) :=
  if (kvs.any fun q => sameD t q.1 d) = true then kvs.map (fun q => if sameD t q.1 d = true then (q.1, x) else q) else kvs ++ [(d, x)]
def putE (es : List (NestedKey × Addr × V)) (k : NestedKey) (b : Addr) (v : V) : List (NestedKey × Addr × V) :=
  if (es.any fun p => decide (p.1 = k)) = true then es.map (fun p => if p.1 = k then (p.1, p.2.1, v) else p) else es ++ [(k, b, v)]
def atE (es : List (NestedKey × Addr × V)) (k : NestedKey) : Option V := (es.find? fun p => decide (p.1 = k)).map (·.2.2)
abbrev RawE : List (NestedKey × Addr × V) → List (NestedKey × Addr × Value) → Prop := Paired fun p q => p.1 = q.1 ∧ p.2.1 = q.2.1 ∧ RelV p.2.2 q.2.2

/-! ### keys -/
mutual
theorem hash_ind (w w' : World) : ∀ (d : D) (k : NestedKey), keyN d = some k → k.hash w = k.hash w'
  | .none, _, e => by cases e; rfl
  | .int i, _, e => by cases e; rfl
  | .tuple ds, _, e => by
    unfold keyN at e
    obtain ⟨ks, e1, e2⟩ := Option.map_eq_some_iff.mp e
    subst e2
    unfold NestedKey.hash
    rw [hashes_ind w w' ds ks e1]
  | .bool _, _, e => by cases e
  | .str _, _, e => by cases e
  | .list _, _, e => by cases e
  | .dict _, _, e => by cases e
theorem hashes_ind (w w' : World) : ∀ (ds : List D) (ks : List NestedKey), keyNs ds = some ks → NestedKey.hashes w ks = NestedKey.hashes w' ks
  | [], _, e => by cases e; rfl
  | d :: ds, _, e => by
    unfold keyNs at e
    obtain ⟨k, e1, e⟩ := bind_some_iff e
    obtain ⟨ks, e2, e3⟩ := Option.map_eq_some_iff.mp e
    subst e3
    unfold NestedKey.hashes
    rw [hash_ind w w' d k e1, hashes_ind w w' ds ks e2]
end
section
variable {X : Cx} {pins : List (Addr × Obj)} {σ : L2.St} {H : Hp} {s : Shared}
mutual
theorem nested_of (I : Inv X pins σ H s) : ∀ {d : D} {k : NestedKey} {v : V} {u : Value}, keyN d = some k → Dp X.K H v d → RelV v u → NestedIs s.heap k u
  | .none, _, _, u, e, .non, r => by
    cases e
    cases u <;> first | exact .none | exact absurd r (fun z => nomatch z)
  | .int i, _, _, u, e, .int _, r => by
    cases e
    obtain ⟨t, rfl⟩ := (show ∃ t, u = Value.int i t from r)
    exact .int i t
  | .tuple ds, _, _, u, e, .tup (a := a) h ha, r => by
    unfold keyN at e
    obtain ⟨ks, e1, e2⟩ := Option.map_eq_some_iff.mp e
    subst e2
    obtain rfl : u = Value.ref a := r
    obtain ⟨its, rv, ⟨o, h1, h2, n, h3⟩, _⟩ := I.tuple h
    exact .tup h1 h2 h3 (by simpa using nesteds_of I e1 ha rv)
theorem nesteds_of (I : Inv X pins σ H s) : ∀ {ds : List D} {ks : List NestedKey} {vs : List V} {us : List Value}, keyNs ds = some ks → DpAll X.K H vs ds → Vals vs us → NestedAll s.heap ks us
  | [], _, _, _, e, .nil, r => by
    cases e
    cases r
    exact .nil
  | d :: ds, _, _, _, e, .cons h t, r => by
    unfold keyNs at e
    obtain ⟨k, e1, e⟩ := bind_some_iff e
    obtain ⟨ks, e2, e3⟩ := Option.map_eq_some_iff.mp e
    subst e3
    cases r with
    | cons r1 rt => exact .cons (nested_of I e1 h r1) (nesteds_of I e2 t rt)
end
end

/-! ### the lists side by side -/
section
variable {K : PySem.W.Frag} {H : Hp}
theorem KOk.find : ∀ {ks : List (Key × V)} {kvs : List (D × D)} {d : D} {k : Key}, KOk K H ks kvs → keyK d = some k →
    (lookD false kvs d = none ∧ valV ks k = none) ∨ ∃ x v, lookD false kvs d = some x ∧ valV ks k = some v ∧ Dp K H v x
  | _, _, d, k, .nil, e => .inl ⟨rfl, rfl⟩
  | p :: ks, q :: kvs, d, k, .cons h t, e => by
    by_cases c : p.1 = k
    · refine .inr ⟨q.2, p.2, ?_, valV_pos c, h.2⟩
      have : sameD false q.1 d = true := by rw [sameD_F, h.1, e, c]; simp
      unfold lookD
      rw [List.find?_cons, this]
      rfl
    · have : sameD false q.1 d = false := by rw [sameD_F, h.1, e]; simp [c]
      rw [valV_neg c]
      unfold lookD
      rw [List.find?_cons, this]
      exact KOk.find t e
theorem KOk.any : ∀ {ks : List (Key × V)} {kvs : List (D × D)} {d : D} {k : Key}, KOk K H ks kvs → keyK d = some k → (ks.any fun p => decide (p.1 = k)) = kvs.any fun q => sameD false q.1 d
  | _, _, d, k, .nil, e => rfl
  | p :: ks, q :: kvs, d, k, .cons h t, e => by
    rw [List.any_cons, List.any_cons, KOk.any t e]
    have : sameD false q.1 d = decide (p.1 = k) := by rw [sameD_F, h.1, e]; simp
    rw [this]
theorem KOk.put {ks : List (Key × V)} {kvs : List (D × D)} {d x : D} {k : Key} {v : V} (h : KOk K H ks kvs) (e : keyK d = some k) (hx : Dp K H v x) : KOk K H (putK ks k v) (putD false kvs d x) := by
  unfold putK putD
  rw [h.any e]
  split
  · rename_i hc; clear hc
    induction h with
    | nil => exact .nil
    | @cons p q ps qs h t ih =>
      rw [List.map_cons, List.map_cons]
      refine .cons ?_ ih
      have : sameD false q.1 d = decide (p.1 = k) := by rw [sameD_F, h.1, e]; simp
      rw [this]
      by_cases c : p.1 = k
      · rw [if_pos c, if_pos (decide_eq_true c)]
        exact ⟨h.1, hx⟩
      · rw [if_neg c, if_neg (by simp [c])]
        exact h
  · exact Paired.snoc h ⟨e, hx⟩
theorem NOk.find : ∀ {ks : List (NestedKey × Addr × V)} {kvs : List (D × D)} {d : D} {k : NestedKey}, NOk K H ks kvs → keyN d = some k →
    (lookD true kvs d = none ∧ atE ks k = none) ∨ ∃ x v, lookD true kvs d = some x ∧ atE ks k = some v ∧ Dp K H v x
  | _, _, d, k, .nil, e => .inl ⟨rfl, rfl⟩
  | p :: ks, q :: kvs, d, k, .cons h t, e => by
    by_cases c : p.1 = k
    · refine .inr ⟨q.2, p.2.2, ?_, by unfold atE; rw [List.find?_cons, decide_eq_true c]; rfl, h.2.2⟩
      have : sameD true q.1 d = true := by rw [sameD_T, h.1.1, e, c]; simp
      unfold lookD
      rw [List.find?_cons, this]
      rfl
    · have : sameD true q.1 d = false := by rw [sameD_T, h.1.1, e]; simp [c]
      unfold lookD atE
      rw [List.find?_cons, this, List.find?_cons, decide_eq_false c]
      exact NOk.find t e
theorem NOk.any : ∀ {ks : List (NestedKey × Addr × V)} {kvs : List (D × D)} {d : D} {k : NestedKey}, NOk K H ks kvs → keyN d = some k → (ks.any fun p => decide (p.1 = k)) = kvs.any fun q => sameD true q.1 d
  | _, _, d, k, .nil, e => rfl
  | p :: ks, q :: kvs, d, k, .cons h t, e => by
    rw [List.any_cons, List.any_cons, NOk.any t e]
    have : sameD true q.1 d = decide (p.1 = k) := by rw [sameD_T, h.1.1, e]; simp
    rw [this]
theorem NOk.put {ks : List (NestedKey × Addr × V)} {kvs : List (D × D)} {d x : D} {k : NestedKey} {b : Addr} {v : V} (h : NOk K H ks kvs) (e : keyN d = some k) (hk : k.depth ≤ 8) (hb : Dp K H (.ref b) d) (hx : Dp K H v x) : NOk K H (putE ks k b v) (putD true kvs d x) := by
  unfold putE putD
  rw [h.any e]
  split
  · rename_i hc; clear hc
    induction h with
    | nil => exact .nil
    | @cons p q ps qs h t ih =>
      rw [List.map_cons, List.map_cons]
      refine .cons ?_ ih
      have : sameD true q.1 d = decide (p.1 = k) := by rw [sameD_T, h.1.1, e]; simp
      rw [this]
      by_cases c : p.1 = k
      · rw [if_pos c, if_pos (decide_eq_true c)]
        exact ⟨h.1, h.2.1, hx⟩
      · rw [if_neg c, if_neg (by simp [c])]
        exact h
  · exact Paired.snoc h ⟨⟨e, hk⟩, hb, hx⟩
theorem RawE.val : ∀ {es : List (NestedKey × Addr × V)} {xs : List (NestedKey × Addr × Value)}, RawE es xs → ∀ k, RelO (atE es k) ((atKey xs k).map (·.2))
  | _, _, .nil, k => True.intro
  | p :: es, q :: xs, .cons h t, k => by
    by_cases c : p.1 = k
    · have a : atE (p :: es) k = some p.2.2 := by unfold atE; rw [List.find?_cons, decide_eq_true c]; rfl
      have b : atKey (q :: xs) k = some q.2 := by simp [atKey, List.find?_cons, h.1.symm.trans c]
      rw [a, b]
      exact h.2.2
    · have a : atE (p :: es) k = atE es k := by unfold atE; rw [List.find?_cons, decide_eq_false c]
      have b : atKey (q :: xs) k = atKey xs k := by simp [atKey, List.find?_cons, show ¬ q.1 = k from fun z => c (h.1.trans z)]
      rw [a, b]
      exact RawE.val t k
theorem atE_any (es : List (NestedKey × Addr × V)) (k : NestedKey) : (es.any fun p => decide (p.1 = k)) = (atE es k).isSome := by
  induction es with
  | nil => rfl
  | cons p es ih =>
    rw [List.any_cons, ih]
    unfold atE
    rw [List.find?_cons]
    by_cases c : p.1 = k
    · rw [decide_eq_true c]; rfl
    · rw [decide_eq_false c]; rfl
theorem RawE.put {es : List (NestedKey × Addr × V)} {xs : List (NestedKey × Addr × Value)} (h : RawE es xs) (k : NestedKey) (b : Addr) {v : V} {u : Value} (r : RelV v u) : RawE (putE es k b v) (storedH xs k b u) := by
  unfold putE storedH
  rw [atE_any, (h.val k).isSome_eq, Option.isSome_map]
  split
  · rename_i hc; clear hc
    induction h with
    | nil => exact .nil
    | @cons p q ps qs h t ih =>
      rw [List.map_cons, List.map_cons]
      refine .cons ?_ ih
      obtain ⟨h1, h2, h3⟩ := h
      unfold putAt
      by_cases c : p.1 = k
      · rw [if_pos c, if_pos (h1.symm.trans c)]
        exact ⟨h1, h2, r⟩
      · rw [if_neg c, if_neg (fun z => c (h1.trans z))]
        exact ⟨h1, h2, h3⟩
  · exact Paired.snoc h ⟨rfl, rfl, r⟩
end
theorem lookD_any (t : Bool) (kvs : List (D × D)) (d : D) : (kvs.any fun q => sameD t q.1 d) = (lookD t kvs d).isSome := by
  induction kvs with
  | nil => rfl
  | cons p es ih =>
    rw [List.any_cons, ih]
    unfold lookD
    rw [List.find?_cons]
    cases sameD t p.1 d <;> rfl
theorem lkd_rd {lk : Bool} {u : HO} {H : Hp} {a : Addr} (h : lkd lk u (H a)) : Rd H a u := by
  cases lk with
  | false => exact .inl h
  | true => exact .inr h

section
variable {X : Cx} {pins : List (Addr × Obj)} {σ : L2.St} {H : Hp} {s : Shared} {φ : Ad} {m : M} {ζ : Tbs}
theorem memPaired {α β : Type} {F : α → β → Prop} : ∀ {l₁ : List α} {l₂ : List β} {b : β}, Paired F l₁ l₂ → b ∈ l₂ → ∃ a ∈ l₁, F a b
  | _, _, _, .nil, h => by cases h
  | _, _, b, .cons h t, hb => by
    rcases List.mem_cons.mp hb with e | e
    · subst e
      exact ⟨_, List.mem_cons_self, h⟩
    · obtain ⟨a, h1, h2⟩ := memPaired t e
      exact ⟨a, List.mem_cons_of_mem _ h1, h2⟩
theorem memPairedL {α β : Type} {F : α → β → Prop} : ∀ {l₁ : List α} {l₂ : List β} {a : α}, Paired F l₁ l₂ → a ∈ l₁ → ∃ b ∈ l₂, F a b
  | _, _, _, .nil, h => by cases h
  | _, _, b, .cons h t, hb => by
    rcases List.mem_cons.mp hb with e | e
    · subst e
      exact ⟨_, List.mem_cons_self, h⟩
    · obtain ⟨a, h1, h2⟩ := memPairedL t e
      exact ⟨a, List.mem_cons_of_mem _ h1, h2⟩
/-- the dict of tuple keys that stands there -/
theorem xd_rd {P : Program} {w : World} {a : Addr} {es : List (NestedKey × Addr × V)} {kvs : List (D × D)} (I : Inv X pins σ H s) (h : Rd H a (.ext (XD P w a es))) (n : NOk X.K H es kvs) :
    es.length ≤ sizeLine ∧ (a == sysModules) = false ∧ ∃ xs, RawE es xs ∧ s.heap.DictOfH (nestedKind X.prog X.w) a xs := by
  obtain ⟨⟨z, hd, xs, rel, o, ea, ep, h1, h2, h3, h4, h5⟩, _⟩ := (show ObjOk X.prog X.w H s.heap a (.ext (XD P w a es)) from rd_of I.hok h)
  have key : ∀ x ∈ xs, ∃ d, keyN d = some x.1 ∧ x.1.depth ≤ 8 ∧ Dp X.K H (.ref x.2.1) d := fun x hx => by
    obtain ⟨p, hp, e1, e2, _⟩ := memPaired rel hx
    obtain ⟨q, hq, ⟨e3, e4⟩, e5, _⟩ := memPairedL n hp
    exact ⟨q.1, by rw [← e1]; exact e3, by rw [← e1]; exact e4, by rw [← e2]; exact e5⟩
  refine ⟨z, hd, xs, rel, o, ea, ep, h1, h2, h3, ?_, fun x hx => ?_, h5⟩
  · rw [h4]
    refine List.map_congr_left fun x hx => ?_
    obtain ⟨d, e1, _⟩ := key x hx
    unfold entryOfKey
    congr 1
    exact hash_ind w X.w d x.1 e1
  · obtain ⟨d, e1, e2, e3⟩ := key x hx
    exact ⟨nested_of I e1 e3 rfl, e2⟩
theorem keyK_V {K : PySem.W.Frag} {Ho : Hp} {d : D} {k : Key} {v : V} (e : keyK d = some k) (h : Dp K Ho v d) : v = kV k := by
  cases d with
  | int i => cases e; cases h; rfl
  | str x => cases e; cases h; rfl
  | _ => cases e
theorem keyOk_N {d : D} (h : keyOkN d = true) : ∃ k, keyN d = some k ∧ k.depth ≤ 8 ∧ ∃ ds, d = .tuple ds := by
  unfold keyOkN at h
  split at h
  · rename_i k e
    cases k with
    | tup ks =>
      refine ⟨_, e, of_decide_eq_true h, ?_⟩
      cases d with
      | tuple ds => exact ⟨ds, rfl⟩
      | _ => cases e
    | _ => cases h
  · cases h
theorem NOk.off {K : PySem.W.Frag} {es : List (NestedKey × Addr × V)} {kvs : List (D × D)} (h : NOk K (off φ H) es kvs) : NOk K H es kvs := Paired.mapP h fun p q z => ⟨z.1, dp_mono off_same z.2.1, dp_mono off_same z.2.2⟩
/-- a top key that is a tuple stands at an address -/
theorem key_ref {K : PySem.W.Frag} {Ho : Hp} {d : D} {v : V} (h : Dp K Ho v d) (t : ∃ ds, d = .tuple ds) : ∃ b, v = .ref b := by
  obtain ⟨ds, rfl⟩ := t
  cases h
  exact ⟨_, rfl⟩
end
end Ev

set_option Elab.async false
set_option linter.all false
set_option maxRecDepth 100000
/-! dicts: d[k], k in d, d[k] = v, len(d), {}. -/
namespace Ev
open PySem PySem.Spec PyProof.Rows L2

def pDGet (a b : R) (m : M) : Option (R × M) := match a, b with
  | .ref k, .val d => (m[k]?).bind fun ob => match ob with
    | .dct t _ kvs => if keyOk t d = true then (lookD t kvs d).bind fun x => some (.val x, m) else none
    | _ => none
  | _, _ => none
def pDHas (a b : R) (m : M) : Option Bool := match a, b with
  | .ref k, .val d => (m[k]?).bind fun ob => match ob with
    | .dct t _ kvs => if keyOk t d = true then some (lookD t kvs d).isSome else none
    | _ => none
  | _, _ => none
def pDIn (b a : R) (m : M) : Option (R × M) := (pDHas a b m).bind fun x => some (.val (.bool x), m)
def pDNin (b a : R) (m : M) : Option (R × M) := (pDHas a b m).bind fun x => some (.val (.bool (!x)), m)
def pDSet (o i v : R) (m : M) : Option M := match o, i, v with
  | .ref k, .val d, .val x => (m[k]?).bind fun ob => match ob with
    | .dct t false kvs => if keyOk t d = true ∧ kvs.length < sizeLine then some (m.set k (.dct t false (putD t kvs d x))) else none
    | _ => none
  | _, _, _ => none
def pLenD := p1 fun r m => match r with
  | .ref k => (m[k]?).bind fun ob => match ob with
    | .dct _ _ kvs => some (.val (.int kvs.length), m)
    | _ => none
  | _ => none
section
variable {X : Cx} {pins : List (Addr × Obj)} {σ : L2.St} {H : Hp} {s : Shared} {φ : Ad} {m : M} {k : Nat}
theorem KOk.off {K : PySem.W.Frag} {es : List (Key × V)} {kvs : List (D × D)} (h : KOk K (off φ H) es kvs) : KOk K H es kvs := Paired.mapP h fun p q z => ⟨z.1, dp_mono off_same z.2⟩
/-- d[k] -/
theorem dget_run (hr : Room k X.A) {o i : V} {ov iv : Value} {Q : VK} (I : Inv X pins σ H s) (ro : RelV o ov) (ri : RelV i iv) (q : r2P ζ X.K pDGet o i H Q) :
    s.TypeIs ov "dict" ∧ wpAny (model X.prog X.w) X.A (getItem ov iv) (EP X pins σ Q) X.xe s := by
  obtain ⟨φ, m, r1, r2, r, m', S, R1, R2, hf, kk⟩ := q
  unfold pDGet at hf
  split at hf
  · rename_i k0 d
    obtain ⟨ob, ho, hf⟩ := bind_some_iff hf
    split at hf
    · rename_i t lk kvs
      split at hf
      · rename_i hk
        obtain ⟨x, hx, hf⟩ := bind_some_iff hf
        cases hf
        obtain ⟨a, rfl, ha⟩ := R1
        obtain rfl : ov = Value.ref a := ro
        have O := S.obj k0 _ a ho ha
        match t, O with
        | false, ⟨ks, h1, h2⟩ =>
          obtain ⟨kk0, e0⟩ := Option.isSome_iff_exists.mp (show (keyK d).isSome = true from hk)
          obtain rfl := keyK_V e0 R2
          rcases h2.find e0 with ⟨e1, _⟩ | ⟨y, v, e1, e2, e3⟩
          · rw [hx] at e1; cases e1
          · rw [hx] at e1
            cases e1
            have g : DGet H a (kV kk0) (some v) := .inl ⟨ks, kk0, lkd_rd h1, rfl, e2.symm⟩
            exact ⟨dict_typeIs I g, d_getItem (by have := hr.un; omega) I g ri fun w' s' I' rw' => ⟨v, H, I', rw', kk φ H v .refl S e3⟩⟩
        | true, ⟨P, w, es, h1, h2⟩ =>
          obtain ⟨kn, e0, e4, e5⟩ := keyOk_N hk
          obtain ⟨z, hd, xs, rel, dd⟩ := xd_rd I (lkd_rd h1) h2.off
          rcases h2.find e0 with ⟨e1, _⟩ | ⟨y, v, e1, e2, e3⟩
          · rw [hx] at e1; cases e1
          · rw [hx] at e1
            cases e1
            have rr := rel.val kn
            rw [e2] at rr
            obtain ⟨w', hw, rw'⟩ := RelO.some_of rr
            obtain ⟨p, hp, hp2⟩ := Option.map_eq_some_iff.mp hw
            obtain ⟨b, rfl⟩ := key_ref R2 e5
            obtain rfl : iv = Value.ref b := ri
            have nk := nested_of I e0 (dp_mono off_same R2) (show RelV (.ref b) (.ref b) from rfl)
            refine ⟨dd.typeIs, ?_⟩
            refine wpAny_getItem_heap (knd := nestedKind X.prog X.w) (show X.A.in1.units + 8 < cLine by have := hr.un; show X.A.units + 1 + 8 < cLine; omega) ⟨nk, e4⟩ dd hp ?_
            rw [hp2]
            exact ⟨v, H, I.tok _, rw', kk φ H v .refl S e3⟩
      · cases hf
    · cases hf
  · cases hf
theorem pget_d (hr : Room k X.A) : PGet X (r2P ζ X.K pDGet) := fun pins s σ H o i ov iv Q I ro ri q => (dget_run hr I ro ri q).2
/-- d[k] in an expression: the value behind getItem is any -/
theorem subT_any {prog : Program} {w : World} {A : Around} {E : Value → Shared → Prop} {s : Shared} {value slice : Expr} {o i : Value} {T id : String} {Q : Value → Shared → Prop} (hT : s.TypeIs o T)
    (hl : typeLookup (.type T) "__getitem__" = pure (some (.builtin id))) (h : wpAny (model prog w) A (getItem o i) Q E s) (hs : subscripted slice false o i = operate [o, i] (getItem o i)) : wpAny (model prog w) A (subscriptTail value slice o i) Q E s := by
  unfold subscriptTail
  refine wpAny_bind ?_
  rw [getitemInPython_of_ne hT.not_modules]
  refine wpAny_bind (wpAny_specialOf hT hl ?_)
  have fin : wpAny (model prog w) A (subscripted slice false o i) (fun r s₃ => wpAny (model prog w) A (letTemporaryGo value o r >>= fun _ => pure r) Q E s₃) E s := by
    rw [hs]
    exact wpAny_operating (wpAny_mono h (fun r s₃ h₃ => wpAny_bind (wpAny_letTemporaryGo (wpAny_pure h₃))) fun _ _ x => x)
  first
    | exact wpAny_pure (wpAny_bind fin)
    | exact wpAny_bind (wpAny_pure (wpAny_bind fin))
    | exact wpAny_bind fin
theorem ix_d (hr : Room k X.A) : IxR X (r2P ζ X.K pDGet) := fun value slice pins s σ H x y v u Q I rx ry q hsub => by
  obtain ⟨h1, h2⟩ := dget_run hr I rx ry q
  exact subT_any h1 PySem.F.slot_dict_getitem.lookup h2 hsub
theorem x_dget {a b : Expr} {f g : EF} {pos : Pos} (hr : Room k X.A) (ha : PE X a (tE ζ X.K f)) (hb : PE X b (tE ζ X.K g)) (hs : PlainIx b := by exact fun _ _ => rfl) : PE X (.Subscript a b pos) (tE ζ X.K (eBin pDGet f g)) :=
  pe_imp (pe_ix (ix_d hr) ha hb hs) fun _ _ _ q => two_imp q
/-- k in d -/
theorem dhas_run (hr : Room k X.A) {i o : V} {iv ov : Value} {r1 r2 : R} {φ : Ad} {m : M} {b : Bool} (I : Inv X pins σ H s) (S : SR ζ X.K φ H m) (R1 : RR X.K φ H o r1) (R2 : RR X.K φ H i r2) (ro : RelV o ov) (ri : RelV i iv) (hf : pDHas r1 r2 m = some b) :
    (∀ Q : Value → Shared → Prop, (∀ s', Inv X pins σ H s' → Q (.bool b) s') → wpAny (model X.prog X.w) X.A (compareOp .In iv ov) Q X.xe s) ∧
    (∀ Q : Value → Shared → Prop, (∀ s', Inv X pins σ H s' → Q (.bool (!b)) s') → wpAny (model X.prog X.w) X.A (compareOp .NotIn iv ov) Q X.xe s) := by
  unfold pDHas at hf
  split at hf
  · rename_i k0 d
    obtain ⟨ob, ho, hf⟩ := bind_some_iff hf
    split at hf
    · rename_i t lk kvs
      split at hf
      · rename_i hk
        cases hf
        obtain ⟨a, rfl, ha⟩ := R1
        obtain rfl : ov = Value.ref a := ro
        have O := S.obj k0 _ a ho ha
        have hun := hr.un
        match t, O with
        | false, ⟨ks, h1, h2⟩ =>
          obtain ⟨kk0, e0⟩ := Option.isSome_iff_exists.mp (show (keyK d).isSome = true from hk)
          obtain rfl := keyK_V e0 R2
          have eq : (lookD false kvs d).isSome = (valV ks kk0).isSome := by
            rcases h2.find e0 with ⟨e1, e2⟩ | ⟨y, v, e1, e2, e3⟩ <;> rw [e1, e2] <;> rfl
          have g : DGet H a (kV kk0) (valV ks kk0) := .inl ⟨ks, kk0, lkd_rd h1, rfl, rfl⟩
          rw [eq]
          exact ⟨fun Q q => d_in (by omega) I g ri q, fun Q q => d_notIn (by omega) I g ri q⟩
        | true, ⟨P, w, es, h1, h2⟩ =>
          obtain ⟨kn, e0, e4, e5⟩ := keyOk_N hk
          obtain ⟨z, hd, xs, rel, dd⟩ := xd_rd I (lkd_rd h1) h2.off
          obtain ⟨b, rfl⟩ := key_ref R2 e5
          obtain rfl : iv = Value.ref b := ri
          have nk := nested_of I e0 (dp_mono off_same R2) (show RelV (.ref b) (.ref b) from rfl)
          have eq : (lookD true kvs d).isSome = (atKey xs kn).isSome := by
            have rr := (rel.val kn).isSome_eq
            rw [Option.isSome_map] at rr
            rw [← rr]
            rcases h2.find e0 with ⟨e1, e2⟩ | ⟨y, v, e1, e2, e3⟩ <;> rw [e1, e2] <;> rfl
          rw [eq]
          have rm : (nestedKind X.prog X.w).room X.A.in1 := show X.A.units + 1 + 8 < cLine by omega
          exact ⟨fun Q q => wpAny_in_heap (knd := nestedKind X.prog X.w) rm ⟨nk, e4⟩ hd dd (q _ (I.tok _)), fun Q q => wpAny_notIn_heap (knd := nestedKind X.prog X.w) rm ⟨nk, e4⟩ hd dd (q _ (I.tok _))⟩
      · cases hf
    · cases hf
  · cases hf
theorem o_din (hr : Room k X.A) : OpR X (compareOp .In) (r2P ζ X.K pDIn) := by
  intro pins s σ H x y v u Q I rx ry q
  obtain ⟨φ, m, r1, r2, r, m', S, R1, R2, hf, kk⟩ := q
  obtain ⟨b, h1, hf⟩ := bind_some_iff hf
  cases hf
  exact (dhas_run hr I S R2 R1 ry rx h1).1 _ fun s' I' => ⟨.bl b, H, I', rfl, kk φ H _ .refl S (Dp.bl _)⟩
theorem o_dnin (hr : Room k X.A) : OpR X (compareOp .NotIn) (r2P ζ X.K pDNin) := by
  intro pins s σ H x y v u Q I rx ry q
  obtain ⟨φ, m, r1, r2, r, m', S, R1, R2, hf, kk⟩ := q
  obtain ⟨b, h1, hf⟩ := bind_some_iff hf
  cases hf
  exact (dhas_run hr I S R2 R1 ry rx h1).2 _ fun s' I' => ⟨.bl (!b), H, I', rfl, kk φ H _ .refl S (Dp.bl _)⟩
/-- d[k] = v -/
theorem dset_ok (hr : Room k X.A) : PSet X (rSetP ζ X.K pDSet) := by
  intro pins s σ H o i v ov iv u Q I ro ri rv z
  obtain ⟨φ, m, r1, r2, r3, m', S, R1, R2, R3, hf, kk⟩ := z
  unfold pDSet at hf
  split at hf
  · rename_i k0 d x
    obtain ⟨ob, ho, hf⟩ := bind_some_iff hf
    split at hf
    · rename_i t kvs
      split at hf
      · rename_i hk
        obtain ⟨hk, hl⟩ := hk
        cases hf
        obtain ⟨a, rfl, ha⟩ := R1
        obtain rfl : ov = Value.ref a := ro
        have O := S.obj k0 _ a ho ha
        have hun := hr.un
        have hin : a ∈ φ.s := List.mem_of_getElem? ha
        have nh := S.apart hin
        have sm : ∀ o : HO, Same (off φ H) (off φ (upd H a o)) := fun o => off_write hin
        match t, O with
        | false, ⟨ks, h1, h2⟩ =>
          have h1' : H a = some (.dK ks) := h1
          obtain ⟨kk0, e0⟩ := Option.isSome_iff_exists.mp (show (keyK d).isSome = true from hk)
          obtain rfl := keyK_V e0 R2
          have hlen : ks.length < sizeLine := by rw [Paired.len h2]; exact hl
          have n2 := h2.put e0 R3
          refine d_setItem (by omega) I (.k h1' hlen) ri rv fun s' I' => ⟨_, I', kk φ _ (gr_write hin nh (nf_dK h1')) (S.writeO ha ⟨_, upd_same, n2⟩)⟩
        | true, ⟨P, w, es, h1, h2⟩ =>
          have h1' : H a = some (.ext (XD P w a es)) := h1
          obtain ⟨kn, e0, e4, e5⟩ := keyOk_N hk
          obtain ⟨z, hd, xs, rel, dd⟩ := xd_rd I (lkd_rd (lk := false) h1) h2.off
          obtain ⟨b, rfl⟩ := key_ref R2 e5
          obtain rfl : iv = Value.ref b := ri
          have nk := nested_of I e0 (dp_mono off_same R2) (show RelV (.ref b) (.ref b) from rfl)
          have hlen : es.length < sizeLine := by rw [Paired.len h2]; exact hl
          have hx : xs.length ≤ sizeLine := by rw [← Paired.len rel]; omega
          refine wpAny_setItem_heap (hsz := hx) (knd := nestedKind X.prog X.w) (show X.A.units + 1 + 8 < cLine by omega) ⟨nk, e4⟩ dd fun h' dd' hs => ?_
          have rel' := rel.put kn b rv
          have n2 := h2.put e0 e4 R2 R3
          have hl2 : (putE es kn b v).length ≤ sizeLine := by
            unfold putE
            split
            · rw [List.length_map]; omega
            · rw [List.length_append, List.length_cons, List.length_nil]; omega
          obtain ⟨o', ea, ep, q1, q2, q3, q4, q5, q6⟩ := dd'
          have new : ObjOk X.prog X.w (upd H a (.ext (XD X.prog X.w a (putE es kn b v)))) h' a (.ext (XD X.prog X.w a (putE es kn b v))) :=
            ⟨⟨hl2, hd, _, rel', o', ea, ep, q1, q2, q3, q4, q6⟩, ⟨o', q1⟩, fun g1 g2 ⟨y1, y2, y3, y4, y5, y6, y7, y8, y9⟩ kp => ⟨y1, y2, y3, y4, y5, y6, y7, kp _ y8, y9⟩⟩
          have I' := d_write (t' := s.toks + (nestedKind X.prog X.w).draws kn) I (by rw [h1']; exact True.intro) hs ⟨o', q1⟩ new
          exact ⟨_, I', kk φ _ (gr_write hin nh (nf_ext h1')) (S.writeO ha ⟨_, _, _, upd_same, n2⟩)⟩
      · cases hf
    · cases hf
  · cases hf
/-- len(d) -/
theorem c_lenD : CallR X (.builtin "len") (rsP ζ X.K pLenD) := c_one fun pins s σ H v us Q φ m a r m' I rx S ra hf kk => by
  split at hf
  · rename_i k0
    obtain ⟨ob, ho, hf⟩ := bind_some_iff hf
    split at hf
    · rename_i t lk kvs
      cases hf
      obtain ⟨a, rfl, ha⟩ := ra
      have O := S.obj k0 _ a ho ha
      have hn := line63
      have hsl : sizeLine = 16777216 := by decide
      obtain ⟨u, rfl, ru⟩ := vals1 rx
      obtain rfl : u = Value.ref a := ru
      match t, O with
      | false, ⟨ks, h1, h2⟩ =>
        obtain ⟨z, hd, vs, rel, dd⟩ := dk_rd I.hok (lkd_rd h1)
        refine d_len I (lkd_rd h1) fun t s' I' => ⟨.int kvs.length, H, I', ⟨t, by rw [Paired.len h2]⟩, kk φ H _ .refl S (Dp.int _)⟩
      | true, ⟨P, w, es, h1, h2⟩ =>
        obtain ⟨z, hd, xs, rel, dd⟩ := xd_rd I (lkd_rd h1) h2.off
        have e1 : xs.length = kvs.length := by rw [← Paired.len rel, Paired.len h2]
        have e2 : es.length = xs.length := Paired.len rel
        refine call_len_dictH hd dd (by omega) ?_
        rw [e1]
        exact ⟨.int kvs.length, H, I.tok _, ⟨_, rfl⟩, kk φ H _ .refl S (Dp.int _)⟩
    · cases hf
  · cases hf
/-- {} -/
def eDNew (t : Bool) : EF := fun _ m => some (.ref m.length, m ++ [.dct t false []])
theorem x_dnew {pos : Pos} : PE X (.Dict [] [] pos) (tE ζ X.K (eDNew false)) := pe_imp pe_dnewK fun σ H Q q => by
  obtain ⟨φ, env, m, r, m', S, E, hf, kk⟩ := q
  cases hf
  intro p hp
  refine kk (φ.add p) _ _ (gr_enter hp) (S.enterO hp ⟨[], upd_same, .nil⟩) ⟨p, rfl, ?_⟩
  show (φ.s ++ [p])[m.length]? = some p
  rw [← S.len, List.getElem?_append_right (Nat.le_refl _), Nat.sub_self]
  rfl
theorem xd_empty (h : Heap) (hb : sysModules < h.objs.size) {P : Program} {w : World} {H : Hp} : ObjOk P w H (h.push { cls := .type "dict", data := .dict #[] }) h.objs.size (.ext (XD P w h.objs.size [])) := by
  obtain ⟨o, ea, ep, q1, q2, q3, q4, q5, q6⟩ := Heap.DictOfH.new (knd := nestedKind P w) h
  exact ⟨⟨Nat.zero_le _, beq_eq_false_iff_ne.mpr (Nat.ne_of_gt hb), [], .nil, o, ea, ep, q1, q2, q3, q4, q6⟩, ⟨o, q1⟩, fun g1 g2 ⟨y1, y2, y3, y4, y5, y6, y7, y8, y9⟩ kp => ⟨y1, y2, y3, y4, y5, y6, y7, kp _ y8, y9⟩⟩
def tDNewX (X : Cx) : TE := fun _ H Q => ∀ p, H p = none → Q (.ref p) (upd H p (.ext (XD X.prog X.w p [])))
theorem pe_dnewX {pos : Pos} : PE X (.Dict [] [] pos) (tDNewX X) := ⟨fun pins s σ H Q I h =>
  wpAny_Dict_empty ⟨.ref s.heap.objs.size, _, I.laid (a := s.heap.objs.size) (o := .ext (XD X.prog X.w s.heap.objs.size [])) (t' := s.toks) (fun _ _ q => Heap.get?_push_of_some _ q) (Nat.le_refl _) (xd_empty s.heap I.big), rfl, h _ (I.hok.fresh (Nat.le_refl _))⟩⟩
theorem x_dnewT {pos : Pos} : PE X (.Dict [] [] pos) (tE ζ X.K (eDNew true)) := pe_imp pe_dnewX fun σ H Q q => by
  obtain ⟨φ, env, m, r, m', S, E, hf, kk⟩ := q
  cases hf
  intro p hp
  refine kk (φ.add p) _ _ (gr_enter hp) (S.enterO hp ⟨X.prog, X.w, [], upd_same, .nil⟩) ⟨p, rfl, ?_⟩
  show (φ.s ++ [p])[m.length]? = some p
  rw [← S.len, List.getElem?_append_right (Nat.le_refl _), Nat.sub_self]
  rfl
end
end Ev

set_option Elab.async false
set_option linter.all false
set_option maxRecDepth 100000
/-! {k: v}, one pair. -/
namespace Ev
open PySem PySem.Spec PyProof.Rows L2

def eDisp1 (t : Bool) (f g : EF) : EF := fun env m => (f env (m ++ [.dct t false []])).bind fun x => (g env x.2).bind fun y => match x.1, y.1 with
  | .val d, .val v => if keyOk t d = true then match y.2[m.length]? with
    | some (.dct t' false []) => if t' = t then some (.ref m.length, y.2.set m.length (.dct t false [(d, v)])) else none
    | _ => none else none
  | _, _ => none
section
variable {X : Cx} {k : Nat} {a b : Expr} {f g : EF} {pos : Pos}
theorem disp1_some {t : Bool} {env : Sl} {m m' : M} {r : R} (h : eDisp1 t f g env m = some (r, m')) : ∃ d v m1 m2, f env (m ++ [.dct t false []]) = some (.val d, m1) ∧ g env m1 = some (.val v, m2) ∧ keyOk t d = true ∧ m2[m.length]? = some (.dct t false []) ∧ r = .ref m.length ∧ m' = m2.set m.length (.dct t false [(d, v)]) := by
  obtain ⟨⟨r1, m1⟩, h1, h⟩ := bind_some_iff h
  obtain ⟨⟨r2, m2⟩, h2, h⟩ := bind_some_iff h
  cases r1 with
  | tp j => first | (cases hf; done) | (cases e; done) | (cases h1; done) | (cases h; done) | (cases h7; done) | (cases h2; done)
  | ref j => cases r2 <;> cases h
  | val d =>
    cases r2 with
    | tp j => first | (cases hf; done) | (cases e; done) | (cases h1; done) | (cases h; done) | (cases h7; done) | (cases h2; done)
    | ref j => cases h
    | val v =>
      have h' : (if keyOk t d = true then match m2[m.length]? with
        | some (.dct t' false []) => if t' = t then some (R.ref m.length, m2.set m.length (.dct t false [(d, v)])) else none
        | _ => none else none) = some (r, m') := h
      split at h'
      · rename_i hk
        split at h'
        · rename_i t' hm
          split at h'
          · rename_i ht
            subst ht
            cases h'
            exact ⟨d, v, m1, m2, h1, h2, hk, hm, rfl, rfl⟩
          · cases h'
        · cases h'
      · cases h'
theorem x_disp1 (ha : PE X a (tE ζ X.K f)) (hb : PE X b (tE ζ X.K g)) : PE X (.Dict [some a] [b] pos) (tE ζ X.K (eDisp1 false f g)) := pe_imp (pe_disp (pps_cons ha hb pps_nil) rfl rfl (fun z => nomatch z) (by show 1 ≤ 15; decide)) fun σ H Q q => by
  obtain ⟨φ, env, m, r, m', S, E, hf, kk⟩ := q
  obtain ⟨d, v, m1, m2, h1, h2, hk, hm, rfl, rfl⟩ := disp1_some hf
  intro p hp
  have S1 : SR ζ X.K (φ.add p) (upd H p (.dK [])) (m ++ [.dct false false []]) := S.enterO hp ⟨[], upd_same, .nil⟩
  have g1 : Gr φ H (φ.add p) (upd H p (.dK [])) := gr_enter hp
  have hp1 : (φ.add p).s[m.length]? = some p := by
    show (φ.s ++ [p])[m.length]? = some p
    rw [← S.len, List.getElem?_append_right (Nat.le_refl _), Nat.sub_self]
    rfl
  refine ⟨φ.add p, env, m ++ [.dct false false []], .val d, m1, S1, E.mono g1, h1, fun φ1 H1 v1 g2 S2 R1 => ?_⟩
  refine ⟨φ1, env, m1, .val v, m2, S2, E.mono (g1.trans g2), h2, fun φ2 H2 v2 g3 S3 R2 => ?_⟩
  have hp2 : φ2.s[m.length]? = some p := prefix_get (g2.trans g3).pre hp1
  obtain ⟨ks, o1, o2⟩ := S3.obj m.length _ p hm hp2
  cases o2
  have o1' : H2 p = some (.dK []) := o1
  obtain ⟨kk0, e0⟩ := Option.isSome_iff_exists.mp (show (keyK d).isSome = true from hk)
  have R1' : Dp X.K (off φ2 H2) v1 d := dp_mono g3.same R1
  obtain rfl := keyK_V e0 R1'
  have hin : p ∈ φ2.s := List.mem_of_getElem? hp2
  refine ⟨o1', [(kk0, v2)], rfl, by show 1 ≤ 15; decide, kk φ2 _ _ (g1.trans (g2.trans (g3.trans (gr_write hin (S3.apart hin) (nf_dK o1'))))) (S3.writeO hp2 ⟨_, upd_same, ?_⟩) ⟨p, rfl, hp2⟩⟩
  exact .cons ⟨e0, R2⟩ .nil
theorem x_disp1T (hr : Room k X.A) (ha : PE X a (tE ζ X.K f)) (hb : PE X b (tE ζ X.K g)) : PE X (.Dict [some a] [b] pos) (tE ζ X.K (eDisp1 true f g)) := ⟨fun pins s σ H Q I q => by
  obtain ⟨φ, env, m, r, m', S, E, hf, kk⟩ := q
  obtain ⟨d, v, m1, m2, h1, h2, hk, hm, rfl, rfl⟩ := disp1_some hf
  have hp : H s.heap.objs.size = none := I.hok.fresh (Nat.le_refl _)
  have I0 : Inv X pins σ (upd H s.heap.objs.size (.ext (XD X.prog X.w s.heap.objs.size []))) { s with heap := s.heap.push { cls := .type "dict", data := .dict #[] }, toks := s.toks } :=
    I.laid (fun _ _ q => Heap.get?_push_of_some _ q) (Nat.le_refl _) (xd_empty s.heap I.big)
  generalize hq : s.heap.objs.size = p at *
  have S1 : SR ζ X.K (φ.add p) (upd H p (.ext (XD X.prog X.w p []))) (m ++ [.dct true false []]) := S.enterO hp ⟨_, _, [], upd_same, .nil⟩
  have g1 : Gr φ H (φ.add p) (upd H p (.ext (XD X.prog X.w p []))) := gr_enter hp
  have hp1 : (φ.add p).s[m.length]? = some p := by
    show (φ.s ++ [p])[m.length]? = some p
    rw [← S.len, List.getElem?_append_right (Nat.le_refl _), Nat.sub_self]
    rfl
  refine wpAny_Dict_any rfl rfl (fun z => nomatch z) (by show 1 ≤ 15; decide) ?_
  refine thn ((pps_cons ha hb pps_nil).run pins _ σ _ (fun ps H' => ∃ v1 v2 φ2, ps = [(v1, v2)] ∧ Gr (φ.add p) (upd H p (.ext (XD X.prog X.w p []))) φ2 H' ∧ SR ζ X.K φ2 H' m2 ∧ Dp X.K (off φ2 H') v1 d ∧ Dp X.K (off φ2 H') v2 v) I0 ?_) fun ws s2 ⟨ps, H2, I2, rel, v1, v2, φ2, e1, g2, S2, R1, R2⟩ => ?_
  · refine ⟨φ.add p, env, m ++ [.dct true false []], .val d, m1, S1, E.mono g1, h1, fun φ1 H1 v1 g2 S2 R1 => ?_⟩
    refine ⟨φ1, env, m1, .val v, m2, S2, E.mono (g1.trans g2), h2, fun φ2 H2 v2 g3 S3 R2 => ?_⟩
    exact ⟨v1, v2, φ2, rfl, g2.trans g3, S3, dp_mono g3.same R1, R2⟩
  · subst e1
    have hp2 : φ2.s[m.length]? = some p := prefix_get g2.pre hp1
    obtain ⟨P, w, es, o1, o2⟩ := S2.obj m.length _ p hm hp2
    cases o2
    have o1' : H2 p = some (.ext (XD P w p [])) := o1
    obtain ⟨z, hd, xs, rl, dd⟩ := xd_rd I2 (.inl o1') .nil
    cases rl
    obtain ⟨kn, e0, e4, e5⟩ := keyOk_N hk
    obtain ⟨b, rfl⟩ := key_ref R1 e5
    cases rel with
    | @cons x y xs ys hxy t =>
      cases t
      obtain ⟨y1, y2⟩ := y
      obtain ⟨ry1, ry2⟩ := hxy
      obtain rfl : y1 = Value.ref b := ry1
      have nk := nested_of I2 e0 (dp_mono off_same R1) (show RelV (.ref b) (.ref b) from rfl)
      have hun := hr.un
      have hin : p ∈ φ2.s := List.mem_of_getElem? hp2
      rw [hq]
      refine wpAny_storeAllH (knd := nestedKind X.prog X.w) (show X.A.units + 8 < cLine by omega) [(.ref b, y2)] [(kn, b, y2)] [] _ _ ⟨rfl, rfl, ⟨nk, e4⟩, trivial⟩ dd (by rw [sizeLine_eq]; show 0 + 1 ≤ 16777216; decide) fun h' tk dd' hs => ?_
      obtain ⟨o', ea, ep, q1, q2, q3, q4, q5, q6⟩ := dd'
      have new : ObjOk X.prog X.w (upd H2 p (.ext (XD X.prog X.w p [(kn, b, v2)]))) h' p (.ext (XD X.prog X.w p [(kn, b, v2)])) :=
        ⟨⟨by rw [sizeLine_eq]; show 1 ≤ 16777216; decide, hd, _, .cons ⟨rfl, rfl, ry2⟩ .nil, o', ea, ep, q1, q2, q3, q4, q6⟩, ⟨o', q1⟩, fun g1 g2 ⟨y1, y2, y3, y4, y5, y6, y7, y8, y9⟩ kp => ⟨y1, y2, y3, y4, y5, y6, y7, kp _ y8, y9⟩⟩
      have I3 := d_write (t' := tk) I2 (by rw [o1']; exact True.intro) hs ⟨o', q1⟩ new
      exact ⟨.ref p, _, I3, rfl, kk φ2 _ _ (g1.trans (g2.trans (gr_write hin (S2.apart hin) (nf_ext o1')))) (S2.writeO hp2 ⟨_, _, _, upd_same, .cons ⟨⟨e0, e4⟩, R1, R2⟩ .nil⟩) ⟨p, rfl, hp2⟩⟩⟩
end
end Ev

set_option Elab.async false
set_option linter.all false
set_option maxRecDepth 100000
/-! dicts walked: the lock, the keys in their order. -/
namespace Ev
open PySem PySem.Spec PyProof.Rows L2

/-- the keys of a dict, one after the other -/
def itDict (f : EF) : IF := fun env m => (f env m).bind fun x => match x.1 with
  | .ref k => match x.2[k]? with
    | some (.dct _ true kvs) => iL (kvs.map Prod.fst) x.2
    | _ => none
  | _ => none
def unlockM (k : Nat) (m : M) : Option M := match m[k]? with
  | some (.dct t true kvs) => some (m.set k (.dct t false kvs))
  | _ => none
def unlockF (k : Nat) : Fl → Option Fl
  | .nx e m => (unlockM k m).map (.nx e)
  | .rt r m => (unlockM k m).map (.rt r)
  | .bk e m => (unlockM k m).map (.bk e)
  | .ct e m => (unlockM k m).map (.ct e)
/-- a statement that walks the dict in the slot i -/
def sLockF (i : Nat) (f : SF) : SF := fun env m => match env[i]? with
  | some (some (.ref k)) => match m[k]? with
    | some (.dct t false kvs) => (f env (m.set k (.dct t true kvs))).bind (unlockF k)
    | _ => none
  | _ => none
def eLockF (i : Nat) (f : EF) : EF := fun env m => match env[i]? with
  | some (some (.ref k)) => match m[k]? with
    | some (.dct t false kvs) => (f env (m.set k (.dct t true kvs))).bind fun x => (unlockM k x.2).map fun m' => (x.1, m')
    | _ => none
  | _ => none
section
variable {K : PySem.W.Frag} {φ φ' : Ad} {H H' : Hp} {m m' : M} {σ : L2.St} {env : Sl}
theorem ER.monoS (hp : φ.s <+: φ'.s) (hs : Same (off φ H) (off φ' H')) (e : ER K φ H σ env) : ER K φ' H' σ env := ⟨e.len, fun i r h => by
  obtain ⟨v, h1, h2⟩ := e.at_ i r h
  exact ⟨v, h1, h2.monoS hp hs⟩⟩
/-- what stands at an unlocked dict -/
theorem OR.unl {Ho : Hp} {a : Addr} {t : Bool} {kvs : List (D × D)} (h : OR K Ho H a (.dct t false kvs)) : ∃ u, H a = some u ∧ Mut (some u) ∧ (∀ ob v, u ≠ .frz ob v) ∧
    (∀ od Ho' H', Same Ho Ho' → H' a = some (.frz od u) → OR K Ho' H' a (.dct t true kvs)) := by
  match t, h with
  | false, ⟨ks, h1, h2⟩ => exact ⟨_, h1, True.intro, fun _ _ z => (nomatch z), fun od Ho' H' e q => ⟨ks, ⟨od, q⟩, Paired.mapP h2 fun p q z => ⟨z.1, dp_mono e z.2⟩⟩⟩
  | true, ⟨P, w, es, h1, h2⟩ => exact ⟨_, h1, True.intro, fun _ _ z => (nomatch z), fun od Ho' H' e q => ⟨P, w, es, ⟨od, q⟩, Paired.mapP h2 fun p q z => ⟨z.1, dp_mono e z.2.1, dp_mono e z.2.2⟩⟩⟩
theorem OR.lck {Ho : Hp} {a : Addr} {t : Bool} {kvs : List (D × D)} {o : Obj} {u : HO} (h : OR K Ho H a (.dct t true kvs)) (e : H a = some (.frz o u)) {H' : Hp} (e' : H' a = some u) : OR K Ho H' a (.dct t false kvs) := by
  match t, h with
  | false, ⟨ks, ⟨o', h1⟩, h2⟩ =>
    rw [e] at h1
    cases h1
    exact ⟨ks, e', h2⟩
  | true, ⟨P, w, es, ⟨o', h1⟩, h2⟩ =>
    rw [e] at h1
    cases h1
    exact ⟨P, w, es, e', h2⟩
/-- behind the walk -/
theorem unlock_gr {a : Addr} {u : HO} {od : Obj} (S : SR ζ K φ H m) (ha : a ∈ φ.s) (hu : H a = some u) (nf : ∀ ob v, u ≠ .frz ob v) (g : Gr φ (upd H a (.frz od u)) φ' H') : Gr φ H φ' (upd H' a u) := by
  have ha' : a ∈ φ'.s := g.pre.subset ha
  refine ⟨g.pre, g.eqh, g.eqt, fun b o e => off_write ha' b o (g.same b o (off_write ha b o e)), fun b hb v e n => ?_, fun b o v e => ?_⟩
  · have nb : b ≠ a := fun z => S.apart ha (z ▸ hb)
    rw [upd_ne nb]
    exact g.stay b hb v (by rw [upd_ne nb]; exact e) n
  · have nb : b ≠ a := fun z => by
      rw [z, hu] at e
      cases e
      exact nf _ _ rfl
    rw [upd_ne nb]
    exact g.frz b o v (by rw [upd_ne nb]; exact e)
theorem unlock_sr {a : Addr} {u : HO} {od : Obj} {k : Nat} (S : SR ζ K φ' H' m) (ha : φ'.s[k]? = some a) (e : H' a = some (.frz od u)) (h : unlockM k m = some m') : SR ζ K φ' (upd H' a u) m' := by
  unfold unlockM at h
  split at h
  · rename_i t kvs hm
    cases h
    exact S.writeO ha ((S.obj k _ a hm ha).lck e upd_same)
  · cases h
end
section
variable {X : Cx} {i : Nat} {st : Stmt} {e tg : Expr} {f : SF} {fe : EF}
theorem s_lock (h : PS X st (tS ζ X.K f)) : PS X st (tS ζ X.K (sLockF i f)) := ps_imp (ps_lock h) fun W σ H q => by
  obtain ⟨φ, env, m, fl, S, E, hf, k⟩ := q
  unfold sLockF at hf
  split at hf
  · rename_i j hj
    split at hf
    · rename_i t kvs hm
      obtain ⟨fl2, h1, hf⟩ := bind_some_iff hf
      obtain ⟨v, hv, a, rfl, ha⟩ := E.at_ i _ hj
      obtain ⟨u, hu, mu, nf, lk⟩ := (S.obj j _ a hm ha).unl
      have hin : a ∈ φ.s := List.mem_of_getElem? ha
      refine ⟨a, u, hu, mu, fun od => ?_⟩
      have S1 : SR ζ X.K φ (upd H a (.frz od u)) (m.set j (.dct t true kvs)) := S.writeO ha (lk od _ _ (fun _ _ z => z) upd_same)
      have E1 : ER X.K φ (upd H a (.frz od u)) σ env := E.monoS (List.prefix_refl _) (off_write hin)
      refine ⟨φ, env, _, fl2, S1, E1, h1, ?_⟩
      have fin : ∀ {φ1 : Ad} {H1 : Hp} {m1 m2 : M}, Gr φ (upd H a (.frz od u)) φ1 H1 → SR ζ X.K φ1 H1 m1 → unlockM j m1 = some m2 → H1 a = some (.frz od u) ∧ Gr φ H φ1 (upd H1 a u) ∧ SR ζ X.K φ1 (upd H1 a u) m2 ∧ Same (off φ1 H1) (off φ1 (upd H1 a u)) := fun {φ1 H1 m1 m2} g1 S1 q => by
        have e1 := g1.frz a od u upd_same
        exact ⟨e1, unlock_gr S hin hu nf g1, unlock_sr S1 (prefix_get g1.pre ha) e1 q, off_write (g1.pre.subset hin)⟩
      cases fl2 with
      | nx e m1 =>
        obtain ⟨m2, q, rfl⟩ := Option.map_eq_some_iff.mp hf
        exact fun φ1 σ1 H1 g1 S1 E1 => (fin g1 S1 q).elim fun a1 ⟨a2, a3, a4⟩ => ⟨a1, k φ1 σ1 _ a2 a3 (E1.monoS (List.prefix_refl _) a4)⟩
      | bk e m1 =>
        obtain ⟨m2, q, rfl⟩ := Option.map_eq_some_iff.mp hf
        exact fun φ1 σ1 H1 g1 S1 E1 => (fin g1 S1 q).elim fun a1 ⟨a2, a3, a4⟩ => ⟨a1, k φ1 σ1 _ a2 a3 (E1.monoS (List.prefix_refl _) a4)⟩
      | ct e m1 =>
        obtain ⟨m2, q, rfl⟩ := Option.map_eq_some_iff.mp hf
        exact fun φ1 σ1 H1 g1 S1 E1 => (fin g1 S1 q).elim fun a1 ⟨a2, a3, a4⟩ => ⟨a1, k φ1 σ1 _ a2 a3 (E1.monoS (List.prefix_refl _) a4)⟩
      | rt r m1 =>
        obtain ⟨m2, q, rfl⟩ := Option.map_eq_some_iff.mp hf
        exact fun φ1 H1 v g1 S1 R1 => (fin g1 S1 q).elim fun a1 ⟨a2, a3, a4⟩ => ⟨a1, k φ1 _ v a2 a3 (R1.monoS (List.prefix_refl _) a4)⟩
    · cases hf
  · cases hf
theorem x_lock (h : PE X e (tE ζ X.K fe)) : PE X e (tE ζ X.K (eLockF i fe)) := pe_imp (pe_lock h) fun σ H Q q => by
  obtain ⟨φ, env, m, r, m', S, E, hf, k⟩ := q
  unfold eLockF at hf
  split at hf
  · rename_i j hj
    split at hf
    · rename_i t kvs hm
      obtain ⟨⟨r1, m1⟩, h1, hf⟩ := bind_some_iff hf
      obtain ⟨m2, hq, hf⟩ := Option.map_eq_some_iff.mp hf
      cases hf
      obtain ⟨v, hv, a, rfl, ha⟩ := E.at_ i _ hj
      obtain ⟨u, hu, mu, nf, lk⟩ := (S.obj j _ a hm ha).unl
      have hin : a ∈ φ.s := List.mem_of_getElem? ha
      refine ⟨a, u, hu, mu, fun od => ?_⟩
      have S1 : SR ζ X.K φ (upd H a (.frz od u)) (m.set j (.dct t true kvs)) := S.writeO ha (lk od _ _ (fun _ _ z => z) upd_same)
      have E1 : ER X.K φ (upd H a (.frz od u)) σ env := E.monoS (List.prefix_refl _) (off_write hin)
      refine ⟨φ, env, _, r1, m1, S1, E1, h1, fun φ1 H1 v g1 S1 R1 => ?_⟩
      have e1 := g1.frz a od u upd_same
      exact ⟨e1, k φ1 _ v (unlock_gr S hin hu nf g1) (unlock_sr S1 (prefix_get g1.pre ha) e1 hq) (R1.monoS (List.prefix_refl _) (off_write (g1.pre.subset hin)))⟩
    · cases hf
  · cases hf
end

/-! ### the keys of a locked dict -/
def Itx (d : Addr) (o : Obj) (P : Program) (w : World) (es : List (NestedKey × Addr × V)) : It :=
  ⟨fun i H => H d = some (.frz o (.ext (XD P w d es))) ∧ i < es.length, fun i H x H' => H' = H ∧ ∃ p, es[i]? = some p ∧ x = .ref p.2.1, fun i H => H d = some (.frz o (.ext (XD P w d es))) ∧ es.length ≤ i⟩
theorem paired_at {α β : Type} {F : α → β → Prop} : ∀ {l₁ : List α} {l₂ : List β} {i : Nat} {a : α}, Paired F l₁ l₂ → l₁[i]? = some a → ∃ b, l₂[i]? = some b ∧ F a b
  | _, _, _, _, .nil, e => by simp at e
  | _, _, 0, _, .cons (b := b) h t, e => by
    simp at e
    subst e
    exact ⟨b, rfl, h⟩
  | _, _, i + 1, _, .cons _ t, e => by
    obtain ⟨v, h1, h2⟩ := paired_at (i := i) t (by simpa using e)
    exact ⟨v, by simpa using h1, h2⟩
theorem frzX {X : Cx} {pins : List (Addr × Obj)} {σ : L2.St} {H : Hp} {s : Shared} {d : Addr} {o : Obj} {P : Program} {w : World} {es : List (NestedKey × Addr × V)} (I : Inv X pins σ H s) (h : H d = some (.frz o (.ext (XD P w d es)))) :
    (d == sysModules) = false ∧ s.heap.get? d = some o ∧ o.ExactDict ∧ ∃ (ea : Array DictEntry) (ep : Nat), o.data = .dict ea ep ∧ ea.size = es.length ∧ ∀ (i : Nat) (p : NestedKey × Addr × V), es[i]? = some p → ∃ en : DictEntry, ea[i]? = some en ∧ en.key = .ref p.2.1 ∧ RelV p.2.2 en.val := by
  obtain ⟨hd, ⟨z, hs, xs, rel, o', ea, ep, h1, h2, h3, h4, h5⟩, _⟩ := I.hok d _ h
  rw [hd] at h1
  cases h1
  refine ⟨hs, hd, h2, ea, ep, h3, ?_, fun i p e => ?_⟩
  · rw [size_of_entries h4, ← Paired.len rel]
  · obtain ⟨q, q1, q2, q3, q4⟩ := paired_at rel e
    refine ⟨_, by rw [entry_at h4, q1]; rfl, ?_, q4⟩
    show Value.ref q.2.1 = _
    rw [q3]
theorem turn_x {P : Program} {w : World} {K : PySem.W.Frag} {tg : Expr} {d : Addr} {o : Obj} {ea : Array DictEntry} {ep : Nat} {P0 : Program} {w0 : World} {es : List (NestedKey × Addr × V)} (it : Addr) (hod : o.data = .dict ea ep) :
    Turn P w K tg (Itx d o P0 w0 es) [it] it (fun i h => h.IsKeyIter it d i es.length ep) where
  mem := by simp
  obj := fun i h st b hb => by
    have e : b = it := by simpa using hb
    subst e
    obtain ⟨oi, e, c, dd⟩ := st
    exact ⟨oi, e, fun v z => by rw [dd] at z; cases z⟩
  keep := fun i h h' st k => st.at fun oi e => k it (by simp) oi e
  item := by
    intro X hP hw hK hc i pins s σ H E I hf st hg
    subst hP hw hK
    obtain ⟨hd, hi⟩ := hg
    obtain ⟨f0, f1, f2, f3, f4, f5⟩ := hf it (by simp)
    obtain ⟨hs, hgd, hx, es', ep', hdt, hsz, ent⟩ := frzX I hd
    obtain ⟨rfl, rfl⟩ := dict_ep hod hdt
    obtain ⟨p, hkv⟩ : ∃ p, es[i]? = some p := ⟨es[i], List.getElem?_eq_getElem hi⟩
    obtain ⟨en, hen, hkey, hq⟩ := ent i p hkv
    refine next_key_item st hgd hdt hsz hen fun h' st' sb => ?_
    have I1 : Inv X pins σ H { s with heap := h' } := I.turned (t' := s.toks) (fun b ob hb e => (sb.2 b hb).trans e) f0 f1 f3 f4 f5
    obtain ⟨oi, e, c, dd⟩ := id st'
    exact ⟨en.key, rfl, go_of (s := { s with heap := h' }) e c dd (by decide) ⟨.ref p.2.1, H, I1, hkey, ⟨rfl, p, hkv, rfl⟩, st', fun b hb => (hf b hb).1⟩⟩
  done := by
    intro X hP hw hK hc i pins s σ H E I hf st hg
    subst hP hw hK
    obtain ⟨hd, hi⟩ := hg
    obtain ⟨f0, f1, f2, f3, f4, f5⟩ := hf it (by simp)
    obtain ⟨hs, hgd, hx, es', ep', hdt, hsz, ent⟩ := frzX I hd
    obtain ⟨rfl, rfl⟩ := dict_ep hod hdt
    exact next_key_end (I.ok.hd hc) st hgd hdt hsz hi fun h' eb => ⟨rfl, I.turned (t' := s.toks) (fun b ob hb e => eb b ob hb e) f0 f1 f3 f4 f5⟩
  self := fun A i s Q E st h => wpAny_pyIter_keyiter st h
theorem jok_k {K : PySem.W.Frag} {φ : Ad} {H : Hp} {d : Addr} {o : Obj} {ks : List (Key × V)} {kvs : List (D × D)} (h : H d = some (.frz o (.dK ks))) (n : KOk K (off φ H) ks kvs) : JOk ζ K (Itk d o ks) φ H (srcL (kvs.map Prod.fst)) where
  stop := fun φ' H' m i g S e => ⟨g.frz _ _ _ h, by
    have e' := List.getElem?_eq_none_iff.mp (Option.some.inj e)
    rw [List.length_map, ← Paired.len n] at e'
    exact e'⟩
  go := fun φ' H' m i d g S e => ⟨g.frz _ _ _ h, by
    have e' := (List.getElem?_eq_some_iff.mp (Option.some.inj e)).1
    rw [List.length_map, ← Paired.len n] at e'
    exact e'⟩
  yld := fun φ' H' m i d x H'' g S e y => by
    have e' : (kvs.map Prod.fst)[i]? = some d := Option.some.inj e
    rw [List.getElem?_map] at e'
    obtain ⟨q, e1, e2⟩ := Option.map_eq_some_iff.mp e'
    subst e2
    obtain ⟨rfl, k, v, h1, rfl⟩ := y
    obtain ⟨q', h2, h3, h4⟩ := paired_at n h1
    rw [e1] at h2
    cases h2
    refine ⟨.refl, S, ?_⟩
    show Dp K _ (kV k) q.1
    generalize hq : q.1 = d at h3
    cases d with
    | int i => cases h3; exact .int i
    | str x => cases h3; exact .str x
    | _ => cases h3
theorem jok_x {K : PySem.W.Frag} {φ : Ad} {H : Hp} {d : Addr} {o : Obj} {P0 : Program} {w0 : World} {es : List (NestedKey × Addr × V)} {kvs : List (D × D)} (h : H d = some (.frz o (.ext (XD P0 w0 d es)))) (n : NOk K (off φ H) es kvs) : JOk ζ K (Itx d o P0 w0 es) φ H (srcL (kvs.map Prod.fst)) where
  stop := fun φ' H' m i g S e => ⟨g.frz _ _ _ h, by
    have e' := List.getElem?_eq_none_iff.mp (Option.some.inj e)
    rw [List.length_map, ← Paired.len n] at e'
    exact e'⟩
  go := fun φ' H' m i d g S e => ⟨g.frz _ _ _ h, by
    have e' := (List.getElem?_eq_some_iff.mp (Option.some.inj e)).1
    rw [List.length_map, ← Paired.len n] at e'
    exact e'⟩
  yld := fun φ' H' m i d x H'' g S e y => by
    have e' : (kvs.map Prod.fst)[i]? = some d := Option.some.inj e
    rw [List.getElem?_map] at e'
    obtain ⟨q, e1, e2⟩ := Option.map_eq_some_iff.mp e'
    subst e2
    obtain ⟨rfl, p, h1, rfl⟩ := y
    obtain ⟨q', h2, h3, h4, h5⟩ := paired_at n h1
    rw [e1] at h2
    cases h2
    exact ⟨.refl, S, dp_mono g.same h4⟩
section
variable {X : Cx} {tg e : Expr} {f : EF}
theorem i_dict (he : PE X e (tE ζ X.K f)) : PI X tg e (tI ζ X.K (itDict f)) := ⟨fun pins s σ H R I q => by
  obtain ⟨φ, env, m, src, n, m', S, E, hf, k⟩ := q
  obtain ⟨⟨r, m1⟩, h1, hf⟩ := bind_some_iff hf
  have q1 : tE ζ X.K f σ H (fun v H' => ∃ φ', Gr φ H φ' H' ∧ SR ζ X.K φ' H' m1 ∧ RR X.K φ' H' v r) := ⟨φ, env, m, r, m1, S, E, h1, fun φ1 H1 v g1 S1 R1 => ⟨φ1, g1, S1, R1⟩⟩
  refine thn (he.run pins s σ H _ I q1) fun u s1 ⟨x, H1, I1, rx, φ1, g1, S1, R1⟩ => ?_
  cases r with
  | tp j => first | (cases hf; done) | (cases e; done) | (cases h1; done) | (cases h; done) | (cases h7; done) | (cases h2; done)
  | val d => cases hf
  | ref j =>
    simp only at hf
    split at hf
    · rename_i t kvs hm
      cases hf
      obtain ⟨a, rfl, ha⟩ := R1
      obtain rfl : u = Value.ref a := rx
      match t, S1.obj j _ a hm ha with
      | false, ⟨ks, ⟨o, hd⟩, n⟩ =>
        obtain ⟨hs, hgd, hx, es, ep, vs, hdt, hsz, kv, hmm⟩ := I1.frzK hd
        refine iter_keys hs hgd hx hdt (pi_one (tk := s1.toks) I1 _ (turn_keys _ hdt) ⟨_, Heap.get?_push_size _ rfl, rfl, ?_⟩ (k φ1 H1 _ g1 S1 (jok_k hd n)))
        rw [hsz] <;> rfl
      | true, ⟨P0, w0, es, ⟨o, hd⟩, n⟩ =>
        obtain ⟨hs, hgd, hx, ea, ep, hdt, hsz, ent⟩ := frzX I1 hd
        refine iter_keys hs hgd hx hdt (pi_one (tk := s1.toks) I1 _ (turn_x _ hdt) ⟨_, Heap.get?_push_size _ rfl, rfl, ?_⟩ (k φ1 H1 _ g1 S1 (jok_x hd n)))
        rw [hsz] <;> rfl
    · cases hf⟩
end
end Ev

set_option Elab.async false
set_option linter.all false
set_option maxRecDepth 100000
/-! sorted(..) of what can be collected: dicts (their keys). -/
namespace Ev
open PySem PySem.Spec PyProof.Rows L2
section
variable {X : Cx} {k : Nat} {pins : List (Addr × Obj)} {σ : L2.St} {H : Hp} {s : Shared} {φ : Ad} {m m' : M}
abbrev Eo (K : PySem.W.Frag) (φ : Ad) (H : Hp) : List Value → List D → Prop := PySem.W.EachIs fun v d => ∃ x : V, RelV x v ∧ Dp K (off φ H) x d
theorem eo_mk {K : PySem.W.Frag} : ∀ {ds : List D} {vs : List Value}, vs.length = ds.length → (∀ (i : Nat) (v : Value) (d : D), vs[i]? = some v → ds[i]? = some d → ∃ x : V, RelV x v ∧ Dp K (off φ H) x d) → Eo K φ H vs ds
  | [], [], _, _ => .nil
  | [], _ :: _, h, _ => by cases h
  | _ :: _, [], h, _ => by cases h
  | d :: ds, v :: vs, h, q => .cons (q 0 v d rfl rfl) (eo_mk (by simpa using h) fun i v' d' e1 e2 => q (i + 1) v' d' (by simpa using e1) (by simpa using e2))
theorem sorted_gen {u : Value} {ds : List D} {Q : VK} (hr : Room k X.A) (S : SR ζ X.K φ H m) (hc : ∀ E' : Value → Shared → Prop, wpAny (model X.prog X.w) X.A.in1 (PySem.collect u) (fun vs s1 => Inv X pins σ H s1 ∧ Eo X.K φ H vs ds) E' s)
    (ok : (sortableB ds && smallAll ds && decide (ds.length ≤ sizeLine)) = true) (kk : ValK ζ X.K φ H (.val (.list (sortD ds))) m Q) : wpAny (model X.prog X.w) X.A (call (.builtin "sorted") [u]) (EP X pins σ Q) X.xe s := by
  rw [Bool.and_eq_true, Bool.and_eq_true] at ok
  obtain ⟨⟨c1, c2⟩, c3⟩ := ok
  obtain ⟨hal, hso⟩ := sortable_ok c1
  have hsm := of_decide_eq_true c2
  have hlen := of_decide_eq_true c3
  have hun := hr.un
  refine PySem.W.sorted_of_collect (args_sorted1 _) (fun _ => args_list_sort _) fun E' => wpAny_mono (hc E') (fun vs s1 hq => ?_) fun _ _ e => e
  obtain ⟨I1, e1⟩ := hq
  have hvl : vs.length = ds.length := e1.length
  refine ⟨by rw [hvl]; exact hlen, fun h2 c up hsz hat E2 => ?_⟩
  have I2 : Inv X pins σ H { s1 with heap := h2, toks := s1.toks } := I1.kept up
  have er' : PySem.W.EachIs (fun v b => ∃ as, Reads (PySem.W.sortingHeap h2 s1.heap.objs.size vs) v (id b) as) vs ds := e1.mono fun v d ⟨x, r, q⟩ => by
    obtain ⟨as, ha⟩ := Dp.reads I1 _ _ _ (dp_mono off_same q) r
    exact ⟨as, PyProof.Rows.Reads.keeps (fun b o q => PySem.W.sortingHeap_old (Nat.ne_of_lt (Heap.lt_size q)) (up b o q)) ha⟩
  refine PySem.W.list_sort_vals (κ := PySem.W.dataKind (PySem.W.sortingHeap h2 s1.heap.objs.size vs) (ds.map id)) hat (PySem.W.SortsAt.data (s := { s1 with heap := PySem.W.sortingHeap h2 s1.heap.objs.size vs }) (PySem.W.each_map (R := fun v d => ∃ as, Reads (PySem.W.sortingHeap h2 s1.heap.objs.size vs) v d as) id er') (by rw [List.map_id]; exact hal) (by rw [List.map_id]; exact hso) (PySem.W.bound_map fun b hb => ?_)) (by rw [hvl]; exact hlen) ⟨rfl, ?_⟩
  · have := depth_all hb
    show X.A.units + 1 + 1 + b.depth < cLine
    omega
  · have eo := PySem.W.sortVals_data (enc := id) false e1 er' (by rw [List.map_id]; exact hal)
    have ho := PySem.W.sortVals_length (κ := PySem.W.dataKind (PySem.W.sortingHeap h2 s1.heap.objs.size vs) (ds.map id)) false (ks := vs) (vs := vs) rfl
    generalize PySem.W.sortVals (PySem.W.dataKind (PySem.W.sortingHeap h2 s1.heap.objs.size vs) (ds.map id)) false vs vs = out at eo ho
    obtain ⟨ys, rv2, hd2⟩ := of_each eo
    obtain ⟨c2, hc2⟩ := sortedHeap_at (vs := vs) (out := out.toArray) hat
    have hp : H s1.heap.objs.size = none := I1.hok.fresh (Nat.le_refl _)
    have hyl : ys.length = out.length := rv2.length
    have I3 : Inv X pins σ (upd H s1.heap.objs.size (.lst ys)) { s1 with heap := sortedHeap h2 s1.heap.objs.size vs out.toArray, toks := s1.toks } := I1.laid (o := .lst ys) (fun b ob q => (sortedHeap_old (Nat.ne_of_lt (Heap.lt_size q)) (Heap.lt_size (up b ob q))).trans (up b ob q)) (Nat.le_refl _) ⟨by rw [hyl, ho, hvl]; exact hlen, out, c2, rv2, hc2⟩
    exact ⟨.ref _, _, I3, rfl, kk φ _ _ (gr_alloc hp) (S.alloc hp) (rr_newL S hp hd2)⟩
theorem pairs_at {prog : Program} {w : World} {K : Type} [DecidableEq K] {knd : KeyKind prog w K} {es : List DictEntry} {kvs : List (K × Value)} (h : Pairs knd es kvs) : ∀ {i : Nat} {kv : K × Value}, kvs[i]? = some kv → ∃ e, es[i]? = some e ∧ knd.is kv.1 e.key = true ∧ e.val = kv.2 := by
  induction h with
  | nil => intro i kv e; simp at e
  | @cons e kv0 es kvs h1 h2 ht ih =>
    intro i kv q
    cases i with
    | zero =>
      simp at q
      subst q
      exact ⟨e, rfl, h1, h2⟩
    | succ i =>
      obtain ⟨e', a, b, c⟩ := ih (i := i) (kv := kv) (by simpa using q)
      exact ⟨e', by simpa using a, b, c⟩
/-- a dict's entries, raw -/
theorem dict_raw {a : Addr} {t lk : Bool} {kvs : List (D × D)} (I : Inv X pins σ H s) (O : OR X.K (off φ H) H a (.dct t lk kvs)) :
    (a == sysModules) = false ∧ kvs.length ≤ sizeLine ∧ ∃ (ea : Array DictEntry) (ep : Nat), s.heap.DictRaw a ea ep ∧ ea.size = kvs.length ∧
      ∀ (i : Nat) (q : D × D), kvs[i]? = some q → ∃ en : DictEntry, ea[i]? = some en ∧ (∃ x : V, RelV x en.key ∧ Dp X.K (off φ H) x q.1) ∧ ∃ y : V, RelV y en.val ∧ Dp X.K (off φ H) y q.2 := by
  match t, O with
  | false, ⟨ks, h1, n⟩ =>
    obtain ⟨z, hd, vs, rel, dd⟩ := dk_rd I.hok (lkd_rd h1)
    obtain ⟨o, ea, ep, q1, q2, q3, q4, q5, q6⟩ := dd
    have l1 : ea.size = vs.length := by
      have := q5.length
      rw [Array.length_toList] at this
      exact this
    refine ⟨hd, by rw [← Paired.len n]; exact z, ea, ep, ⟨o, q1, q2, q3⟩, by rw [l1, ← Paired.len rel, Paired.len n], fun i q e => ?_⟩
    obtain ⟨p, e1, e2, e3⟩ := Paired.at_ n e
    obtain ⟨x, f1, f2, f3⟩ := paired_at rel e1
    obtain ⟨en, g1, g2, g3⟩ := pairs_at q5 f1
    rw [Array.getElem?_toList] at g1
    refine ⟨en, g1, ⟨kV p.1, relV_key (show keyIs p.1 en.key = true from by rw [f2]; exact g2), ?_⟩, p.2, by rw [g3]; exact f3, e3⟩
    generalize q.1 = d at e2
    generalize p.1 = kk at e2
    cases d with
    | int i => cases e2; exact .int i
    | str x => cases e2; exact .str x
    | _ => cases e2
  | true, ⟨P, w, es, h1, n⟩ =>
    obtain ⟨z, hd, xs, rel, dd⟩ := xd_rd I (lkd_rd h1) n.off
    obtain ⟨o, ea, ep, q1, q2, q3, q4, q5, q6⟩ := dd
    refine ⟨hd, by rw [← Paired.len n]; exact z, ea, ep, ⟨o, q1, q2, q3⟩, by rw [size_of_entries q4, ← Paired.len rel, Paired.len n], fun i q e => ?_⟩
    obtain ⟨p, e1, e2, e3, e4⟩ := Paired.at_ n e
    obtain ⟨x, f1, f2, f3, f4⟩ := paired_at rel e1
    refine ⟨_, by rw [entry_at q4, f1]; rfl, ⟨.ref p.2.1, ?_, e3⟩, p.2.2, f4, e4⟩
    show Value.ref x.2.1 = Value.ref p.2.1
    rw [f3]
theorem keys_eo {a : Addr} {t lk : Bool} {kvs : List (D × D)} (hc : X.calm = true) (I : Inv X pins σ H s) (O : OR X.K (off φ H) H a (.dct t lk kvs)) (E' : Value → Shared → Prop) :
    wpAny (model X.prog X.w) X.A.in1 (PySem.collect (.ref a)) (fun vs s1 => Inv X pins σ H s1 ∧ Eo X.K φ H vs (kvs.map Prod.fst)) E' s := by
  obtain ⟨hd, hz, ea, ep, raw, hs, ent⟩ := dict_raw I O
  refine PySem.W.kdu_collect (A := X.A.in1) (KdlSrc.rawDict hd) (I.ok.hd hc) raw (by rw [hs]; exact hz) fun h' tk acc hk hacc => ⟨I.kept hk, ?_⟩
  refine eo_mk (by rw [Array.length_toList, hacc.1, hs, List.length_map]) fun i v d e1 e2 => ?_
  rw [List.getElem?_map] at e2
  obtain ⟨q, e6, e7⟩ := Option.map_eq_some_iff.mp e2
  subst e7
  obtain ⟨en, e3, e4, _⟩ := ent i q e6
  obtain ⟨hi, ev⟩ := hacc.2 i v (by rw [← Array.getElem?_toList]; exact e1)
  have e5 : ea[i]? = some ea[i] := Array.getElem?_eq_getElem hi
  rw [e5] at e3
  cases e3
  subst ev
  exact e4
/-- sorted(d) -/
def pSortedD : PF := p1 fun r m => match r with
  | .ref k => (m[k]?).bind fun ob => match ob with
    | .dct _ _ kvs => if (sortableB (kvs.map Prod.fst) && smallAll (kvs.map Prod.fst) && decide ((kvs.map Prod.fst).length ≤ sizeLine)) = true then some (.val (.list (sortD (kvs.map Prod.fst))), m) else none
    | _ => none
  | _ => none
theorem c_sortedD (hr : Room k X.A) (hc : X.calm = true) : CallR X (.builtin "sorted") (rsP ζ X.K pSortedD) := c_one fun pins s σ H v us Q φ m a r m' I rx S ra hf kk => by
  split at hf
  · rename_i k0
    obtain ⟨ob, ho, hf⟩ := bind_some_iff hf
    split at hf
    · rename_i t lk kvs
      split at hf
      · rename_i ok
        cases hf
        obtain ⟨a, rfl, ha⟩ := ra
        obtain ⟨u, rfl, ru⟩ := vals1 rx
        obtain rfl : u = Value.ref a := ru
        exact sorted_gen hr S (keys_eo hc I (S.obj k0 _ a ho ha)) ok kk
      · cases hf
    · cases hf
  · cases hf
end
end Ev

set_option Elab.async false
set_option linter.all false
set_option maxRecDepth 100000
/-! an expression's own objects dropped; d[k] op= v. -/
namespace Ev
open PySem PySem.Spec PyProof.Rows L2
/-- the objects that an expression made are dropped -/
def eCut (f : EF) : EF := fun env m => (f env m).bind fun x => match x.1 with
  | .val d => some (.val d, x.2.take m.length)
  | _ => none
def sAugGF (pg q : R → R → M → Option (R × M)) (p : R → R → R → M → Option M) (f g h : EF) : SF := fun env m => (f env m).bind fun x => (g env x.2).bind fun y => (pg x.1 y.1 y.2).bind fun z => (h env z.2).bind fun w => (q z.1 w.1 w.2).bind fun u => (p x.1 y.1 u.1 u.2).bind fun m' => some (.nx env m')
section
variable {X : Cx} {e o i : Expr} {f g h : EF} {pos tpos : Pos}
theorem x_cut (he : PE X e (tE ζ X.K f)) : PE X e (tE ζ X.K (eCut f)) := pe_imp he fun σ H Q q => by
  obtain ⟨φ, env, m, r, m', S, E, hf, k⟩ := q
  obtain ⟨⟨r1, m1⟩, h1, hf⟩ := bind_some_iff hf
  cases r1 with
  | tp j => first | (cases hf; done) | (cases e; done) | (cases h1; done) | (cases h; done) | (cases h7; done) | (cases h2; done)
  | ref j => cases hf
  | val d =>
    cases hf
    exact ⟨φ, env, m, _, m1, S, E, h1, fun φ1 H1 v g1 S1 R1 => k φ H1 v g1.cut (S.cut S1 g1) (dp_mono (gr_cut g1) R1)⟩
theorem s_augG {op : Operator} {pg q : R → R → M → Option (R × M)} {p : R → R → R → M → Option M} (hg : PGet X (r2P ζ X.K pg)) (ho : PE X o (tE ζ X.K f)) (hi : PE X i (tE ζ X.K g)) (he : PE X e (tE ζ X.K h)) (hp : OpR X (inplaceOp op) (r2P ζ X.K q)) (hs : PSet X (rSetP ζ X.K p))
    (ha : ∀ ov iv new, augStore i ov iv new = (do holding [new, ov, iv] (setItem ov iv new); release [new, ov, iv] []; pure .next) := by intros; rfl) : PS X (.AugAssign (.Subscript o i tpos) op e pos) (tS ζ X.K (sAugGF pg q p f g h)) :=
  ps_imp (ps_augS (tip := r2P ζ X.K q) ho hi hg he hp hs ha) fun W σ H z => by
  obtain ⟨φ, env, m, fl, S, E, hf, k⟩ := z
  obtain ⟨⟨r1, m1⟩, h1, hf⟩ := bind_some_iff hf
  obtain ⟨⟨r2, m2⟩, h2, hf⟩ := bind_some_iff hf
  obtain ⟨⟨r3, m3⟩, h3, hf⟩ := bind_some_iff hf
  obtain ⟨⟨r4, m4⟩, h4, hf⟩ := bind_some_iff hf
  obtain ⟨⟨r5, m5⟩, h5, hf⟩ := bind_some_iff hf
  obtain ⟨m6, h6, hf⟩ := bind_some_iff hf
  cases hf
  refine ⟨φ, env, m, r1, m1, S, E, h1, fun φ1 H1 v1 g1 S1 R1 => ?_⟩
  refine ⟨φ1, env, m1, r2, m2, S1, E.mono g1, h2, fun φ2 H2 v2 g2 S2 R2 => ?_⟩
  refine ⟨φ2, m2, r1, r2, r3, m3, S2, R1.mono g2, R2, h3, fun φ3 H3 v3 g3 S3 R3 => ?_⟩
  refine ⟨φ3, env, m3, r4, m4, S3, E.mono (g1.trans (g2.trans g3)), h4, fun φ4 H4 v4 g4 S4 R4 => ?_⟩
  refine ⟨φ4, m4, r3, r4, r5, m5, S4, R3.mono g4, R4, h5, fun φ5 H5 v5 g5 S5 R5 => ?_⟩
  have gg := g1.trans (g2.trans (g3.trans (g4.trans g5)))
  exact ⟨φ5, m5, r1, r2, r5, m6, S5, R1.mono (g2.trans (g3.trans (g4.trans g5))), R2.mono (g3.trans (g4.trans g5)), R5, h6, fun φ6 H6 g6 S6 => k φ6 σ H6 (gg.trans g6) S6 (E.mono (gg.trans g6))⟩
end
end Ev

set_option Elab.async false
set_option linter.all false
set_option maxRecDepth 100000
/-! sorted(..) of anything: lists, tuples, dicts. -/
namespace Ev
open PySem PySem.Spec PyProof.Rows L2
def asK (r : R) (m : M) : Option (List D) := match r with
  | .ref k => (m[k]?).bind fun ob => match ob with
    | .lst ds => some ds
    | .dct _ _ kvs => some (kvs.map Prod.fst)
  | .val (.list ds) => some ds
  | .val (.tuple ds) => some ds
  | _ => none
def pSortedA : PF := p1 fun r m => (asK r m).bind fun ds => if (sortableB ds && smallAll ds && decide (ds.length ≤ sizeLine)) = true then some (.val (.list (sortD ds)), m) else none
section
variable {X : Cx} {k : Nat} {pins : List (Addr × Obj)} {σ : L2.St} {H : Hp} {s : Shared} {φ : Ad} {m : M}
theorem collect_any {r : R} {v : V} {u : Value} {ds : List D} (hc : X.calm = true) (I : Inv X pins σ H s) (S : SR ζ X.K φ H m) (R0 : RR X.K φ H v r) (rv : RelV v u) (h : asK r m = some ds) (hz : ds.length ≤ sizeLine) (E' : Value → Shared → Prop) :
    wpAny (model X.prog X.w) X.A.in1 (PySem.collect u) (fun vs s1 => Inv X pins σ H s1 ∧ Eo X.K φ H vs ds) E' s := by
  have lst : ∀ {a : Addr} {xs : List V}, u = Value.ref a → SqL X.K H a xs → DpAll X.K (off φ H) xs ds → wpAny (model X.prog X.w) X.A.in1 (PySem.collect u) (fun vs s1 => Inv X pins σ H s1 ∧ Eo X.K φ H vs ds) E' s := fun {a xs} e hs hd => by
    subst e
    obtain ⟨its, rvs, hl, _⟩ := I.list hs
    have hz2 : its.length ≤ sizeLine := by rw [← rvs.length, DpAll.len hd]; exact hz
    have up : ∀ b o, s.heap.get? b = some o → ((s.heap.push (seqObj "list" #[] 0)).update s.heap.objs.size (Obj.mapSeq (· ++ its.toArray))).get? b = some o := fun b o hb => by
      rw [Heap.get?_update_ne _ _ _ _ (Nat.ne_of_lt (Heap.lt_size hb))]
      exact Heap.get?_push_of_some _ hb
    exact collect_list hl.isList ⟨I.kept (t' := s.toks) up, each_of hd rvs⟩ hz2
  cases r with
  | tp j => first | (cases hf; done) | (cases e; done) | (cases h1; done) | (cases h; done) | (cases h7; done) | (cases h2; done)
  | ref k0 =>
    obtain ⟨ob, ho, h⟩ := bind_some_iff h
    obtain ⟨a, rfl, ha⟩ := R0
    obtain rfl : u = Value.ref a := rv
    cases ob with
    | dct t lk kvs =>
      cases h
      exact keys_eo hc I (S.obj k0 _ a ho ha) E'
    | lst ds' =>
      cases h
      obtain ⟨xs, h3, h4⟩ := S.obj k0 _ a ho ha
      exact lst rfl (.inl (.inl h3)) h4
  | val d =>
    have R0' : Dp X.K (off φ H) v d := R0
    cases d with
    | list ds' =>
      cases h
      cases R0' with
      | lst hs hd => exact lst rv (off_same.seq hs) hd
    | tuple ds' =>
      cases h
      cases R0' with
      | @tup a vs _ hs hd =>
        obtain rfl : u = Value.ref a := rv
        obtain ⟨its, rvs, hl, _⟩ := I.tuple (sqT_mono off_same hs)
        exact collect_tupV hl (by rw [← rvs.length, DpAll.len hd]; exact hz) fun h' up => ⟨I.kept (t' := s.toks) up, each_of hd rvs⟩
    | _ => cases h
theorem c_sortedA (hr : Room k X.A) (hc : X.calm = true) : CallR X (.builtin "sorted") (rsP ζ X.K pSortedA) := c_one fun pins s σ H v us Q φ m a r m' I rx S ra hf kk => by
  obtain ⟨ds, h1, hf⟩ := bind_some_iff hf
  split at hf
  · rename_i ok
    cases hf
    obtain ⟨u, rfl, ru⟩ := vals1 rx
    have ok' := ok
    rw [Bool.and_eq_true] at ok'
    exact sorted_gen hr S (collect_any hc I S ra ru h1 (of_decide_eq_true ok'.2)) ok kk
  · cases hf
end
end Ev

set_option Elab.async false
set_option linter.all false
set_option maxRecDepth 100000
/-! sorted and dicts of known values. -/
namespace Ev
open PySem PySem.Spec PyProof.Rows L2
theorem sortD_map {α : Type} (enc : α → D) (l : List α) : sortD (l.map enc) = (l.mergeSort (PySem.W.dataLe false enc)).map enc := by
  unfold sortD
  exact (List.map_mergeSort (r := PySem.W.dataLe false enc) (s := PySem.W.dataLe false id) (f := enc) (l := l) fun a _ b _ => rfl).symm
def srt (l : List Nat) : List Nat := l.mergeSort fun a b => decide (a ≤ b)
theorem srt_perm (l : List Nat) : (srt l).Perm l := List.mergeSort_perm _ _
theorem srt_sorted (l : List Nat) : (srt l).Pairwise (· ≤ ·) := by
  have := List.pairwise_mergeSort (le := fun a b : Nat => decide (a ≤ b)) (fun a b c h1 h2 => by simp at *; omega) (fun a b => by simp; omega) l
  exact this.imp fun h => by simpa using h
theorem srt_len (l : List Nat) : (srt l).length = l.length := (srt_perm l).length_eq
theorem sortable_of {ds : List D} (h : ∀ d ∈ ds, ∃ i, d = .int i) : sortableB ds = true := by
  unfold sortableB
  rw [Bool.and_eq_true, Bool.or_eq_true]
  refine ⟨?_, .inr ?_⟩
  · rw [List.all_eq_true]
    intro x hx
    rw [List.all_eq_true]
    intro y hy
    obtain ⟨i, rfl⟩ := h x hx
    obtain ⟨j, rfl⟩ := h y hy
    rfl
  · rw [List.all_eq_true]
    intro x hx
    obtain ⟨i, rfl⟩ := h x hx
    rfl
theorem depth_of {ds : List D} {n : Nat} (h : ∀ d ∈ ds, d.depth ≤ n) : PyData.depthAll ds ≤ n := by
  induction ds with
  | nil => exact Nat.zero_le _
  | cons d ds ih =>
    have h1 := h d (by simp)
    have h2 := ih fun e he => h e (List.mem_cons_of_mem _ he)
    show max d.depth (PyData.depthAll ds) ≤ n
    omega
theorem small_of {ds : List D} (h : ∀ d ∈ ds, d.depth ≤ 60) : smallAll ds = true := decide_eq_true (depth_of h)
theorem psort_r {r : R} {m : M} {ds : List D} (h : asK r m = some ds) (h1 : sortableB ds = true) (h2 : smallAll ds = true) (h3 : ds.length ≤ 16777216) : pSortedA [r] m = some (.val (.list (sortD ds)), m) := by
  show ((asK r m).bind fun ds => if (sortableB ds && smallAll ds && decide (ds.length ≤ sizeLine)) = true then some (R.val (.list (sortD ds)), m) else none) = _
  rw [h, ob_some]
  simp only [h1, h2, sz, h3, decide_true, Bool.and_self, if_true]
theorem sortD_N (l : List Nat) : sortD (encI l) = encI (srt l) := by
  unfold encI
  rw [sortD_map]
  have e : PySem.W.dataLe false (fun a : Nat => PyData.int a) = fun a b => decide (a ≤ b) := by
    rw [PySem.W.dataLe_int (fun a : Nat => (a : Int))]
    funext a b
    simp
  rw [e]
  rfl
theorem psort_N {r : R} {m : M} {l : List Nat} (h : asK r m = some (encI l)) (hl : l.length ≤ 16777216) : pSortedA [r] m = some (.val (.list (encI (srt l))), m) := by
  rw [psort_r h (sortable_of fun d hd => ?_) (small_of fun d hd => ?_) (by rw [encI_len]; exact hl), sortD_N]
  · obtain ⟨a, _, rfl⟩ := List.mem_map.mp hd
    exact ⟨_, rfl⟩
  · obtain ⟨a, _, rfl⟩ := List.mem_map.mp hd
    exact Nat.zero_le _
/-! tuples of whole numbers as keys -/
theorem keyNs_I : ∀ l : List Nat, keyNs (encI l) = some (l.map fun a : Nat => NestedKey.num a)
  | [] => rfl
  | a :: l => by
    show ((keyN (.int a)).bind fun k => (keyNs (encI l)).map fun ks => k :: ks) = _
    rw [keyNs_I l]
    rfl
theorem keyN_T (l : List Nat) : keyN (encT l) = some (.tup (l.map fun a : Nat => NestedKey.num a)) := by
  show (keyNs (encI l)).map NestedKey.tup = _
  rw [keyNs_I]
  rfl
theorem depth_nums : ∀ l : List Nat, NestedKey.depthAll (l.map fun a : Nat => NestedKey.num a) = 0
  | [] => rfl
  | a :: l => by
    show max 0 (NestedKey.depthAll (l.map fun a : Nat => NestedKey.num a)) = 0
    rw [depth_nums l]
    rfl
theorem keyOk_T (l : List Nat) : keyOk true (encT l) = true := by
  show keyOkN (encT l) = true
  unfold keyOkN
  rw [keyN_T]
  show decide (NestedKey.depthAll (l.map fun a : Nat => NestedKey.num a) + 1 ≤ 8) = true
  rw [depth_nums]
  rfl
theorem nums_inj {a b : List Nat} (h : (a.map fun a : Nat => NestedKey.num a) = b.map fun a : Nat => NestedKey.num a) : a = b := by
  refine (List.map_inj_right ?_).mp h
  intro x y e
  injection e with e
  omega
theorem same_T (a b : List Nat) : sameD true (encT a) (encT b) = decide (a = b) := by
  rw [sameD_T, keyN_T, keyN_T]
  by_cases h : a = b
  · subst h; simp
  · rw [decide_eq_false h]
    refine decide_eq_false fun z => h ?_
    injection z with z
    injection z with z
    exact nums_inj z
/-- a dict that holds True at tuples of whole numbers -/
def kT (ks : List (List Nat)) : List (D × D) := ks.map fun u => (encT u, .bool true)
def insT (ks : List (List Nat)) (w : List Nat) : List (List Nat) := if w ∈ ks then ks else ks ++ [w]
theorem put_T (ks : List (List Nat)) (w : List Nat) : putD true (kT ks) (encT w) (.bool true) = kT (insT ks w) := by
  have e : ((kT ks).any fun q => sameD true q.1 (encT w)) = decide (w ∈ ks) := by
    unfold kT
    rw [List.any_map]
    induction ks with
    | nil => simp
    | cons u ks ih =>
      rw [List.any_cons, ih]
      simp only [Function.comp_apply, same_T, List.mem_cons]
      by_cases h : w = u
      · subst h; simp
      · simp [h, show ¬ u = w from fun z => h z.symm]
  unfold putD insT
  rw [e]
  by_cases h : w ∈ ks
  · rw [if_pos (decide_eq_true h), if_pos h]
    unfold kT
    rw [List.map_map]
    refine List.map_congr_left fun u _ => ?_
    simp only [Function.comp_apply]
    split <;> rfl
  · rw [if_neg (by simp [h]), if_neg h]
    unfold kT
    simp
theorem insT_mem {ks : List (List Nat)} {w u : List Nat} : u ∈ insT ks w ↔ u ∈ ks ∨ u = w := by
  unfold insT
  split
  · rename_i h
    exact ⟨.inl, fun q => q.elim id fun e => e ▸ h⟩
  · simp
theorem insT_len (ks : List (List Nat)) (w : List Nat) : (insT ks w).length ≤ ks.length + 1 := by
  unfold insT
  split
  · omega
  · simp
theorem dset_T {m : M} {j : Nat} {ks : List (List Nat)} {w : List Nat} (h : m[j]? = some (.dct true false (kT ks))) (hl : ks.length < 16777216) : pDSet (.ref j) (.val (encT w)) (.val (.bool true)) m = some (m.set j (.dct true false (kT (insT ks w)))) := by
  have hl2 : (kT ks).length < sizeLine := by unfold kT; rw [List.length_map, sz]; exact hl
  unfold pDSet
  simp only [h, ob_some, keyOk_T, put_T, hl2, and_self, if_true]
theorem kT_keys (ks : List (List Nat)) : (kT ks).map Prod.fst = ks.map encT := by
  unfold kT
  rw [List.map_map]
  rfl
/-! evaluators -/
section
variable {f g : EF} {env : Sl} {m : M}
theorem ev_dnew {t : Bool} : eDNew t env m = some (.ref m.length, m ++ [.dct t false []]) := nr rfl
theorem it_dict : itDict f env m = (f env m).bind fun x => match x.1 with
  | .ref k => match x.2[k]? with
    | some (.dct _ true kvs) => iL (kvs.map Prod.fst) x.2
    | _ => none
  | _ => none := nr rfl
theorem alike_T {a b : List Nat} : PySem.W.alike (encT a) (encT b) = true := by
  show PySem.W.alikeAll (encI a) (encI b) = true
  induction a generalizing b with
  | nil => rfl
  | cons x a ih =>
    cases b with
    | nil => rfl
    | cons y b =>
      show (true && PySem.W.alikeAll (encI a) (encI b)) = true
      rw [ih]
      rfl
theorem depth_T (a : List Nat) : (encT a).depth ≤ 1 := by
  show PyData.depthAll (encI a) + 1 ≤ 1
  have : PyData.depthAll (encI a) ≤ 0 := depth_of fun d hd => by
    obtain ⟨a, _, rfl⟩ := List.mem_map.mp hd
    exact Nat.le_refl _
  omega
/-- sorted of tuples of whole numbers: some order -/
theorem psort_T {r : R} {ks : List (List Nat)} (h : asK r m = some (ks.map encT)) (hne : ∀ u ∈ ks, u ≠ []) (hl : ks.length ≤ 16777216) : ∃ ks' : List (List Nat), ks'.Perm ks ∧ pSortedA [r] m = some (.val (.list (ks'.map encT)), m) := by
  refine ⟨ks.mergeSort (PySem.W.dataLe false encT), List.mergeSort_perm _ _, ?_⟩
  rw [psort_r h (sortable_tup ks (fun u hu => ?_) fun a _ b _ => alike_T) (small_of fun d hd => ?_) (by rw [List.length_map]; exact hl), sortD_map]
  · cases e : u with
    | nil => exact absurd e (hne u hu)
    | cons x xs => exact ⟨_, _, rfl⟩
  · obtain ⟨u, _, rfl⟩ := List.mem_map.mp hd
    exact Nat.le_trans (depth_T u) (by decide)
end
end Ev

set_option Elab.async false
set_option linter.all false
set_option maxRecDepth 100000
set_option maxHeartbeats 4000000
/-! tuple * 1: the tuple itself. -/
namespace L2
open PySem PySem.Spec PyProof.Rows
theorem tuple_mul1 (l : Addr) (items : Array Value) (n : Nat) (dd : Option Addr) (sl : Array (Option Value)) (u : Tok) :
    Meets (Builtin.«tuple.__mul__» ⟨[.ref l, .int 1 u], []⟩) (fun _ R s => s.heap.get? l = some { cls := .type "tuple", dict := dd, data := .seq items n, slots := sl } ∧ R (.ok (.ret (Value.ref l))) s) :=
  .of_wp fun prog w A R s h => by
    obtain ⟨hp, g, d, tk, os⟩ := s
    obtain ⟨hl, h⟩ := h
    have f1 := AutoSeq1.idx_int
    wp_walk using wpAny_loadPart' hl
    repeat (first
      | (refine wpAny_ite_false (by decide) ?_; wp_walk using wpAny_loadPart' hl)
      | (refine wpAny_ite_true (by simp) ?_; wp_walk using wpAny_loadPart' hl))
    all_goals exact ⟨_, rfl, h⟩
section
variable {X : Cx}
theorem op_rep1 : OpR X (binaryOp .Mult) (fun x y H Q => ∃ l xs, x = .ref l ∧ y = .int 1 ∧ SqT X.K H l xs ∧ Q (.ref l) H) := by
  intro pins s σ H x y v u Q I rx ry h
  obtain ⟨l, xs, rfl, rfl, hT, q⟩ := h
  cases rx
  obtain ⟨t, rfl⟩ := ry
  obtain ⟨its, r, ⟨⟨cls, dd, data, sl⟩, ho, hc, n, hd⟩, hs⟩ := I.tuple hT
  simp only at hc hd
  subst hc hd
  exact wpAny_binaryOp_repeat_ref (T := "tuple") (U := "int") (by decide) ⟨_, ho, rfl⟩ (fun s' => typeIs_int s' 1 t) noFill_tuple_mul F.fills_int_mul F.slot_int_rmul repeat_tuple F.slot_int_index.lookup
    (call_meets F.slot_int_rmul (typeIs_int s 1 t) F.entry_int_rmul (F.args_int_rmul_2 _ _) (int_rmul_tuple 1 t l its.toArray n dd sl)
      ⟨ho, rfl, ⟨_, ho, rfl⟩, call_meets F.slot_tuple_mul ⟨_, ho, rfl⟩ F.entry_tuple_mul (F.args_tuple_mul_2 _ _) (tuple_mul1 l its.toArray n dd sl t) ⟨ho, ⟨.ref l, H, I, rfl, q⟩⟩⟩)
end
end L2
namespace Ev
open PySem PySem.Spec PyProof.Rows L2
def pRepA (a b : R) (m : M) : Option (R × M) := match a, b with
  | .val (.tuple ds), .val (.int 1) => some (.val (.tuple ds), m)
  | a, b => pRepT a b m
section
variable {X : Cx}
theorem o_repA : OpR X (binaryOp .Mult) (r2P ζ X.K pRepA) := by
  intro pins s σ H x y v u Q I rx ry q
  obtain ⟨φ, m, r1, r2, r, m', S, R1, R2, hf, k⟩ := q
  unfold pRepA at hf
  split at hf
  · rename_i ds
    cases hf
    obtain ⟨a, xs, rfl, hs, hd⟩ := seqT_of R1
    exact op_rep1 pins s σ H _ _ v u Q I rx ry ⟨a, xs, rfl, rr_int R2, hs, k φ H _ .refl S R1⟩
  · exact o_repT pins s σ H _ _ v u Q I rx ry ⟨φ, m, r1, r2, r, m', S, R1, R2, hf, k⟩
theorem prepA_0 {n : Nat} {m : M} (h : 1 ≤ n) (h2 : n ≤ 1000) : pRepA (.val (.tuple [.int 0])) (.val (.int (n : Int))) m = some (.val (encT (List.replicate n 0)), m) := by
  by_cases c : n = 1
  · subst c
    rfl
  · have e : pRepA (.val (.tuple [.int 0])) (.val (.int (n : Int))) m = pRepT (.val (.tuple [.int 0])) (.val (.int (n : Int))) m := by
      unfold pRepA
      split
      · rename_i h1 h3
        injection h3 with h3
        injection h3 with h3
        omega
      · rfl
    rw [e]
    show (if [PyData.int 0] ≠ [] ∧ (2 : Int) ≤ n ∧ (n : Int) ≤ 1000 ∧ [PyData.int 0].length ≤ 1000 then some (R.val (.tuple (List.replicate ((n : Int)).toNat [PyData.int 0]).flatten), m) else none) = _
    rw [if_pos ⟨by simp, by omega, by omega, by simp⟩, Int.toNat_natCast]
    congr 3
    show PyData.tuple _ = PyData.tuple (encI (List.replicate n 0))
    congr 1
    show (List.replicate n [PyData.int 0]).flatten = encI (List.replicate n 0)
    clear h h2 c e
    unfold encI
    rw [List.map_replicate]
    induction n with
    | zero => rfl
    | succ n ih => rw [List.replicate_succ, List.flatten_cons, ih, List.replicate_succ]; rfl
end
end Ev

set_option Elab.async false
set_option linter.all false
set_option maxRecDepth 100000
/-! least, greatest and places in lists of natural numbers. -/
namespace Ev
open PySem PySem.Spec PyProof.Rows L2
section
variable {m : M} {r : R}
theorem pmin_1 {d : D} {ds : List D} (h : asLT r m = some (d :: ds)) (h1 : alikeB (d :: ds) = true) (h2 : smallAll (d :: ds) = true) : pMin [r] m = some (.val (PySem.W.minD d ds), m) := by
  have e : pMin [r] m = (asLT r m).bind fun ds => match ds with
    | [] => none
    | d :: ds => if (alikeB (d :: ds) && smallAll (d :: ds)) = true then some (.val (PySem.W.minD d ds), m) else none := rfl
  rw [e, h, ob_some]
  simp only [h1, h2, Bool.and_self, if_true]
theorem pmax_1 {d : D} {ds : List D} (h : asLT r m = some (d :: ds)) (h1 : alikeB (d :: ds) = true) (h2 : smallAll (d :: ds) = true) : pMax [r] m = some (.val (PySem.W.maxD d ds), m) := by
  have e : pMax [r] m = (asLT r m).bind fun ds => match ds with
    | [] => none
    | d :: ds => if (alikeB (d :: ds) && smallAll (d :: ds)) = true then some (.val (PySem.W.maxD d ds), m) else none := rfl
  rw [e, h, ob_some]
  simp only [h1, h2, Bool.and_self, if_true]
theorem alikeB_int {ds : List D} (h : ∀ d ∈ ds, ∃ i, d = .int i) : alikeB ds = true := by
  unfold alikeB
  rw [Bool.and_eq_true]
  refine ⟨?_, ?_⟩
  · rw [List.all_eq_true]
    intro x hx
    rw [List.all_eq_true]
    intro y hy
    obtain ⟨i, rfl⟩ := h x hx
    obtain ⟨j, rfl⟩ := h y hy
    rfl
  · rw [List.all_eq_true]
    intro x hx
    obtain ⟨i, rfl⟩ := h x hx
    rfl
theorem isint_map {α : Type} (l : List α) (f : α → Int) : ∀ d ∈ l.map (fun a => PyData.int (f a)), ∃ i, d = .int i := fun d hd => by
  obtain ⟨a, _, rfl⟩ := List.mem_map.mp hd
  exact ⟨_, rfl⟩
theorem small_int {ds : List D} (h : ∀ d ∈ ds, ∃ i, d = .int i) : smallAll ds = true := small_of fun d hd => by
  obtain ⟨i, rfl⟩ := h d hd
  exact Nat.zero_le _
def mnZ (l : List Int) : Int := l.min?.getD 0
def mxZ (l : List Int) : Int := l.max?.getD 0
theorem mnZ_mem {v : List Int} (h : v ≠ []) : mnZ v ∈ v := by
  unfold mnZ
  cases e : v.min? with
  | none => exact absurd (List.min?_eq_none_iff.mp e) h
  | some x => exact List.min?_mem e
theorem mnZ_le {v : List Int} {x : Int} (h : x ∈ v) : mnZ v ≤ x := by
  unfold mnZ
  cases e : v.min? with
  | none =>
    have := List.min?_eq_none_iff.mp e
    rw [this] at h
    cases h
  | some y => exact (List.min?_eq_some_iff.mp e).2 x h
theorem mxZ_mem {v : List Int} (h : v ≠ []) : mxZ v ∈ v := by
  unfold mxZ
  cases e : v.max? with
  | none => exact absurd (List.max?_eq_none_iff.mp e) h
  | some x => exact List.max?_mem e
theorem le_mxZ {v : List Int} {x : Int} (h : x ∈ v) : x ≤ mxZ v := by
  unfold mxZ
  cases e : v.max? with
  | none =>
    have := List.max?_eq_none_iff.mp e
    rw [this] at h
    cases h
  | some y => exact (List.max?_eq_some_iff.mp e).2 x h
theorem pmin_Z {l : List Int} (h : asLT r m = some (l.map PyData.int)) (ne : l ≠ []) : pMin [r] m = some (.val (.int (mnZ l)), m) := by
  cases l with
  | nil => exact absurd rfl ne
  | cons a l =>
    have hi := isint_map (a :: l) id
    rw [List.map_cons] at h
    rw [pmin_1 h (alikeB_int hi) (small_int hi)]
    rw [PySem.W.minD_ints, mnZ, List.min?_cons']
    rfl
theorem pmax_Z {l : List Int} (h : asLT r m = some (l.map PyData.int)) (ne : l ≠ []) : pMax [r] m = some (.val (.int (mxZ l)), m) := by
  cases l with
  | nil => exact absurd rfl ne
  | cons a l =>
    have hi := isint_map (a :: l) id
    rw [List.map_cons] at h
    rw [pmax_1 h (alikeB_int hi) (small_int hi)]
    rw [PySem.W.maxD_ints, mxZ, List.max?_cons']
    rfl
theorem mnZ_cast (l : List Nat) : mnZ (l.map fun a : Nat => (a : Int)) = ((l.min?.getD 0 : Nat) : Int) := by
  cases l with
  | nil => rfl
  | cons a l =>
    unfold mnZ
    rw [List.map_cons, List.min?_cons', List.min?_cons']
    show (l.map fun a : Nat => (a : Int)).foldl min (a : Int) = ((l.foldl min a : Nat) : Int)
    induction l generalizing a with
    | nil => rfl
    | cons b l ih =>
      rw [List.map_cons, List.foldl_cons, List.foldl_cons, ← ih]
      congr 1
      omega
theorem mxZ_cast (l : List Nat) : mxZ (l.map fun a : Nat => (a : Int)) = ((l.max?.getD 0 : Nat) : Int) := by
  cases l with
  | nil => rfl
  | cons a l =>
    unfold mxZ
    rw [List.map_cons, List.max?_cons', List.max?_cons']
    show (l.map fun a : Nat => (a : Int)).foldl max (a : Int) = ((l.foldl max a : Nat) : Int)
    induction l generalizing a with
    | nil => rfl
    | cons b l ih =>
      rw [List.map_cons, List.foldl_cons, List.foldl_cons, ← ih]
      congr 1
      omega
theorem encI_Z (l : List Nat) : encI l = (l.map fun a : Nat => (a : Int)).map PyData.int := by
  unfold encI
  rw [List.map_map]
  rfl
theorem pmin_N {l : List Nat} (h : asLT r m = some (encI l)) (ne : l ≠ []) : pMin [r] m = some (.val (.int ((l.min?.getD 0 : Nat) : Int)), m) := by
  rw [encI_Z] at h
  rw [pmin_Z h (by simpa using ne), mnZ_cast]
theorem pmax_N {l : List Nat} (h : asLT r m = some (encI l)) (ne : l ≠ []) : pMax [r] m = some (.val (.int ((l.max?.getD 0 : Nat) : Int)), m) := by
  rw [encI_Z] at h
  rw [pmax_Z h (by simpa using ne), mxZ_cast]
theorem asLT_r {k : Nat} {ds : List D} (h : m[k]? = some (.lst ds)) : asLT (.ref k) m = some ds := by
  simp [asLT, asL, h]
theorem firstEq_N {a : Nat} : ∀ {l : List Nat}, a ∈ l → firstEq (.int a) (encI l) = some (l.idxOf a)
  | [], h => by cases h
  | b :: l, h => by
    show (if PyData.eqv (.int (b : Int)) (.int (a : Int)) = true then some 0 else (firstEq (.int a) (encI l)).bind fun j => some (j + 1)) = _
    have e : PyData.eqv (.int (b : Int)) (.int (a : Int)) = decide (b = a) := by
      show ((b : Int) == (a : Int)) = _
      by_cases c : b = a
      · subst c; simp
      · rw [decide_eq_false c]; simp; omega
    rw [e]
    by_cases c : b = a
    · subst c
      simp
    · have h2 : a ∈ l := (List.mem_cons.mp h).resolve_left fun z => c z.symm
      simp only [c, decide_false, Bool.false_eq_true, if_false, firstEq_N h2, ob_some]
      rw [List.idxOf_cons, show (b == a) = false by simpa using c]
      rfl
theorem lay_ints : ∀ l : List Nat, SeqAt.shaped (.list (encI l)) = true := fun l => by
  have h1 : PyData.canLay0 (.list (encI l)) = true := by
    induction l with
    | nil => rfl
    | cons a l ih => exact ih
  have h2 : PyData.depth (.list (encI l)) ≤ 64 := by
    show PyData.depthAll (encI l) + 1 ≤ 64
    have : PyData.depthAll (encI l) ≤ 0 := depth_of fun d hd => by
      obtain ⟨a, _, rfl⟩ := List.mem_map.mp hd
      exact Nat.le_refl _
    omega
  unfold SeqAt.shaped
  rw [h1, decide_eq_true h2]
  rfl
theorem pidx_N {k a : Nat} {l : List Nat} (h : m[k]? = some (.lst (encI l))) (ha : a ∈ l) : pIndex (.ref k) [.val (.int (a : Int))] m = some (.val (.int ((l.idxOf a : Nat) : Int)), m) := by
  show ((asD (.val (.int (a : Int))) m).bind fun d => (asL (.ref k) m).bind fun ds => if (SeqAt.shaped (.list ds) && SeqAt.shaped d) = true then (firstEq d ds).bind fun j => some (R.val (.int j), m) else none) = _
  have e1 : asD (.val (.int (a : Int))) m = some (.int (a : Int)) := rfl
  have e2 : SeqAt.shaped (.int (a : Int)) = true := rfl
  rw [e1, ob_some, asL_r h, ob_some, lay_ints, e2]
  simp only [Bool.and_self, if_true, firstEq_N ha, ob_some]
end
end Ev

set_option Elab.async false
set_option linter.all false
set_option maxRecDepth 100000
/-! comprehensions over a list of the store. -/
namespace Ev
open PySem PySem.Spec PyProof.Rows L2
theorem clpR_go {α : Type} {p : Pat} {tt : TF} {te : EF} {env : Sl} {m : M} {k : Nat} (enc : α → D) (t : α → Bool) (F : α → D) (l0 : List α) (hm : m[k]? = some (.lst (l0.map enc))) : ∀ (l : List α) (i : Nat), l0.drop i = l →
    (∀ a ∈ l, ∃ e, bindP p (enc a) env = some e ∧ tt e m = some (t a, m) ∧ (t a = true → te e m = some (.val (F a), m))) → clp (srcR k) p tt te env l.length i m = some ((l.filter t).map F, m)
  | [], i, hd, _ => by
    have e : srcR k i m = some none := by
      unfold srcR
      rw [hm]
      have : (l0.map enc)[i]? = none := by rw [List.getElem?_eq_none_iff, List.length_map]; simpa using hd
      simp only [this]
    simp [clp, e]
  | a :: l, i, hd, h => by
    have ea : l0[i]? = some a := by
      have := congrArg (·[0]?) hd
      simpa using this
    have e : srcR k i m = some (some (enc a)) := by
      unfold srcR
      rw [hm]
      simp only [List.getElem?_map, ea, Option.map_some]
    have h' : l0.drop (i + 1) = l := by
      have := congrArg (List.drop 1) hd
      simpa [List.drop_drop, Nat.add_comm] using this
    obtain ⟨e1, h1, h2, h3⟩ := h a (by simp)
    have ih := clpR_go (p := p) (tt := tt) (te := te) (env := env) (m := m) (k := k) enc t F l0 hm l (i + 1) h' fun b hb => h b (List.mem_cons_of_mem _ hb)
    rw [List.length_cons]
    unfold clp
    rw [e]
    simp only [ob_some, h1, h2]
    cases ht : t a with
    | false =>
      rw [if_neg Bool.false_ne_true, ih, List.filter_cons_of_neg (by rw [ht]; exact Bool.false_ne_true)]
    | true =>
      rw [if_pos rfl, h3 ht]
      simp only [ob_some, asD0_val]
      rw [ih, List.filter_cons_of_pos ht]
      rfl
theorem runC_ref {α : Type} {p : Pat} {tt : TF} {te : EF} {env : Sl} {vs : List Nat} {m : M} {k : Nat} (enc : α → D) (t : α → Bool) (F : α → D) (l : List α) (hm : m[k]? = some (.lst (l.map enc))) (hl : l.length ≤ 16777216)
    (h : ∀ a ∈ l, ∃ e, bindP p (enc a) (wipeE env vs) = some e ∧ tt e m = some (t a, m) ∧ (t a = true → te e m = some (.val (F a), m))) : runC (an1 (.ref k) m) p vs tt te env = some ((l.filter t).map F, m) := by
  have e : an1 (.ref k) m = some ((srcR k, (l.map enc).length), m) := by
    unfold an1
    simp only [hm]
  unfold runC
  rw [e, ob_some]
  simp only [List.length_map, sz, hl, if_true]
  exact clpR_go enc t F l hm l 0 rfl h
theorem runC_refA {α : Type} {p : Pat} {te : EF} {env : Sl} {vs : List Nat} {m : M} {k : Nat} (enc : α → D) (F : α → D) (l : List α) (hm : m[k]? = some (.lst (l.map enc))) (hl : l.length ≤ 16777216)
    (h : ∀ a ∈ l, ∃ e, bindP p (enc a) (wipeE env vs) = some e ∧ te e m = some (.val (F a), m)) : runC (an1 (.ref k) m) p vs tTrue te env = some (l.map F, m) := by
  have := runC_ref (p := p) (tt := tTrue) (te := te) (env := env) (vs := vs) (m := m) (k := k) enc (fun _ => true) F l hm hl fun a ha => by
    obtain ⟨e, h1, h2⟩ := h a ha
    exact ⟨e, h1, rfl, fun _ => h2⟩
  rw [this, List.filter_eq_self.mpr fun _ _ => rfl]
end Ev

set_option Elab.async false
set_option linter.all false
set_option maxRecDepth 100000
/-! the least of tuples of natural numbers. -/
namespace Ev
open PySem PySem.Spec PyProof.Rows L2
theorem lt_cast : ∀ a b : List Nat, (a.map fun x : Nat => (x : Int)) < (b.map fun x : Nat => (x : Int)) ↔ a < b
  | [], [] => by simp
  | [], y :: b => by simp
  | x :: a, [] => by simp
  | x :: a, y :: b => by
    rw [List.map_cons, List.map_cons, List.cons_lt_cons_iff, List.cons_lt_cons_iff, lt_cast a b]
    constructor
    · rintro (h | ⟨h1, h2⟩)
      · exact .inl (by omega)
      · exact .inr ⟨by omega, h2⟩
    · rintro (h | ⟨h1, h2⟩)
      · exact .inl (by omega)
      · exact .inr ⟨by omega, h2⟩
theorem dataLt_T (a b : List Nat) : PySem.W.dataLt (encT a) (encT b) = decide (a < b) := by
  show PySem.W.dataLt (.tuple (encI a)) (.tuple (encI b)) = _
  rw [PySem.W.dataLt_tuple, encI_Z, encI_Z]
  refine (PySem.W.dataLt_ints (a.map fun x : Nat => (x : Int)) (b.map fun x : Nat => (x : Int))).trans ?_
  simp only [lt_cast]
theorem minD_T : ∀ (l : List (List Nat)) (x : List Nat), ∃ r, PySem.W.minD (encT x) (l.map encT) = encT r ∧ r ∈ x :: l ∧ ∀ y ∈ x :: l, ¬ y < r
  | [], x => ⟨x, rfl, by simp, fun y hy => by rw [List.mem_singleton.mp hy]; exact List.lt_irrefl x⟩
  | z :: l, x => by
    have e : PySem.W.minD (encT x) ((z :: l).map encT) = PySem.W.minD (if z < x then encT z else encT x) (l.map encT) := by
      show PySem.W.minD (if PySem.W.dataLt (encT z) (encT x) = true then encT z else encT x) (l.map encT) = _
      rw [dataLt_T]
      simp
    by_cases c : z < x
    · obtain ⟨r, h1, h2, h3⟩ := minD_T l z
      refine ⟨r, by rw [e, if_pos c]; exact h1, List.mem_cons_of_mem _ h2, fun y hy => ?_⟩
      rcases List.mem_cons.mp hy with q | q
      · rw [q]
        exact fun h => h3 z (by simp) (List.lt_trans c h)
      · exact h3 y q
    · obtain ⟨r, h1, h2, h3⟩ := minD_T l x
      refine ⟨r, by rw [e, if_neg c]; exact h1, ?_, fun y hy => ?_⟩
      · rcases List.mem_cons.mp h2 with q | q
        · rw [q]; simp
        · exact List.mem_cons_of_mem _ (List.mem_cons_of_mem _ q)
      · rcases List.mem_cons.mp hy with q | q
        · rw [q]; exact h3 x (by simp)
        · rcases List.mem_cons.mp q with q | q
          · rw [q]
            exact fun h => h3 x (by simp) (List.lt_of_le_of_lt (List.not_lt.mp c) h)
          · exact h3 y (List.mem_cons_of_mem _ q)
theorem pmin_T {l : List (List Nat)} {m : M} (ne : l ≠ []) : ∃ r, pMin [.val (.list (l.map encT))] m = some (.val (encT r), m) ∧ r ∈ l ∧ ∀ y ∈ l, ¬ y < r := by
  cases l with
  | nil => exact absurd rfl ne
  | cons x l =>
    obtain ⟨r, h1, h2, h3⟩ := minD_T l x
    refine ⟨r, ?_, h2, h3⟩
    have al : alikeB (encT x :: l.map encT) = true := by
      have : ∀ d ∈ (encT x :: l.map encT), ∃ a, d = encT a := fun d hd => by
        rw [← List.map_cons] at hd
        obtain ⟨a, _, rfl⟩ := List.mem_map.mp hd
        exact ⟨a, rfl⟩
      unfold alikeB
      rw [Bool.and_eq_true]
      refine ⟨?_, ?_⟩
      · rw [List.all_eq_true]
        intro d hd
        rw [List.all_eq_true]
        intro e he
        obtain ⟨a, rfl⟩ := this d hd
        obtain ⟨b, rfl⟩ := this e he
        exact alike_T
      · rw [List.all_eq_true]
        intro d hd
        obtain ⟨a, rfl⟩ := this d hd
        rfl
    have sm : smallAll (encT x :: l.map encT) = true := small_of fun d hd => by
      rw [← List.map_cons] at hd
      obtain ⟨a, _, rfl⟩ := List.mem_map.mp hd
      exact Nat.le_trans (depth_T a) (by decide)
    rw [List.map_cons, pmin_1 (d := encT x) (ds := l.map encT) rfl al sm, h1]
end Ev

set_option Elab.async false
set_option linter.all false
/-! Plain laws about loads: lists scheduling, its bounds. -/
namespace Ld
/-- the machines' jobs -/
def Sched (m : Nat) (js : List Nat) (T : Nat) : Prop := ∃ os : List (List Nat), os.length = m ∧ os.flatten.Perm js ∧ ∀ x ∈ os, x.sum ≤ T
theorem psum {a b : List Nat} (h : a.Perm b) : a.sum = b.sum := by
  induction h with
  | nil => rfl
  | cons x _ ih => simp [ih]
  | swap x y l => simp; omega
  | trans _ _ i j => exact i.trans j
theorem sum_flatten (os : List (List Nat)) : os.flatten.sum = (os.map List.sum).sum := by
  induction os with
  | nil => rfl
  | cons a l ih => simp [ih]
theorem sum_le_mul {l : List Nat} {T : Nat} (h : ∀ x ∈ l, x ≤ T) : l.sum ≤ l.length * T := by
  induction l with
  | nil => simp
  | cons a l ih =>
    have h1 := h a (by simp)
    have h2 := ih fun x hx => h x (List.mem_cons_of_mem _ hx)
    rw [List.sum_cons, List.length_cons, Nat.succ_mul]
    omega
theorem mul_le_sum {l : List Nat} {b : Nat} (h : ∀ x ∈ l, b ≤ x) : l.length * b ≤ l.sum := by
  induction l with
  | nil => simp
  | cons a l ih =>
    have h1 := h a (by simp)
    have h2 := ih fun x hx => h x (List.mem_cons_of_mem _ hx)
    rw [List.sum_cons, List.length_cons, Nat.succ_mul]
    omega
theorem mem_le_sum {l : List Nat} {x : Nat} (h : x ∈ l) : x ≤ l.sum := by
  induction l with
  | nil => cases h
  | cons a l ih =>
    rw [List.sum_cons]
    rcases List.mem_cons.mp h with e | e
    · omega
    · have := ih e
      omega
theorem Sched.sum {m T : Nat} {js : List Nat} (h : Sched m js T) : js.sum ≤ m * T := by
  obtain ⟨os, h1, h2, h3⟩ := h
  rw [← psum h2, sum_flatten, ← h1, show os.length = (os.map List.sum).length by simp]
  exact sum_le_mul fun x hx => by
    obtain ⟨o, ho, rfl⟩ := List.mem_map.mp hx
    exact h3 o ho
theorem Sched.each {m T : Nat} {js : List Nat} (h : Sched m js T) {l : Nat} (hl : l ∈ js) : l ≤ T := by
  obtain ⟨os, h1, h2, h3⟩ := h
  have : l ∈ os.flatten := h2.mem_iff.mpr hl
  obtain ⟨o, ho, hlo⟩ := List.mem_flatten.mp this
  exact Nat.le_trans (mem_le_sum hlo) (h3 o ho)
theorem erase_sum {l : List Nat} {a : Nat} (h : a ∈ l) : (l.erase a).sum ≤ l.sum := by
  have := psum (List.perm_cons_erase h)
  rw [List.sum_cons] at this
  omega
/-- one job less -/
theorem drop_job {os : List (List Nat)} {a T : Nat} (h3 : ∀ x ∈ os, x.sum ≤ T) (ha : a ∈ os.flatten) : ∃ os' : List (List Nat), os'.length = os.length ∧ os.flatten.Perm (a :: os'.flatten) ∧ ∀ x ∈ os', x.sum ≤ T := by
  induction os with
  | nil => cases ha
  | cons o os ih =>
    by_cases h : a ∈ o
    · refine ⟨o.erase a :: os, rfl, ?_, fun x hx => ?_⟩
      · rw [List.flatten_cons, List.flatten_cons]
        exact ((List.perm_cons_erase h).append_right _)
      · rcases List.mem_cons.mp hx with e | e
        · rw [e]
          exact Nat.le_trans (erase_sum h) (h3 o (by simp))
        · exact h3 x (List.mem_cons_of_mem _ e)
    · have ha' : a ∈ os.flatten := by
        rw [List.flatten_cons] at ha
        exact (List.mem_append.mp ha).resolve_left h
      obtain ⟨os', h1, h2, h4⟩ := ih (fun x hx => h3 x (List.mem_cons_of_mem _ hx)) ha'
      refine ⟨o :: os', by simp [h1], ?_, fun x hx => ?_⟩
      · rw [List.flatten_cons, List.flatten_cons]
        exact (h2.append_left o).trans List.perm_middle
      · rcases List.mem_cons.mp hx with e | e
        · rw [e]; exact h3 o (by simp)
        · exact h4 x e
theorem Sched.less {m T a : Nat} {js : List Nat} (h : Sched m (a :: js) T) : Sched m js T := by
  obtain ⟨os, h1, h2, h3⟩ := h
  obtain ⟨os', e1, e2, e3⟩ := drop_job h3 (h2.mem_iff.mpr (List.mem_cons_self))
  exact ⟨os', e1.trans h1, (List.perm_cons a).mp (e2.symm.trans h2), e3⟩
theorem Sched.perm {m T : Nat} {js ks : List Nat} (h : Sched m js T) (p : js.Perm ks) : Sched m ks T := by
  obtain ⟨os, h1, h2, h3⟩ := h
  exact ⟨os, h1, h2.trans p, h3⟩
theorem Sched.app {m T : Nat} {ks : List Nat} : ∀ {js : List Nat}, Sched m (js ++ ks) T → Sched m ks T
  | [], h => h
  | a :: js, h => Sched.app (js := js) (Sched.less (a := a) h)

/-! the rule: the next job to the first that has least -/
def mn (v : List Nat) : Nat := v.min?.getD 0
def stp (v : List Nat) (l : Nat) : List Nat := v.set (v.idxOf (mn v)) (mn v + l)
def runT (v ls : List Nat) : List Nat := ls.foldl stp v
theorem mn_mem {v : List Nat} (h : v ≠ []) : mn v ∈ v := by
  unfold mn
  cases e : v.min? with
  | none => exact absurd (List.min?_eq_none_iff.mp e) h
  | some x => exact List.min?_mem e
theorem mn_le {v : List Nat} {x : Nat} (h : x ∈ v) : mn v ≤ x := by
  unfold mn
  cases e : v.min? with
  | none =>
    have := List.min?_eq_none_iff.mp e
    rw [this] at h
    cases h
  | some y => exact (List.min?_eq_some_iff.mp e).2 x h
theorem split_at {v : List Nat} (h : v ≠ []) : ∃ a b, v = a ++ mn v :: b ∧ v.idxOf (mn v) = a.length ∧ ∀ l, stp v l = a ++ (mn v + l) :: b := by
  have hi := List.idxOf_lt_length_of_mem (mn_mem h)
  refine ⟨v.take (v.idxOf (mn v)), v.drop (v.idxOf (mn v) + 1), ?_, by rw [List.length_take]; omega, fun l => ?_⟩
  · have e : v[v.idxOf (mn v)] = mn v := List.getElem_idxOf hi
    conv => lhs; rw [← List.take_append_drop (v.idxOf (mn v)) v]
    rw [List.drop_eq_getElem_cons hi, e]
  · unfold stp
    rw [List.set_eq_take_append_cons_drop, if_pos hi]
theorem stp_len (v : List Nat) (l : Nat) : (stp v l).length = v.length := by unfold stp; rw [List.length_set]
theorem stp_sum {v : List Nat} (h : v ≠ []) (l : Nat) : (stp v l).sum = v.sum + l := by
  obtain ⟨a, b, e1, _, e2⟩ := split_at h
  rw [e2]
  conv => rhs; rw [e1]
  simp
  omega
theorem stp_mem {v : List Nat} (h : v ≠ []) {l x : Nat} (hx : x ∈ stp v l) : x ∈ v ∨ x = mn v + l := by
  obtain ⟨a, b, e1, _, e2⟩ := split_at h
  rw [e2] at hx
  rcases List.mem_append.mp hx with q | q
  · exact .inl (by rw [e1]; exact List.mem_append_left _ q)
  · rcases List.mem_cons.mp q with q | q
    · exact .inr q
    · exact .inl (by rw [e1]; exact List.mem_append_right _ (List.mem_cons_of_mem _ q))
theorem mn_mul {v : List Nat} : v.length * mn v ≤ v.sum := mul_le_sum fun x hx => mn_le hx
theorem stp_ne {v : List Nat} (h : v ≠ []) (l : Nat) : stp v l ≠ [] := fun z => by
  have := stp_len v l
  rw [z] at this
  exact h (List.length_eq_zero_iff.mp this.symm)
/-- the list rule: at most (2 m - 1) / m of the least -/
theorem graham {M : Nat} : ∀ (ls v : List Nat), v ≠ [] → (∀ l ∈ ls, l ≤ M) → (∀ x ∈ v, v.length * x ≤ v.sum + (v.length - 1) * M) → ∀ x ∈ runT v ls, v.length * x ≤ v.sum + ls.sum + (v.length - 1) * M
  | [], v, _, _, h => fun x hx => by simpa using h x hx
  | l :: ls, v, hv, hM, h => fun x hx => by
    have h1 := hM l (by simp)
    have g := graham (M := M) ls (stp v l) (stp_ne hv l) (fun y hy => hM y (List.mem_cons_of_mem _ hy)) (fun y hy => by
      rw [stp_len, stp_sum hv]
      rcases stp_mem hv hy with q | q
      · have := h y q
        omega
      · rw [q]
        have h2 := mn_mul (v := v)
        have h3 : v.length * (mn v + l) = v.length * mn v + v.length * l := Nat.mul_add _ _ _
        have hl : 0 < v.length := List.length_pos_iff.mpr hv
        have h4 : v.length * l = (v.length - 1) * l + l := by
          obtain ⟨k, hk⟩ : ∃ k, v.length = k + 1 := ⟨v.length - 1, by omega⟩
          rw [hk, Nat.add_sub_cancel, Nat.succ_mul]
        have h5 : (v.length - 1) * l ≤ (v.length - 1) * M := Nat.mul_le_mul_left _ h1
        omega) x hx
    rw [stp_len, stp_sum hv] at g
    rw [List.sum_cons]
    omega
theorem graham_of {m T : Nat} {ls : List Nat} (hm : 0 < m) (h : Sched m ls T) : ∀ x ∈ runT (List.replicate m 0) ls, m * x ≤ (2 * m - 1) * T := fun x hx => by
  have g := graham (M := T) ls (List.replicate m 0) (by simp; omega) (fun l hl => h.each hl) (fun y hy => by
    rw [List.eq_of_mem_replicate hy]
    simp) x hx
  rw [List.length_replicate] at g
  have h1 := h.sum
  have h2 : (List.replicate m 0).sum = 0 := by simp
  rw [h2] at g
  have h3 : (2 * m - 1) * T = m * T + (m - 1) * T := by
    obtain ⟨k, rfl⟩ : ∃ k, m = k + 1 := ⟨m - 1, by omega⟩
    rw [show 2 * (k + 1) - 1 = (k + 1) + (k + 1 - 1) by omega, Nat.add_mul]
  omega

/-! the longest first -/
def big (T l b : Nat) : Bool := decide (T < b + l)
/-- jobs on a machine, those that are big twice -/
def wt (T l : Nat) (o : List Nat) : Nat := o.length + (o.filter (big T l)).length
theorem wt_flatten (T l : Nat) (os : List (List Nat)) : wt T l os.flatten = (os.map (wt T l)).sum := by
  induction os with
  | nil => rfl
  | cons o os ih =>
    rw [List.flatten_cons, List.map_cons, List.sum_cons, ← ih]
    unfold wt
    rw [List.length_append, List.filter_append, List.length_append]
    omega
theorem wt_perm {T l : Nat} {a b : List Nat} (h : a.Perm b) : wt T l a = wt T l b := by
  unfold wt
  rw [h.length_eq, (h.filter _).length_eq]
theorem wt_opt {T l : Nat} {o : List Nat} (h3 : T < 3 * l) (hl : ∀ x ∈ o, l ≤ x) (hs : o.sum ≤ T) : wt T l o ≤ 2 := by
  unfold wt
  match o, hl, hs with
  | [], _, _ => simp
  | [a], _, _ => simp [List.filter_cons]; split <;> simp
  | [a, b], hl, hs =>
    have h1 := hl a (by simp)
    have h2 := hl b (by simp)
    simp at hs
    have n1 : big T l a = false := decide_eq_false (by omega)
    have n2 : big T l b = false := decide_eq_false (by omega)
    simp [List.filter_cons, n1, n2]
  | a :: b :: c :: r, hl, hs =>
    have h1 := hl a (by simp)
    have h2 := hl b (by simp)
    have h4 := hl c (by simp)
    simp at hs
    omega
theorem wt_full {T l s : Nat} {o : List Nat} (hs : T < s + l) (ho : s ≤ o.sum) (h0 : 0 < s) : 2 ≤ wt T l o := by
  unfold wt
  match o, ho with
  | [], ho => simp at ho; omega
  | [a], ho =>
    simp at ho
    have n1 : big T l a = true := decide_eq_true (by omega)
    simp [List.filter_cons, n1]
  | a :: b :: r, _ => simp; omega
/-- with jobs no shorter than l, and longer than a third: the new one fits -/
theorem lpt_fit {m T l : Nat} {ms : List (List Nat)} {js : List Nat} (hm : 0 < m) (hl : ms.length = m) (hj : ms.flatten.Perm js) (h : Sched m (l :: js) T) (hle : ∀ x ∈ js, l ≤ x) (h3 : T < 3 * l) : mn (ms.map List.sum) + l ≤ T := by
  by_cases hc : mn (ms.map List.sum) + l ≤ T
  · exact hc
  · exfalso
    have hlT := h.each (List.mem_cons_self)
    have hs0 : 0 < mn (ms.map List.sum) := by omega
    obtain ⟨os, e1, e2, e3⟩ := h
    have up : wt T l (l :: js) ≤ m * 2 := by
      rw [← wt_perm e2, wt_flatten, ← e1, show os.length = (os.map (wt T l)).length by simp]
      refine sum_le_mul fun x hx => ?_
      obtain ⟨o, ho, rfl⟩ := List.mem_map.mp hx
      refine wt_opt h3 (fun y hy => ?_) (e3 o ho)
      have : y ∈ l :: js := e2.mem_iff.mp (List.mem_flatten.mpr ⟨o, ho, hy⟩)
      rcases List.mem_cons.mp this with q | q
      · omega
      · exact hle y q
    have lo : m * 2 ≤ wt T l js := by
      rw [← wt_perm hj, wt_flatten, ← hl, show ms.length = (ms.map (wt T l)).length by simp]
      refine mul_le_sum fun x hx => ?_
      obtain ⟨o, ho, rfl⟩ := List.mem_map.mp hx
      exact wt_full (s := mn (ms.map List.sum)) (by omega) (mn_le (List.mem_map.mpr ⟨o, ho, rfl⟩)) hs0
    have : wt T l js < wt T l (l :: js) := by
      unfold wt
      rw [List.length_cons, List.filter_cons]
      split
      · rw [List.length_cons]; omega
      · omega
    omega
/-- a step of the rule, with the machines' jobs -/
theorem stp_jobs {ms : List (List Nat)} {v : List Nat} (hv : v ≠ []) (h : ms.map List.sum = v) (l : Nat) : ∃ ms' : List (List Nat), ms'.map List.sum = stp v l ∧ ms'.flatten.Perm (l :: ms.flatten) := by
  obtain ⟨a, b, e1, _, e2⟩ := split_at hv
  rw [e1] at h
  obtain ⟨x, y, rfl, hx, hy⟩ := List.map_eq_append_iff.mp h
  obtain ⟨o, r, rfl, ho, hr⟩ := List.map_eq_cons_iff.mp hy
  refine ⟨x ++ (l :: o) :: r, ?_, ?_⟩
  · rw [e2, List.map_append, List.map_cons, List.sum_cons, hx, hr, ho, Nat.add_comm]
  · simp
theorem lpt {m T : Nat} (hm : 0 < m) : ∀ (ls : List Nat) (ms : List (List Nat)) (v js : List Nat), v ≠ [] → v.length = m → ms.map List.sum = v → ms.flatten.Perm js → Sched m (ls.reverse ++ js) T → (∀ x ∈ js, ∀ l ∈ ls, l ≤ x) → ls.Pairwise (fun a b => b ≤ a) →
    (∀ x ∈ v, 3 * m * x ≤ (4 * m - 1) * T) → ∀ x ∈ runT v ls, 3 * m * x ≤ (4 * m - 1) * T
  | [], ms, v, js, _, _, _, _, _, _, _, h => h
  | l :: ls, ms, v, js, hv, hm2, hms, hj, hS, hle, hp, h => by
    obtain ⟨ms', f1, f2⟩ := stp_jobs hv hms l
    have hS1 : Sched m (l :: js) T := by
      have e : (l :: ls).reverse ++ js = ls.reverse ++ (l :: js) := by simp
      rw [e] at hS
      exact hS.app
    have hS2 : Sched m (ls.reverse ++ (l :: js)) T := by
      have e : (l :: ls).reverse ++ js = ls.reverse ++ (l :: js) := by simp
      rw [e] at hS
      exact hS
    rw [List.pairwise_cons] at hp
    refine lpt hm ls ms' (stp v l) (l :: js) (stp_ne hv l) (by rw [stp_len]; exact hm2) f1 (f2.trans (hj.cons l)) hS2 (fun x hx y hy => ?_) hp.2 fun x hx => ?_
    · rcases List.mem_cons.mp hx with q | q
      · rw [q]; exact hp.1 y hy
      · exact hle x q y (List.mem_cons_of_mem _ hy)
    · rcases stp_mem hv hx with q | q
      · exact h x q
      · rw [q]
        have hsum := hS1.sum
        rw [List.sum_cons] at hsum
        have e1 : v.sum = js.sum := by rw [← hms, ← sum_flatten, psum hj]
        have e2 := mn_mul (v := v)
        rw [hm2] at e2
        obtain ⟨k, rfl⟩ : ∃ k, m = k + 1 := ⟨m - 1, by omega⟩
        by_cases c : T < 3 * l
        · have f := lpt_fit hm (by rw [← hm2, ← hms, List.length_map]) hj hS1 (fun x hx => hle x hx l (by simp)) c
          rw [hms] at f
          have g1 : 3 * (k + 1) * (mn v + l) ≤ 3 * (k + 1) * T := Nat.mul_le_mul_left _ f
          have g2 : 3 * (k + 1) * T ≤ (4 * (k + 1) - 1) * T := Nat.mul_le_mul_right _ (by omega)
          omega
        · have g1 : 3 * (k + 1) * (mn v + l) = 3 * ((k + 1) * mn v) + 3 * ((k + 1) * l) := by
            rw [Nat.mul_add, Nat.mul_assoc, Nat.mul_assoc]
          have g2 : (k + 1) * l = k * l + l := Nat.succ_mul k l
          have g3 : k * (3 * l) ≤ k * T := Nat.mul_le_mul_left _ (by omega)
          have g4 : k * (3 * l) = 3 * (k * l) := by rw [Nat.mul_left_comm]
          have g5 : (4 * (k + 1) - 1) * T = 3 * ((k + 1) * T) + k * T := by
            rw [show 4 * (k + 1) - 1 = 3 * (k + 1) + k by omega, Nat.add_mul, Nat.mul_assoc]
          omega
theorem lpt_of {m T : Nat} {ls : List Nat} (hm : 0 < m) (h : Sched m ls T) (hp : ls.Pairwise (fun a b => b ≤ a)) : ∀ x ∈ runT (List.replicate m 0) ls, 3 * m * x ≤ (4 * m - 1) * T :=
  lpt hm ls (List.replicate m []) (List.replicate m 0) [] (by simp; omega) (by simp) (by simp) (by simp) (by simpa using h.perm (List.reverse_perm ls).symm) (fun x hx => by cases hx) hp fun x hx => by
    rw [List.eq_of_mem_replicate hx]
    simp
end Ld

set_option Elab.async false
set_option linter.all false
/-! What can be reached. -/
namespace Ld
open Ev (srt srt_perm srt_sorted srt_len)
def addAt (v : List Nat) (k l : Nat) : List Nat := v.set k (v.getD k 0 + l)
inductive Rch (m : Nat) : List Nat → List Nat → Prop
  | nil : Rch m [] (List.replicate m 0)
  | snoc {js v : List Nat} {l k : Nat} : Rch m js v → k < m → Rch m (l :: js) (srt (addAt v k l))
theorem Rch.len {m : Nat} {js v : List Nat} (h : Rch m js v) : v.length = m := by
  induction h with
  | nil => simp
  | snoc h hk ih => rw [srt_len]; unfold addAt; rw [List.length_set]; exact ih
theorem Rch.sorted {m : Nat} {js v : List Nat} (h : Rch m js v) : v.Pairwise (· ≤ ·) := by
  cases h with
  | nil =>
    refine List.pairwise_of_forall_mem_list fun a ha b hb => ?_
    rw [List.eq_of_mem_replicate ha]
    exact Nat.zero_le _
  | snoc h hk => exact srt_sorted _
theorem add_split {v : List Nat} {k : Nat} (h : k < v.length) (l : Nat) : ∃ a b, v = a ++ v.getD k 0 :: b ∧ addAt v k l = a ++ (v.getD k 0 + l) :: b := by
  refine ⟨v.take k, v.drop (k + 1), ?_, ?_⟩
  · conv => lhs; rw [← List.take_append_drop k v]
    rw [List.drop_eq_getElem_cons h]
    simp [List.getD, h]
  · unfold addAt
    rw [List.set_eq_take_append_cons_drop, if_pos h]
theorem Rch.jobs {m : Nat} {js v : List Nat} (h : Rch m js v) : ∃ os : List (List Nat), os.length = m ∧ os.flatten.Perm js ∧ (os.map List.sum).Perm v := by
  induction h with
  | nil => exact ⟨List.replicate m [], by simp, by simp, by simp⟩
  | @snoc js v l k h hk ih =>
    obtain ⟨os, h1, h2, h3⟩ := ih
    obtain ⟨a, b, e1, e2⟩ := add_split (v := v) (k := k) (by rw [h.len]; exact hk) l
    have p : (os.map List.sum).Perm (v.getD k 0 :: (a ++ b)) := h3.trans ((List.Perm.of_eq e1).trans List.perm_middle)
    have hx : v.getD k 0 ∈ os.map List.sum := p.mem_iff.mpr (by simp)
    obtain ⟨o, ho, eo⟩ := List.mem_map.mp hx
    have q := List.perm_cons_erase ho
    refine ⟨(l :: o) :: os.erase o, ?_, ?_, ?_⟩
    · rw [← h1, q.length_eq]
      simp
    · rw [List.flatten_cons, List.cons_append]
      refine List.Perm.cons l ?_
      have := q.flatten
      rw [List.flatten_cons] at this
      exact this.symm.trans h2
    · refine List.Perm.trans ?_ (srt_perm _).symm
      rw [e2, List.map_cons, List.sum_cons, eo, Nat.add_comm]
      refine List.Perm.trans ?_ List.perm_middle.symm
      refine List.Perm.cons _ ?_
      have r := q.map List.sum
      rw [List.map_cons, eo] at r
      exact (List.perm_cons _).mp (r.symm.trans p)
theorem Rch.some {m : Nat} (hm : 0 < m) : ∀ js : List Nat, ∃ v, Rch m js v
  | [] => ⟨_, .nil⟩
  | l :: js => by
    obtain ⟨v, h⟩ := Rch.some hm js
    exact ⟨_, .snoc (l := l) h hm⟩
/-- the keys stand for what can be reached -/
def Keys (m : Nat) (js : List Nat) (ks : List (List Nat)) : Prop := ∀ u, u ∈ ks ↔ Rch m js u
theorem Keys.perm {m : Nat} {js : List Nat} {ks ks' : List (List Nat)} (h : Keys m js ks) (p : ks'.Perm ks) : Keys m js ks' := fun u => p.mem_iff.trans (h u)
theorem keys_nil (m : Nat) : Keys m [] [List.replicate m 0] := fun u => by
  constructor
  · intro h
    rw [List.mem_singleton.mp h]
    exact .nil
  · intro h
    cases h
    simp
/-- all that one step makes -/
theorem keys_step {m l : Nat} {js : List Nat} {ks ks' : List (List Nat)} (h : Keys m js ks) (hs : ∀ u, u ∈ ks' ↔ ∃ v ∈ ks, ∃ k, k < m ∧ u = srt (addAt v k l)) : Keys m (l :: js) ks' := fun u => by
  rw [hs]
  constructor
  · rintro ⟨v, hv, k, hk, rfl⟩
    exact .snoc ((h v).mp hv) hk
  · intro r
    cases r with
    | snoc r hk => exact ⟨_, (h _).mpr r, _, hk, rfl⟩
def lst (v : List Nat) : Nat := v.getLast?.getD 0
theorem lst_cons {a b : Nat} {v : List Nat} : lst (a :: b :: v) = lst (b :: v) := by
  unfold lst
  rw [List.getLast?_cons_cons]
theorem lst_max {v : List Nat} (h : v.Pairwise (· ≤ ·)) {x : Nat} (hx : x ∈ v) : x ≤ lst v := by
  induction v generalizing x with
  | nil => cases hx
  | cons a v ih =>
    rw [List.pairwise_cons] at h
    cases v with
    | nil =>
      rw [List.mem_singleton.mp hx]
      exact Nat.le_refl _
    | cons b v =>
      rw [lst_cons]
      rcases List.mem_cons.mp hx with q | q
      · rw [q]
        have h1 := h.1 b (by simp)
        have h2 := ih h.2 (x := b) (by simp)
        omega
      · exact ih h.2 q
theorem lst_mem {v : List Nat} (h : v ≠ []) : lst v ∈ v := by
  unfold lst
  cases e : v.getLast? with
  | none => exact absurd (List.getLast?_eq_none_iff.mp e) h
  | some x => exact List.mem_of_getLast? e
/-- the least load -/
structure Lst (m : Nat) (js : List Nat) (T : Nat) : Prop where
  at_ : ∃ u, Rch m js u ∧ lst u = T
  le : ∀ u, Rch m js u → T ≤ lst u
theorem Lst.uniq {m : Nat} {js : List Nat} {T S : Nat} (a : Lst m js T) (b : Lst m js S) : T = S := by
  obtain ⟨u, h1, h2⟩ := a.at_
  obtain ⟨v, h3, h4⟩ := b.at_
  have := a.le v h3
  have := b.le u h1
  omega
theorem Lst.sched {m : Nat} {js : List Nat} {T : Nat} (h : Lst m js T) : Sched m js T := by
  obtain ⟨u, h1, h2⟩ := h.at_
  obtain ⟨os, e1, e2, e3⟩ := h1.jobs
  refine ⟨os, e1, e2, fun x hx => ?_⟩
  have : x.sum ∈ u := e3.mem_iff.mp (List.mem_map.mpr ⟨x, hx, rfl⟩)
  rw [← h2]
  exact lst_max h1.sorted this
theorem Lst.of_min {m : Nat} {js : List Nat} {ks : List (List Nat)} {T : Nat} (h : Keys m js ks) (h1 : T ∈ ks.map lst) (h2 : ∀ x ∈ ks.map lst, T ≤ x) : Lst m js T := by
  obtain ⟨u, hu, e⟩ := List.mem_map.mp h1
  exact ⟨⟨u, (h u).mp hu, e⟩, fun v hv => h2 _ (List.mem_map.mpr ⟨v, (h v).mpr hv, rfl⟩)⟩
theorem mn_ge {l : List Nat} {x : Nat} (h : x ∈ l) : mn l ∈ l ∧ ∀ y ∈ l, mn l ≤ y := ⟨mn_mem fun e => (by rw [e] at h; cases h), fun y hy => mn_le hy⟩
theorem Keys.ne {m : Nat} {js : List Nat} {ks : List (List Nat)} (hm : 0 < m) (h : Keys m js ks) : ks ≠ [] := fun e => by
  obtain ⟨v, hv⟩ := Rch.some hm js
  have := (h v).mpr hv
  rw [e] at this
  cases this
theorem keys_least {m : Nat} {js : List Nat} {ks : List (List Nat)} (hm : 0 < m) (h : Keys m js ks) : Lst m js (mn (ks.map lst)) := by
  have ne : ks.map lst ≠ [] := by
    have := h.ne hm
    simpa using this
  exact .of_min h (mn_mem ne) fun x hx => mn_le hx
/-- the greatest of a list -/
def mx (v : List Nat) : Nat := v.max?.getD 0
theorem mx_mem {v : List Nat} (h : v ≠ []) : mx v ∈ v := by
  unfold mx
  cases e : v.max? with
  | none => exact absurd (List.max?_eq_none_iff.mp e) h
  | some x => exact List.max?_mem e
theorem le_mx {v : List Nat} {x : Nat} (h : x ∈ v) : x ≤ mx v := by
  unfold mx
  cases e : v.max? with
  | none =>
    have := List.max?_eq_none_iff.mp e
    rw [this] at h
    cases h
  | some y => exact (List.max?_eq_some_iff.mp e).2 x h
theorem mx_lst {v : List Nat} (h : v.Pairwise (· ≤ ·)) (ne : v ≠ []) : mx v = lst v := Nat.le_antisymm (lst_max h (mx_mem ne)) (le_mx (lst_mem ne))
end Ld

set_option Elab.async false
set_option linter.all false
/-! Plain laws about spans. -/
namespace Sp
/-- spans by number -/
structure Fam where
  a : Nat → Int
  b : Nat → Int
  lt : ∀ i, a i < b i
def Fam.apart (S : Fam) (i j : Nat) : Prop := S.b i ≤ S.a j ∨ S.b j ≤ S.a i
instance (S : Fam) (i j : Nat) : Decidable (S.apart i j) := inferInstanceAs (Decidable (_ ∨ _))
variable {S : Fam}
theorem Fam.symm {i j : Nat} (h : S.apart i j) : S.apart j i := h.elim .inr .inl
theorem Fam.irr {i : Nat} : ¬ S.apart i i := fun h => by
  have := S.lt i
  rcases h with h | h <;> omega
theorem apart_meet {i j : Nat} : S.apart i j ↔ ¬ max (S.a i) (S.a j) < min (S.b i) (S.b j) := by
  have h1 := S.lt i
  have h2 := S.lt j
  unfold Fam.apart
  omega
/-- sets of numbers that are apart -/
def Ap (S : Fam) (R : List Nat) : Prop := R.Pairwise S.apart
theorem Ap.nodup {R : List Nat} (h : Ap S R) : R.Nodup := h.imp fun {a b} q e => by
  subst e
  exact Fam.irr q
theorem Ap.perm {R Q : List Nat} (p : R.Perm Q) (h : Ap S R) : Ap S Q := p.pairwise h fun q => Fam.symm q
theorem inj_le {P : Nat → Nat → Bool} : ∀ (T R : List Nat), R.Nodup → (∀ r ∈ R, ∃ t ∈ T, P r t = true) → (∀ r ∈ R, ∀ q ∈ R, ∀ t, P r t = true → P q t = true → r = q) → R.length ≤ T.length
  | [], R, _, h, _ => by
    cases R with
    | nil => simp
    | cons r R =>
      obtain ⟨t, ht, _⟩ := h r (by simp)
      cases ht
  | t :: T, R, nd, h, inj => by
    have ih := inj_le (P := P) T (R.filter fun r => !P r t) (nd.filter _) (fun r hr => by
      have hr' := List.mem_filter.mp hr
      obtain ⟨u, hu, e⟩ := h r hr'.1
      rcases List.mem_cons.mp hu with q | q
      · rw [q] at e
        rw [e] at hr'
        simp at hr'
      · exact ⟨u, q, e⟩) (fun r hr q hq => inj r (List.mem_filter.mp hr).1 q (List.mem_filter.mp hq).1)
    have h1 : (R.filter fun r => P r t).length ≤ 1 := by
      have nd2 := nd.filter (fun r => P r t)
      cases e : R.filter fun r => P r t with
      | nil => simp
      | cons x l =>
        cases l with
        | nil => simp
        | cons y l =>
          rw [e] at nd2
          have hx : x ∈ R.filter fun r => P r t := by rw [e]; simp
          have hy : y ∈ R.filter fun r => P r t := by rw [e]; simp
          have hx' := List.mem_filter.mp hx
          have hy' := List.mem_filter.mp hy
          have := inj x hx'.1 y hy'.1 t hx'.2 hy'.2
          rw [List.pairwise_cons] at nd2
          exact absurd this (nd2.1 y (by simp))
    have h2 : R.length = (R.filter fun r => P r t).length + (R.filter fun r => !P r t).length := by
      clear ih h1 inj h nd
      induction R with
      | nil => rfl
      | cons r R ih =>
        rw [List.filter_cons, List.filter_cons]
        cases P r t <;> simp <;> omega
    rw [List.length_cons]
    omega

/-! the rule: those that end first -/
def tkn (S : Fam) (T : List Nat) : List Nat → List Nat
  | [] => T
  | i :: l => if T.all (fun j => decide (S.apart i j)) = true then tkn S (T ++ [i]) l else tkn S T l
theorem tkn_ap {S : Fam} : ∀ (l T : List Nat), Ap S T → Ap S (tkn S T l)
  | [], T, h => h
  | i :: l, T, h => by
    unfold tkn
    split
    · rename_i c
      refine tkn_ap l _ ?_
      unfold Ap
      rw [List.pairwise_append]
      refine ⟨h, by simp, fun x hx y hy => ?_⟩
      rw [List.mem_singleton.mp hy]
      exact Fam.symm (of_decide_eq_true (List.all_eq_true.mp c x hx))
    · exact tkn_ap l T h
theorem tkn_sub {S : Fam} : ∀ (l T : List Nat), ∀ i ∈ tkn S T l, i ∈ T ∨ i ∈ l
  | [], T, i, h => .inl h
  | j :: l, T, i, h => by
    unfold tkn at h
    split at h
    · rcases tkn_sub l _ i h with q | q
      · rcases List.mem_append.mp q with q | q
        · exact .inl q
        · exact .inr (by rw [List.mem_singleton.mp q]; simp)
      · exact .inr (List.mem_cons_of_mem _ q)
    · rcases tkn_sub l _ i h with q | q
      · exact .inl q
      · exact .inr (List.mem_cons_of_mem _ q)
theorem tkn_keep {S : Fam} : ∀ (l T : List Nat), ∀ i ∈ T, i ∈ tkn S T l
  | [], T, i, h => h
  | j :: l, T, i, h => by
    unfold tkn
    split
    · exact tkn_keep l _ i (List.mem_append_left _ h)
    · exact tkn_keep l T i h
/-- each one meets one that is taken, which ends no later -/
theorem tkn_hit {S : Fam} : ∀ (l T : List Nat), l.Pairwise (fun i j => S.b i ≤ S.b j) → (∀ t ∈ T, ∀ i ∈ l, S.b t ≤ S.b i) → ∀ i ∈ l, ∃ t ∈ tkn S T l, S.a i < S.b t ∧ S.b t ≤ S.b i
  | [], T, _, _, i, h => by cases h
  | j :: l, T, hp, hT, i, h => by
    rw [List.pairwise_cons] at hp
    unfold tkn
    split
    · rename_i c
      rcases List.mem_cons.mp h with q | q
      · exact ⟨j, tkn_keep l _ j (by simp), by rw [q]; exact S.lt j, by rw [q]; exact Int.le_refl _⟩
      · refine tkn_hit l _ hp.2 (fun t ht k hk => ?_) i q
        rcases List.mem_append.mp ht with z | z
        · exact hT t z k (List.mem_cons_of_mem _ hk)
        · rw [List.mem_singleton.mp z]
          exact hp.1 k hk
    · rename_i c
      rcases List.mem_cons.mp h with q | q
      · have : ∃ t ∈ T, ¬ S.apart j t := by
          simpa using c
        obtain ⟨t, ht, hn⟩ := this
        have h1 := hT t ht j (by simp)
        refine ⟨t, tkn_keep l T t ht, ?_, by rw [q]; exact h1⟩
        rw [q]
        unfold Fam.apart at hn
        omega
      · exact tkn_hit l T hp.2 (fun t ht k hk => hT t ht k (List.mem_cons_of_mem _ hk)) i q
theorem tkn_most {S : Fam} {l R : List Nat} (hp : l.Pairwise (fun i j => S.b i ≤ S.b j)) (h : Ap S R) (hs : ∀ r ∈ R, r ∈ l) : R.length ≤ (tkn S [] l).length := by
  refine inj_le (P := fun r t => decide (S.a r < S.b t ∧ S.b t ≤ S.b r)) _ R h.nodup (fun r hr => ?_) fun r hr q hq t e1 e2 => ?_
  · obtain ⟨t, h1, h2⟩ := tkn_hit l [] hp (fun t ht => by cases ht) r (hs r hr)
    exact ⟨t, h1, decide_eq_true h2⟩
  · have e1 := of_decide_eq_true e1
    have e2 := of_decide_eq_true e2
    by_cases e : r = q
    · exact e
    · exfalso
      have : S.apart r q := by
        obtain ⟨i, hi, ei⟩ := List.mem_iff_getElem.mp hr
        obtain ⟨j, hj, ej⟩ := List.mem_iff_getElem.mp hq
        rcases Nat.lt_trichotomy i j with c | c | c
        · rw [← ei, ← ej]
          exact List.pairwise_iff_getElem.mp h i j hi hj c
        · subst c
          exact absurd (ei.symm.trans ej) e
        · rw [← ei, ← ej]
          exact Fam.symm (List.pairwise_iff_getElem.mp h j i hj hi c)
      rcases this with z | z <;> omega
end Sp

set_option Elab.async false
set_option linter.all false
/-! Plain laws about spans: how many at once, and rows of telescopes. -/
namespace Sp
abbrev Sn := Int × Int
def at_ (t : Int) (s : Sn) : Bool := decide (s.1 ≤ t ∧ t < s.2)
def cnt (t : Int) (l : List Sn) : Nat := (l.filter (at_ t)).length
theorem cnt_perm {t : Int} {a b : List Sn} (p : a.Perm b) : cnt t a = cnt t b := (p.filter _).length_eq
theorem cnt_app (t : Int) (a b : List Sn) : cnt t (a ++ b) = cnt t a + cnt t b := by unfold cnt; rw [List.filter_append, List.length_append]
theorem cnt_cons (t : Int) (s : Sn) (l : List Sn) : cnt t (s :: l) = (if at_ t s = true then 1 else 0) + cnt t l := by
  unfold cnt
  rw [List.filter_cons]
  split <;> simp <;> omega
/-- one telescope: newest first, each begins where the one before has ended -/
def Chain : List Sn → Prop
  | [] => True
  | [s] => s.1 < s.2
  | s :: r :: l => s.1 < s.2 ∧ r.2 ≤ s.1 ∧ Chain (r :: l)
theorem chain_cnt {t : Int} : ∀ {l : List Sn}, Chain l → cnt t l ≤ 1
  | [], _ => by simp [cnt]
  | [s], _ => by rw [cnt_cons]; split <;> simp [cnt]
  | s :: r :: l, h => by
    obtain ⟨h1, h2, h3⟩ := h
    have ih := chain_cnt (t := t) h3
    rw [cnt_cons]
    split
    · rename_i c
      have c' : s.1 ≤ t ∧ t < s.2 := of_decide_eq_true c
      have : ∀ {l : List Sn} {r : Sn}, Chain (r :: l) → r.2 ≤ t → cnt t (r :: l) = 0 := by
        intro l
        induction l with
        | nil =>
          intro r _ hr
          rw [cnt_cons, if_neg (by simp [at_]; omega)]
          rfl
        | cons q l ih =>
          intro r hc hr
          obtain ⟨g1, g2, g3⟩ := hc
          have hq : q.2 ≤ t := by omega
          rw [cnt_cons, if_neg (by simp [at_]; omega), ih g3 hq]
      rw [this h3 (by omega)]
      simp
    · omega
def ends (tr : List (List Sn)) : List Int := tr.map fun l => (l.headD (0, 0)).2
structure Tr (P : List Sn) (tr : List (List Sn)) : Prop where
  perm : tr.flatten.Perm P
  ch : ∀ l ∈ tr, Chain l ∧ l ≠ []
theorem cnt_flatten {t : Int} : ∀ {tr : List (List Sn)}, (∀ l ∈ tr, Chain l ∧ l ≠ []) → cnt t tr.flatten ≤ tr.length
  | [], _ => by simp [cnt]
  | l :: tr, h => by
    have h1 := chain_cnt (t := t) (h l (by simp)).1
    have h2 := cnt_flatten (t := t) (tr := tr) fun x hx => h x (List.mem_cons_of_mem _ hx)
    rw [List.flatten_cons, cnt_app, List.length_cons]
    omega
/-- all at once: each telescope's last span holds the moment -/
theorem cnt_all {t : Int} : ∀ {tr : List (List Sn)}, (∀ l ∈ tr, l ≠ []) → (∀ l ∈ tr, ∀ s ∈ l, s.1 ≤ t) → (∀ e ∈ ends tr, t < e) → tr.length ≤ cnt t tr.flatten
  | [], _, _, _ => by simp
  | l :: tr, h, h1, h2 => by
    have ih := cnt_all (t := t) (tr := tr) (fun x hx => h x (List.mem_cons_of_mem _ hx)) (fun x hx => h1 x (List.mem_cons_of_mem _ hx)) fun e he => h2 e (List.mem_cons_of_mem _ he)
    rw [List.flatten_cons, cnt_app, List.length_cons]
    cases e : l with
    | nil => exact absurd e (h l (by simp))
    | cons s r =>
      have a1 := h1 l (by simp) s (by rw [e]; simp)
      have a2 := h2 s.2 (by unfold ends; rw [e]; simp)
      rw [cnt_cons, if_pos (show at_ t s = true from decide_eq_true ⟨a1, a2⟩)]
      omega
/-- the first telescope that is free -/
def free (es : List Int) (a : Int) : List Nat := (List.range es.length).filter fun k => decide (es.getD k 0 ≤ a)
def put (es : List Int) (s : Sn) : List Int := match free es s.1 with
  | [] => es ++ [s.2]
  | k :: _ => es.set k s.2
structure Good (P : List Sn) (es : List Int) : Prop where
  tr : ∃ tr, Tr P tr ∧ ends tr = es
  le : ∃ t, es.length ≤ cnt t P
theorem free_nil {es : List Int} {a : Int} (h : free es a = []) : ∀ e ∈ es, a < e := fun e he => by
  obtain ⟨k, hk, ek⟩ := List.mem_iff_getElem.mp he
  have : ¬ (es.getD k 0 ≤ a) := by
    have := List.filter_eq_nil_iff.mp h k (List.mem_range.mpr hk)
    simpa using this
  rw [List.getD, List.getElem?_eq_getElem hk] at this
  simp [ek] at this
  exact this
theorem free_cons {es : List Int} {a : Int} {k : Nat} {l : List Nat} (h : free es a = k :: l) : k < es.length ∧ es.getD k 0 ≤ a := by
  have : k ∈ free es a := by rw [h]; simp
  have := List.mem_filter.mp this
  exact ⟨List.mem_range.mp this.1, by simpa using this.2⟩
theorem put_good {P : List Sn} {es : List Int} {s : Sn} (hs : s.1 < s.2) (hP : ∀ r ∈ P, r.1 ≤ s.1) (h : Good P es) : Good (s :: P) (put es s) := by
  obtain ⟨⟨tr, T, rfl⟩, t0, ht0⟩ := h
  unfold put
  split
  · rename_i hf
    have fa := free_nil hf
    refine ⟨⟨tr ++ [[s]], ⟨?_, fun l hl => ?_⟩, ?_⟩, s.1, ?_⟩
    · rw [List.flatten_append]
      simp
      exact List.perm_append_comm.trans (T.perm.cons s)
    · rcases List.mem_append.mp hl with q | q
      · exact T.ch l q
      · rw [List.mem_singleton.mp q]
        exact ⟨hs, by simp⟩
    · unfold ends
      simp
    · have := cnt_all (t := s.1) (fun l hl => (T.ch l hl).2) (fun l hl r hr => hP r (T.perm.mem_iff.mp (List.mem_flatten.mpr ⟨l, hl, hr⟩))) fa
      rw [cnt_perm T.perm] at this
      rw [cnt_cons, if_pos (show at_ s.1 s = true from decide_eq_true ⟨Int.le_refl _, hs⟩), List.length_append]
      have e : (ends tr).length = tr.length := by unfold ends; rw [List.length_map]
      rw [e]
      simp
      omega
  · rename_i k l0 hf
    obtain ⟨hk, he⟩ := free_cons hf
    have hk' : k < tr.length := by unfold ends at hk; rwa [List.length_map] at hk
    have sp : tr = tr.take k ++ tr[k] :: tr.drop (k + 1) := by
      conv => lhs; rw [← List.take_append_drop k tr]
      rw [List.drop_eq_getElem_cons hk']
    have hc := T.ch tr[k] (List.getElem_mem hk')
    refine ⟨⟨tr.set k (s :: tr[k]), ⟨?_, fun l hl => ?_⟩, ?_⟩, t0, ?_⟩
    · rw [List.set_eq_take_append_cons_drop, if_pos hk']
      refine List.Perm.trans ?_ (T.perm.cons s)
      have e : tr.flatten = (tr.take k).flatten ++ (tr[k] ++ (tr.drop (k + 1)).flatten) := by
        have := congrArg List.flatten sp
        rw [List.flatten_append, List.flatten_cons] at this
        exact this
      rw [e, List.flatten_append, List.flatten_cons, List.cons_append]
      exact List.perm_middle
    · rcases List.mem_or_eq_of_mem_set hl with q | q
      · exact T.ch l q
      · rw [q]
        refine ⟨?_, by simp⟩
        cases e : tr[k] with
        | nil => exact absurd e hc.2
        | cons r l =>
          have hc1 := hc.1
          rw [e] at hc1
          refine ⟨hs, ?_, hc1⟩
          have : (ends tr).getD k 0 = r.2 := by
            unfold ends
            rw [List.getD, List.getElem?_map, List.getElem?_eq_getElem hk', e]
            rfl
          rw [this] at he
          exact he
    · unfold ends
      rw [List.map_set]
      rfl
    · rw [List.length_set, cnt_cons]
      omega
/-- spans put one after the other -/
theorem puts_good : ∀ (l P : List Sn) (es : List Int), (∀ s ∈ l, s.1 < s.2) → l.Pairwise (fun s r => s.1 ≤ r.1) → (∀ r ∈ P, ∀ s ∈ l, r.1 ≤ s.1) → Good P es → Good (l.reverse ++ P) (l.foldl put es)
  | [], P, es, _, _, _, h => h
  | s :: l, P, es, h1, h2, h3, h => by
    rw [List.pairwise_cons] at h2
    have g := put_good (h1 s (by simp)) (fun r hr => h3 r hr s (by simp)) h
    have := puts_good l (s :: P) (put es s) (fun x hx => h1 x (List.mem_cons_of_mem _ hx)) h2.2 (fun r hr x hx => by
      rcases List.mem_cons.mp hr with q | q
      · rw [q]; exact h2.1 x hx
      · exact h3 r q x (List.mem_cons_of_mem _ hx)) g
    rw [List.reverse_cons, List.append_assoc]
    exact this
/-- as many telescopes as spans hold one moment -/
theorem puts_depth {l S : List Sn} (h1 : ∀ s ∈ l, s.1 < s.2) (h2 : l.Pairwise (fun s r => s.1 ≤ r.1)) (p : l.Perm S) : (∃ t, (l.foldl put []).length ≤ cnt t S) ∧ ∀ t, cnt t S ≤ (l.foldl put []).length := by
  have g := puts_good l [] [] h1 h2 (fun r hr => by cases hr) ⟨⟨[], ⟨by simp, fun l hl => by cases hl⟩, rfl⟩, 0, by simp⟩
  rw [List.append_nil] at g
  have p2 : l.reverse.Perm S := (List.reverse_perm l).trans p
  obtain ⟨⟨tr, T, e⟩, t, ht⟩ := g
  refine ⟨⟨t, by rw [cnt_perm p2] at ht; exact ht⟩, fun t => ?_⟩
  have := cnt_flatten (t := t) T.ch
  rw [cnt_perm (T.perm.trans p2)] at this
  have e2 : (ends tr).length = tr.length := by unfold ends; rw [List.length_map]
  rw [← e, e2]
  exact this
/-- the most at one moment is found where a span begins -/
theorem depth_begin {S : List Sn} {t : Int} (h : 0 < cnt t S) : ∃ s ∈ S, cnt t S ≤ cnt s.1 S := by
  have ne : S.filter (at_ t) ≠ [] := fun z => by
    unfold cnt at h
    rw [z] at h
    simp at h
  obtain ⟨s, hs, hm⟩ : ∃ s ∈ S.filter (at_ t), ∀ r ∈ S.filter (at_ t), r.1 ≤ s.1 := by
    generalize S.filter (at_ t) = l at ne
    clear h
    induction l with
    | nil => exact absurd rfl ne
    | cons a l ih =>
      cases l with
      | nil => exact ⟨a, by simp, fun r hr => by rw [List.mem_singleton.mp hr]; exact Int.le_refl _⟩
      | cons b l =>
        obtain ⟨s, h1, h2⟩ := ih (by simp)
        by_cases c : a.1 ≤ s.1
        · exact ⟨s, List.mem_cons_of_mem _ h1, fun r hr => by
            rcases List.mem_cons.mp hr with q | q
            · rw [q]; exact c
            · exact h2 r q⟩
        · exact ⟨a, by simp, fun r hr => by
            rcases List.mem_cons.mp hr with q | q
            · rw [q]; exact Int.le_refl _
            · have := h2 r q
              omega⟩
  have hs' := List.mem_filter.mp hs
  have a1 : s.1 ≤ t ∧ t < s.2 := of_decide_eq_true hs'.2
  refine ⟨s, hs'.1, ?_⟩
  unfold cnt
  refine (List.Sublist.length_le ?_)
  have : S.filter (at_ t) = (S.filter (at_ s.1)).filter (at_ t) := by
    rw [List.filter_filter]
    refine List.filter_congr fun r hr => ?_
    cases e : at_ t r with
    | false => simp
    | true =>
      have b := hm r (List.mem_filter.mpr ⟨hr, e⟩)
      have b2 : r.1 ≤ t ∧ t < r.2 := of_decide_eq_true e
      have : at_ s.1 r = true := decide_eq_true ⟨b, by omega⟩
      simp [this]
  rw [this]
  exact List.filter_sublist
end Sp

set_option Elab.async false
set_option linter.all false
/-! Plain laws about spans: the greatest worth. -/
namespace Sp
variable {S : Fam} {w : Nat → Nat}
def wsum (w : Nat → Nat) (R : List Nat) : Nat := (R.map w).sum
theorem wsum_perm {R Q : List Nat} (p : R.Perm Q) : wsum w R = wsum w Q := Ld.psum (p.map w)
theorem wsum_app (R Q : List Nat) : wsum w (R ++ Q) = wsum w R + wsum w Q := by unfold wsum; simp
theorem wsum_cons (i : Nat) (R : List Nat) : wsum w (i :: R) = w i + wsum w R := by unfold wsum; simp
structure IsOpt (S : Fam) (w : Nat → Nat) (P : List Nat) (v : Nat) : Prop where
  at_ : ∃ R, Ap S R ∧ (∀ r ∈ R, r ∈ P) ∧ wsum w R = v
  le : ∀ R, Ap S R → (∀ r ∈ R, r ∈ P) → wsum w R ≤ v
theorem IsOpt.uniq {P : List Nat} {u v : Nat} (a : IsOpt S w P u) (b : IsOpt S w P v) : u = v := by
  obtain ⟨R, r1, r2, r3⟩ := a.at_
  obtain ⟨Q, q1, q2, q3⟩ := b.at_
  have := b.le R r1 r2
  have := a.le Q q1 q2
  omega
theorem IsOpt.mono {P Q : List Nat} {u v : Nat} (a : IsOpt S w P u) (b : IsOpt S w Q v) (h : ∀ i ∈ P, i ∈ Q) : u ≤ v := by
  obtain ⟨R, r1, r2, r3⟩ := a.at_
  have := b.le R r1 fun r hr => h r (r2 r hr)
  omega
theorem IsOpt.congr {P Q : List Nat} {v : Nat} (a : IsOpt S w P v) (h : ∀ i, i ∈ P ↔ i ∈ Q) : IsOpt S w Q v := by
  obtain ⟨R, r1, r2, r3⟩ := a.at_
  exact ⟨⟨R, r1, fun r hr => (h r).mp (r2 r hr), r3⟩, fun R q1 q2 => a.le R q1 fun r hr => (h r).mpr (q2 r hr)⟩
theorem opt_nil : IsOpt S w [] 0 := ⟨⟨[], List.Pairwise.nil, fun r hr => (by cases hr), rfl⟩, fun R _ h => by
  cases R with
  | nil => exact Nat.le_refl _
  | cons r R => exact absurd (h r (by simp)) (by simp)⟩
/-- one more that ends last -/
theorem opt_snoc {P : List Nat} {i u v : Nat} (hv : IsOpt S w P v) (hu : IsOpt S w (P.filter fun p => decide (S.b p ≤ S.a i)) u) (hb : ∀ p ∈ P, S.b p ≤ S.b i) : IsOpt S w (P ++ [i]) (max v (u + w i)) := by
  refine ⟨?_, fun R h1 h2 => ?_⟩
  · by_cases c : u + w i ≤ v
    · obtain ⟨R, r1, r2, r3⟩ := hv.at_
      exact ⟨R, r1, fun r hr => List.mem_append_left _ (r2 r hr), by omega⟩
    · obtain ⟨R, r1, r2, r3⟩ := hu.at_
      refine ⟨i :: R, ?_, fun r hr => ?_, by rw [wsum_cons]; omega⟩
      · refine List.Pairwise.cons (fun r hr => .inr ?_) r1
        exact of_decide_eq_true (List.mem_filter.mp (r2 r hr)).2
      · rcases List.mem_cons.mp hr with q | q
        · rw [q]; simp
        · exact List.mem_append_left _ (List.mem_filter.mp (r2 r q)).1
  · by_cases c : i ∈ R
    · have p := List.perm_cons_erase c
      have h3 := h1.perm p
      unfold Ap at h3
      rw [List.pairwise_cons] at h3
      have := hu.le (R.erase i) h3.2 fun r hr => by
        have hr' : r ∈ R := List.mem_of_mem_erase hr
        have hne : r ≠ i := fun z => by
          have := h3.1 r hr
          rw [z] at this
          exact Fam.irr this
        have hP : r ∈ P := by
          rcases List.mem_append.mp (h2 r hr') with q | q
          · exact q
          · exact absurd (List.mem_singleton.mp q) hne
        refine List.mem_filter.mpr ⟨hP, decide_eq_true ?_⟩
        have a1 := h3.1 r hr
        have a2 := hb r hP
        have a3 := S.lt r
        rcases a1 with z | z
        · omega
        · exact z
      rw [wsum_perm p, wsum_cons]
      omega
    · have := hv.le R h1 fun r hr => by
        rcases List.mem_append.mp (h2 r hr) with q | q
        · exact q
        · rw [List.mem_singleton.mp q] at hr
          exact absurd hr c
      omega
def mx0 (l : List Nat) : Nat := l.foldl max 0
theorem mx0_snoc (l : List Nat) (v : Nat) : mx0 (l ++ [v]) = max (mx0 l) v := by unfold mx0; rw [List.foldl_append]; rfl
/-- the table of the best of each beginning -/
inductive Bst (S : Fam) (w : Nat → Nat) : List Nat → List (Int × Nat) → Prop
  | nil : Bst S w [] []
  | snoc {P : List Nat} {bs : List (Int × Nat)} {i v : Nat} : Bst S w P bs → (∀ p ∈ P, S.b p ≤ S.b i) → IsOpt S w (P ++ [i]) v → Bst S w (P ++ [i]) (bs ++ [(S.b i, v)])
theorem Bst.all {P : List Nat} {bs : List (Int × Nat)} (h : Bst S w P bs) : IsOpt S w P (mx0 (bs.map Prod.snd)) := by
  induction h with
  | nil => exact opt_nil
  | @snoc P bs i v h hb ho ih =>
    rw [List.map_append, List.map_cons, List.map_nil, mx0_snoc]
    have := ih.mono ho fun p hp => List.mem_append_left _ hp
    rw [Nat.max_eq_right this]
    exact ho
theorem Bst.mem {P : List Nat} {bs : List (Int × Nat)} (h : Bst S w P bs) : bs.map Prod.fst = P.map S.b := by
  induction h with
  | nil => rfl
  | snoc h hb ho ih => rw [List.map_append, List.map_append, ih]; rfl
theorem Bst.upto {P : List Nat} {bs : List (Int × Nat)} (h : Bst S w P bs) (x : Int) : IsOpt S w (P.filter fun p => decide (S.b p ≤ x)) (mx0 ((bs.filter fun e => decide (e.1 ≤ x)).map Prod.snd)) := by
  induction h with
  | nil => exact opt_nil
  | @snoc P bs i v h hb ho ih =>
    rw [List.filter_append, List.filter_append]
    by_cases c : S.b i ≤ x
    · have e1 : (P.filter fun p => decide (S.b p ≤ x)) = P := List.filter_eq_self.mpr fun p hp => decide_eq_true (by have := hb p hp; omega)
      have e2 : (bs.filter fun e => decide (e.1 ≤ x)) = bs := List.filter_eq_self.mpr fun e he => by
        have : e.1 ∈ P.map S.b := by rw [← h.mem]; exact List.mem_map.mpr ⟨e, he, rfl⟩
        obtain ⟨p, hp, q⟩ := List.mem_map.mp this
        have := hb p hp
        exact decide_eq_true (by omega)
      rw [e1, e2]
      simp only [List.filter_cons, decide_eq_true c, if_true, List.filter_nil]
      rw [List.map_append, List.map_cons, List.map_nil, mx0_snoc]
      have := h.all.mono ho fun p hp => List.mem_append_left _ hp
      rw [Nat.max_eq_right this]
      exact ho
    · simp only [List.filter_cons, decide_eq_false c, Bool.false_eq_true, if_false, List.filter_nil, List.append_nil]
      exact ih
theorem Bst.step {P : List Nat} {bs : List (Int × Nat)} {i : Nat} (h : Bst S w P bs) (hb : ∀ p ∈ P, S.b p ≤ S.b i) : Bst S w (P ++ [i]) (bs ++ [(S.b i, max (mx0 (bs.map Prod.snd)) (mx0 ((bs.filter fun e => decide (e.1 ≤ S.a i)).map Prod.snd) + w i))]) :=
  .snoc h hb (opt_snoc h.all (h.upto _) hb)
theorem Bst.last {P : List Nat} {bs : List (Int × Nat)} (h : Bst S w P bs) (ne : P ≠ []) : ∃ bs' e v, bs = bs' ++ [(e, v)] ∧ IsOpt S w P v := by
  cases h with
  | nil => exact absurd rfl ne
  | snoc h hb ho => exact ⟨_, _, _, rfl, ho⟩

/-! the least of the best -/
structure Row (S : Fam) (n : Nat) (R : List Nat) : Prop where
  asc : R.Pairwise (· < ·)
  lt : ∀ r ∈ R, r < n
  ap : Ap S R
def rest (S : Fam) (n : Nat) (f : List Nat) (lo : Nat) : List Nat := (List.range' lo (n - lo)).filter fun j => f.all fun o => decide (S.apart j o)
theorem mem_rest {n lo : Nat} {f : List Nat} {j : Nat} : j ∈ rest S n f lo ↔ lo ≤ j ∧ j < n ∧ ∀ o ∈ f, S.apart j o := by
  unfold rest
  rw [List.mem_filter, List.mem_range', List.all_eq_true]
  constructor
  · rintro ⟨⟨i, h1, h2⟩, h3⟩
    exact ⟨by omega, by omega, fun o ho => of_decide_eq_true (h3 o ho)⟩
  · rintro ⟨h1, h2, h3⟩
    exact ⟨⟨j - lo, by omega, by omega⟩, fun o ho => decide_eq_true (h3 o ho)⟩
/-- the number behind the last -/
def lo (f : List Nat) : Nat := match f.getLast? with
  | some x => x + 1
  | none => 0
theorem lo_snoc (f : List Nat) (x : Nat) : lo (f ++ [x]) = x + 1 := by unfold lo; simp
structure Inv (S : Fam) (w : Nat → Nat) (n top : Nat) (f : List Nat) : Prop where
  row : Row S n f
  bel : ∀ x ∈ f, x < lo f
  opt : ∃ R, Ap S R ∧ (∀ r ∈ R, r ∈ rest S n f (lo f)) ∧ wsum w f + wsum w R = top
  lex : ∀ R, Row S n R → wsum w R = top → (∃ Q, R = f ++ Q) ∨ ∀ e : List Nat, f ++ e < R
theorem lex_app {x r : Nat} (h : x < r) (e R : List Nat) : ∀ f : List Nat, f ++ [x] ++ e < f ++ r :: R
  | [] => by
    show x :: e < r :: R
    exact List.cons_lt_cons_iff.mpr (.inl h)
  | a :: f => by
    show a :: (f ++ [x] ++ e) < a :: (f ++ r :: R)
    exact List.cons_lt_cons_iff.mpr (.inr ⟨rfl, lex_app h e R f⟩)
theorem pair_of {R Q : List Nat} (h : Ap S (R ++ Q)) : ∀ r ∈ R, ∀ q ∈ Q, S.apart r q := fun r hr q hq => (List.pairwise_append.mp h).2.2 r hr q hq
/-- a candidate -/
def Cand (S : Fam) (w : Nat → Nat) (n top : Nat) (f : List Nat) (x : Nat) : Prop := x ∈ rest S n f (lo f) ∧ ∃ v, IsOpt S w (rest S n (f ++ [x]) (x + 1)) v ∧ wsum w f + w x + v = top
theorem ap_app {f R : List Nat} (h1 : Ap S f) (h2 : Ap S R) (h : ∀ r ∈ R, ∀ o ∈ f, S.apart r o) : Ap S (f ++ R) :=
  List.pairwise_append.mpr ⟨h1, h2, fun o ho r hr => Fam.symm (h r hr o ho)⟩
theorem sort_row {n : Nat} {R : List Nat} (h : Ap S R) (hn : ∀ r ∈ R, r < n) : ∃ Q, Q.Perm R ∧ Row S n Q := by
  have p := List.mergeSort_perm R (fun a b => decide (a ≤ b))
  refine ⟨R.mergeSort (fun a b => decide (a ≤ b)), p, ?_, fun r hr => hn r (p.mem_iff.mp hr), h.perm p.symm⟩
  have s := List.pairwise_mergeSort (le := fun a b : Nat => decide (a ≤ b)) (fun a b c h1 h2 => by simp at *; omega) (fun a b => by simp; omega) R
  have nd : (R.mergeSort (fun a b => decide (a ≤ b))).Nodup := p.nodup_iff.mpr h.nodup
  refine List.Pairwise.imp₂ (R := fun a b => decide (a ≤ b) = true) (S := (· ≠ ·)) (fun a b h1 h2 => ?_) s nd
  have := of_decide_eq_true h1
  omega
theorem opt_exists (S : Fam) (w : Nat → Nat) : ∀ P : List Nat, ∃ v, IsOpt S w P v := fun P => by
  have p := List.mergeSort_perm P (fun i j => decide (S.b i ≤ S.b j))
  have s := List.pairwise_mergeSort (le := fun i j : Nat => decide (S.b i ≤ S.b j)) (fun a b c h1 h2 => by simp at *; omega) (fun a b => by simp; omega) P
  suffices h : ∀ (l Q : List Nat) (bs : List (Int × Nat)), (∀ q ∈ Q, ∀ x ∈ l, S.b q ≤ S.b x) → l.Pairwise (fun i j => S.b i ≤ S.b j) → Bst S w Q bs → ∃ v, IsOpt S w (Q ++ l) v by
    obtain ⟨v, hv⟩ := h (P.mergeSort (fun i j => decide (S.b i ≤ S.b j))) [] [] (fun q hq => by cases hq) (s.imp fun h => of_decide_eq_true h) .nil
    exact ⟨v, hv.congr fun i => by rw [List.nil_append]; exact p.mem_iff⟩
  intro l
  induction l with
  | nil => intro Q bs _ _ h; exact ⟨_, by rw [List.append_nil]; exact h.all⟩
  | cons x l ih =>
    intro Q bs h1 h2 h
    rw [List.pairwise_cons] at h2
    obtain ⟨v, hv⟩ := ih (Q ++ [x]) _ (fun q hq y hy => by
      rcases List.mem_append.mp hq with z | z
      · exact h1 q z y (List.mem_cons_of_mem _ hy)
      · rw [List.mem_singleton.mp z]; exact h2.1 y hy) h2.2 (h.step fun p hp => h1 p hp x (by simp))
    exact ⟨v, by rw [List.append_assoc] at hv; exact hv⟩
/-- a set that goes on with what is found makes a candidate -/
theorem cand_of {n top : Nat} {f R : List Nat} {x : Nat} (I : Inv S w n top f) (ht : ∀ R, Ap S R → (∀ r ∈ R, r < n) → wsum w R ≤ top) (h1 : Ap S (x :: R)) (h2 : x ∈ rest S n f (lo f)) (h3 : ∀ r ∈ R, x < r ∧ r ∈ rest S n f (lo f)) (h4 : wsum w f + (w x + wsum w R) = top) : Cand S w n top f x := by
  refine ⟨h2, ?_⟩
  obtain ⟨v, hv⟩ := opt_exists S w (rest S n (f ++ [x]) (x + 1))
  refine ⟨v, hv, ?_⟩
  unfold Ap at h1
  rw [List.pairwise_cons] at h1
  have a := hv.le R h1.2 fun r hr => mem_rest.mpr ⟨(h3 r hr).1, (mem_rest.mp (h3 r hr).2).2.1, fun o ho => by
    rcases List.mem_append.mp ho with q | q
    · exact (mem_rest.mp (h3 r hr).2).2.2 o q
    · rw [List.mem_singleton.mp q]; exact Fam.symm (h1.1 r hr)⟩
  obtain ⟨Q, q1, q2, q3⟩ := hv.at_
  have b := ht (f ++ ([x] ++ Q)) (ap_app I.row.ap (List.Pairwise.cons (fun q hq => Fam.symm ((mem_rest.mp (q2 q hq)).2.2 x (by simp))) q1) fun r hr o ho => by
    rcases List.mem_append.mp hr with z | z
    · rw [List.mem_singleton.mp z]; exact (mem_rest.mp h2).2.2 o ho
    · exact (mem_rest.mp (q2 r z)).2.2 o (List.mem_append_left _ ho)) fun r hr => by
    rcases List.mem_append.mp hr with z | z
    · exact I.row.lt r z
    · rcases List.mem_append.mp z with z | z
      · rw [List.mem_singleton.mp z]; exact (mem_rest.mp h2).2.1
      · exact (mem_rest.mp (q2 r z)).2.1
  rw [wsum_app, wsum_app, q3] at b
  have e : wsum w [x] = w x := by unfold wsum; simp
  omega
theorem cand_exists {n top : Nat} {f : List Nat} (I : Inv S w n top f) (ht : ∀ R, Ap S R → (∀ r ∈ R, r < n) → wsum w R ≤ top) (hlt : wsum w f < top) : ∃ x, Cand S w n top f x := by
  obtain ⟨R, h1, h2, h3⟩ := I.opt
  obtain ⟨Q, p, r⟩ := sort_row (n := n) h1 fun r hr => (mem_rest.mp (h2 r hr)).2.1
  rw [← wsum_perm p] at h3
  cases Q with
  | nil =>
    have : wsum w ([] : List Nat) = 0 := rfl
    omega
  | cons x Q =>
    have asc := r.asc
    rw [List.pairwise_cons] at asc
    exact ⟨x, cand_of I ht r.ap (h2 x (p.mem_iff.mp (by simp))) (fun q hq => ⟨asc.1 q hq, h2 q (p.mem_iff.mp (List.mem_cons_of_mem _ hq))⟩) (by rw [← wsum_cons]; exact h3)⟩
theorem inv_step {n top x : Nat} {f : List Nat} (I : Inv S w n top f) (ht : ∀ R, Ap S R → (∀ r ∈ R, r < n) → wsum w R ≤ top) (hlt : wsum w f < top) (hx : Cand S w n top f x) (hmin : ∀ y, Cand S w n top f y → x ≤ y) : Inv S w n top (f ++ [x]) := by
  obtain ⟨m1, v, hv, e1⟩ := hx
  have m2 := mem_rest.mp m1
  refine ⟨⟨?_, fun r hr => ?_, ?_⟩, fun y hy => ?_, ?_, fun R hR e2 => ?_⟩
  · refine List.pairwise_append.mpr ⟨I.row.asc, by simp, fun a ha b hb => ?_⟩
    rw [List.mem_singleton.mp hb]
    have := I.bel a ha
    omega
  · rcases List.mem_append.mp hr with q | q
    · exact I.row.lt r q
    · rw [List.mem_singleton.mp q]; exact m2.2.1
  · exact ap_app I.row.ap (List.pairwise_singleton _ _) fun r hr o ho => by rw [List.mem_singleton.mp hr]; exact m2.2.2 o ho
  · rw [lo_snoc]
    rcases List.mem_append.mp hy with q | q
    · have := I.bel y q
      omega
    · rw [List.mem_singleton.mp q]; omega
  · obtain ⟨Q, q1, q2, q3⟩ := hv.at_
    refine ⟨Q, q1, by rw [lo_snoc]; exact q2, ?_⟩
    rw [wsum_app, q3]
    have e : wsum w [x] = w x := by unfold wsum; simp
    omega
  · rcases I.lex R hR e2 with ⟨Q, rfl⟩ | h
    · cases Q with
      | nil =>
        rw [List.append_nil] at e2
        omega
      | cons r Q =>
        have asc := (List.pairwise_append.mp hR.asc).2.1
        rw [List.pairwise_cons] at asc
        have ap2 := (List.pairwise_append.mp hR.ap).2.1
        have hlo : ∀ q ∈ r :: Q, lo f ≤ q := fun q hq => by
          have hh := (List.pairwise_append.mp hR.asc).2.2
          unfold lo
          cases e : f.getLast? with
          | none => simp
          | some z =>
            have := hh z (List.mem_of_getLast? e) q hq
            simp
            omega
        have inr : ∀ q ∈ r :: Q, q ∈ rest S n f (lo f) := fun q hq => mem_rest.mpr ⟨hlo q hq, hR.lt q (List.mem_append_right _ hq), fun o ho => Fam.symm (pair_of hR.ap o ho q hq)⟩
        have c := cand_of (x := r) (R := Q) I ht ap2 (inr r (by simp)) (fun q hq => ⟨asc.1 q hq, inr q (List.mem_cons_of_mem _ hq)⟩) (by rw [← wsum_cons, ← wsum_app]; exact e2)
        have := hmin r c
        rcases Nat.lt_or_eq_of_le this with z | z
        · exact .inr fun e => lex_app z e Q f
        · subst z
          exact .inl ⟨Q, by simp⟩
    · exact .inr fun e => by
        have := h ([x] ++ e)
        rwa [← List.append_assoc] at this
theorem inv_nil {n top : Nat} (h : IsOpt S w (List.range n) top) : Inv S w n top [] := by
  refine ⟨⟨by simp, fun r hr => (by cases hr), List.Pairwise.nil⟩, fun x hx => (by cases hx), ?_, fun R _ _ => .inl ⟨R, rfl⟩⟩
  obtain ⟨R, r1, r2, r3⟩ := h.at_
  exact ⟨R, r1, fun r hr => mem_rest.mpr ⟨Nat.zero_le _, List.mem_range.mp (r2 r hr), fun o ho => by cases ho⟩, by rw [r3]; show 0 + top = top; omega⟩
theorem lt_app (a : List Nat) : ∀ b : List Nat, ¬ a ++ b < a := fun b => by
  induction a with
  | nil => simp
  | cons x a ih =>
    intro h
    rcases List.cons_lt_cons_iff.mp (show x :: (a ++ b) < x :: a from h) with q | ⟨_, q⟩
    · omega
    · exact ih q
/-- what is found at the end is the least -/
theorem inv_least {n top : Nat} {f R : List Nat} (I : Inv S w n top f) (hR : Row S n R) (e : wsum w R = top) : ¬ R < f := by
  rcases I.lex R hR e with ⟨Q, rfl⟩ | h
  · exact lt_app f Q
  · have := h []
    rw [List.append_nil] at this
    exact List.lt_asymm this
end Sp

set_option Elab.async false
set_option linter.all false
set_option maxRecDepth 100000
set_option maxHeartbeats 0
namespace L36
open PySem PySem.Spec PyProof.Rows L2 Ev
def top (i : Nat) : Stmt := PySem.Challenge.pw_allnights_k36_whole_loads_and_spans.main.body.getD i (.Pass ⟨0, 0, 0, 0⟩)
def fuel : Nat := 1000000
abbrev s__law_cell : Stmt := top 28
abbrev s__law_stream : Stmt := top 29
abbrev s__law_turn : Stmt := top 36
abbrev s__law_least : Stmt := top 37
abbrev s__law_lowest : Stmt := top 32
abbrev s__law_draw : Stmt := top 30
abbrev s__law_more : Stmt := top 35
abbrev s_is_integer : Stmt := top 5
abbrev s_is_between : Stmt := top 6
abbrev s_check_jobs_on : Stmt := top 13
abbrev s_least_load : Stmt := top 15
abbrev s_in_turn : Stmt := top 14
abbrev s_common : Stmt := top 7
abbrev s_fraction : Stmt := top 8
abbrev s_least_parted : Stmt := top 16
abbrev s__law_loads : Stmt := top 38
abbrev s_span_holds : Stmt := top 21
abbrev s_check_spans : Stmt := top 20
abbrev s_fewest_telescopes : Stmt := top 24
abbrev s_most_from : Stmt := top 25
abbrev s_are_apart : Stmt := top 22
abbrev s_most_worth_apart : Stmt := top 26
abbrev s_most_apart : Stmt := top 23
abbrev s__law_meet : Stmt := top 39
abbrev s__law_spans : Stmt := top 40
abbrev s_law : Stmt := top 41
/-- the code objects of the defs that make lambdas, and their tables -/
structure Cd where
  (c_most_from P_most_from : Addr)
  (c_most_apart P_most_apart : Addr)
  (c__law_spans P__law_spans : Addr)
def lq (x : Str) : Str := x ++ ".<locals>." ++ "<lambda>"
def zt (C : Cd) : Tbs := [(C.P_most_from, lq "most_from"), (C.P_most_apart, lq "most_apart"), (C.P__law_spans, lq "_law_spans")]
def cst (C : Cd) : List (Addr × Addr × Str) := [(C.c_most_from, C.P_most_from, lq "most_from"), (C.c_most_apart, C.P_most_apart, lq "most_apart"), (C.c__law_spans, C.P__law_spans, lq "_law_spans")]
structure Tb (base : Heap) (mg : Str → Option Value) (C : Cd) : Prop where
  b_most_from : LamX.TabB base mg C.c_most_from C.P_most_from
  b_most_apart : LamX.TabB base mg C.c_most_apart C.P_most_apart
  b__law_spans : LamX.TabB base mg C.c__law_spans C.P__law_spans
structure Txt (K : PySem.W.Frag) (mg : Str → Option Value) (C : Cd) : Prop where
  d__law_cell : HasDef K mg "_law_cell" "_law_cell" s__law_cell ["script", "k"]
  d__law_stream : HasDef K mg "_law_stream" "_law_stream" s__law_stream ["script", "k"]
  d__law_turn : HasDef K mg "_law_turn" "_law_turn" s__law_turn ["m", "lengths"]
  d__law_least : HasDef K mg "_law_least" "_law_least" s__law_least ["m", "lengths"]
  d__law_lowest : HasDef K mg "_law_lowest" "_law_lowest" s__law_lowest ["n", "d"]
  d__law_draw : HasDef K mg "_law_draw" "_law_draw" s__law_draw ["box", "many"]
  d__law_more : HasDef K mg "_law_more" "_law_more" s__law_more ["one", "two"]
  d_is_integer : HasDef K mg "is_integer" "is_integer" s_is_integer ["thing"]
  d_is_between : HasDef K mg "is_between" "is_between" s_is_between ["thing", "low", "high"]
  d_check_jobs_on : HasDef K mg "check_jobs_on" "check_jobs_on" s_check_jobs_on ["m", "lengths"]
  d_least_load : HasDef K mg "least_load" "least_load" s_least_load ["m", "lengths"]
  d_in_turn : HasDef K mg "in_turn" "in_turn" s_in_turn ["m", "lengths"]
  d_common : HasDef K mg "common" "common" s_common ["one", "other"]
  d_fraction : HasDef K mg "fraction" "fraction" s_fraction ["n", "d"]
  d_least_parted : HasDef K mg "least_parted" "least_parted" s_least_parted ["m", "lengths"]
  d__law_loads : HasDef K mg "_law_loads" "_law_loads" s__law_loads ["box"]
  d_span_holds : HasDef K mg "span_holds" "span_holds" s_span_holds ["span"]
  d_check_spans : HasDef K mg "check_spans" "check_spans" s_check_spans ["spans"]
  d_fewest_telescopes : HasDef K mg "fewest_telescopes" "fewest_telescopes" s_fewest_telescopes ["spans"]
  d_most_from : HasCode K mg "most_from" "most_from" s_most_from ["spans", "worths", "some"] C.c_most_from
  mem_most_from : (C.P_most_from, lq "most_from") ∈ zt C
  uniq_most_from : ∀ p ∈ zt C, p.1 = C.P_most_from → p.2 = lq "most_from"
  d_are_apart : HasDef K mg "are_apart" "are_apart" s_are_apart ["one", "other"]
  d_most_worth_apart : HasDef K mg "most_worth_apart" "most_worth_apart" s_most_worth_apart ["spans", "worths"]
  d_most_apart : HasCode K mg "most_apart" "most_apart" s_most_apart ["spans"] C.c_most_apart
  mem_most_apart : (C.P_most_apart, lq "most_apart") ∈ zt C
  uniq_most_apart : ∀ p ∈ zt C, p.1 = C.P_most_apart → p.2 = lq "most_apart"
  d__law_meet : HasDef K mg "_law_meet" "_law_meet" s__law_meet ["one", "two"]
  d__law_spans : HasCode K mg "_law_spans" "_law_spans" s__law_spans ["box"] C.c__law_spans
  mem__law_spans : (C.P__law_spans, lq "_law_spans") ∈ zt C
  uniq__law_spans : ∀ p ∈ zt C, p.1 = C.P__law_spans → p.2 = lq "_law_spans"
  d_law : HasDef K mg "law" "law" s_law ["script"]
  c_MOST_JOBS : ∃ t, mg "MOST_JOBS" = some (.int 10 t)
  c_MOST_LONG : ∃ t, mg "MOST_LONG" = some (.int 1000 t)
  c_MOST_NUMBER : ∃ t, mg "MOST_NUMBER" = some (.int 1000 t)
  c_MOST_SPANS : ∃ t, mg "MOST_SPANS" = some (.int 20 t)
  c_MOST_TELESCOPES : ∃ t, mg "MOST_TELESCOPES" = some (.int 4 t)
  z_abs : mg "abs" = none
  z_all : mg "all" = none
  z_any : mg "any" = none
  z_bool : mg "bool" = none
  z_int : mg "int" = none
  z_isinstance : mg "isinstance" = none
  z_len : mg "len" = none
  z_list : mg "list" = none
  z_max : mg "max" = none
  z_min : mg "min" = none
  z_range : mg "range" = none
  z_repr : mg "repr" = none
  z_sorted : mg "sorted" = none
  z_sum : mg "sum" = none
  z_tuple : mg "tuple" = none
section
variable {P : Program} {w : World} {K : PySem.W.Frag} {mg : Str → Option Value} {base : Heap} {C : Cd}
/-! _law_cell(script, k): slots script 0, k 1 -/
def b__law_cell : SF := (sRet (eIf (tOf (eBin pLt (eVar 1) (eAp pLen (aCons (eVar 0) aNil)))) (eAp pInt (aCons (eBin pIdx (eVar 0) (eVar 1)) aNil)) (eC (.int 0))))
def m__law_cell : Fn := bodyF 2 b__law_cell
theorem sc__law_cell : FnScope ["script", "k"] ["script", "k"] (defScope s__law_cell) := ⟨rfl, rfl, rfl, by decide +kernel, rfl, by decide +kernel, by decide +kernel⟩
theorem ok__law_cell (T : Txt K mg C) (B : Tb base mg C) : Okd (zt C) P w K mg base 1 "_law_cell" ["script", "k"] m__law_cell := by
  refine okd (k := 0) T.d__law_cell sc__law_cell rfl fun f cdv A outer s H E hgd hr => ?_
  exact (z_one (s_ret (x_if (y_cmp o_lt (x_var (pv 1)) (x_callB c_len rfl T.z_len bt_len (x_cons (x_var (pv 0)) x_nil)) (nomark _)) (x_callTy c_int rfl T.z_int bt_int (x_cons (x_ix (x_var (pv 0)) (x_var (pv 1))) x_nil)) x_int)))
/-! _law_stream(script, k): slots script 0, k 1 -/
def b__law_stream : SF := (sRet (eNew (nLst (aCons (eAp pAbs (aCons (eAp m__law_cell (aCons (eVar 0) (aCons (eVar 1) aNil))) aNil)) (aCons (eBin pPlus (eBin pMod (eAp pAbs (aCons (eAp m__law_cell (aCons (eVar 0) (aCons (eVar 1) aNil))) aNil)) (eC (.int 1000003))) (eC (.int 7))) aNil)))))
def m__law_stream : Fn := bodyK 2 b__law_stream
theorem sc__law_stream : FnScope ["script", "k"] ["script", "k"] (defScope s__law_stream) := ⟨rfl, rfl, rfl, by decide +kernel, rfl, by decide +kernel, by decide +kernel⟩
theorem ok__law_stream (T : Txt K mg C) (B : Tb base mg C) : Okd (zt C) P w K mg base 2 "_law_stream" ["script", "k"] m__law_stream := by
  refine okdK (k := 1) T.d__law_stream sc__law_stream rfl fun f cdv A outer s H E hgd hr => ?_
  exact (z_one (s_ret (x_new (n_lst (x_cons (x_callB c_abs rfl T.z_abs bt_abs (x_cons (x_callO (ok__law_cell T B) (hr.mono (by decide)) hgd rfl (x_cons (x_var (pv 0)) (x_cons (x_var (pv 1)) x_nil)) (la_cons (la_cons la_nil))) x_nil)) (x_cons (x_bin o_plus (x_bin o_mod (x_callB c_abs rfl T.z_abs bt_abs (x_cons (x_callO (ok__law_cell T B) (hr.mono (by decide)) hgd rfl (x_cons (x_var (pv 0)) (x_cons (x_var (pv 1)) x_nil)) (la_cons (la_cons la_nil))) x_nil)) x_int) x_int) x_nil))))))
/-! _law_turn(m, lengths): slots m 0, lengths 1, loads 2, found 3, length 4, k 5 -/
def l__law_turn1 : SF := (sSeq (sAsg (eBM pIndex (eVar 2) (aCons (eAp pMin (aCons (eVar 2) aNil)) aNil)) (gNm 5)) (sSeq (sAsg (eBin pPlus (eBin pIdx (eVar 2) (eVar 5)) (eVar 4)) (gSubF pSet (eVar 2) (eVar 5))) (sExpr (eBM pAppend (eVar 3) (aCons (eVar 5) aNil)))))
def b__law_turn : SF := (sSeq (sPar 2 3 (aCons (eNew (nRep (nLst (aCons (eC (.int 0)) aNil)) (eVar 0))) (aCons (eNew (nLst aNil)) aNil))) (sSeq (sFor (itAny (eVar 1)) (gNm 4) l__law_turn1) (sRet (eAp pTupR (aCons (eVar 3) (aCons (eAp pMax (aCons (eVar 2) aNil)) aNil))))))
def m__law_turn : Fn := bodyF 6 b__law_turn
theorem sc__law_turn : FnScope ["m", "lengths", "loads", "found", "length", "k"] ["m", "lengths"] (defScope s__law_turn) := ⟨rfl, rfl, rfl, by decide +kernel, rfl, by decide +kernel, by decide +kernel⟩
theorem ok__law_turn (T : Txt K mg C) (B : Tb base mg C) : Okd (zt C) P w K mg base 1 "_law_turn" ["m", "lengths"] m__law_turn := by
  refine okd (k := 0) T.d__law_turn sc__law_turn rfl fun f cdv A outer s H E hgd hr => ?_
  exact (z_cons (s_par (i := 2) (j := 3) rfl sc__law_turn.nd rfl rfl (by decide) rfl rfl (x_cons (x_new (n_rep (n_lst (x_cons x_int x_nil)) (x_var (pv 0)))) (x_cons (x_new (n_lst x_nil)) x_nil)) rfl)
    (z_cons (s_for PassesOwn.never rfl (i_any (x_var (pv 1))) (g_name (i := 4) sc__law_turn.nd rfl (.inl rfl))
      (z_cons (s_set (i := 5) sc__law_turn.nd rfl (.inl rfl) (x_bm PySem.F.slot_list_index PySem.F.type_list_index (m_index hr) (x_var (pv 2)) (x_cons (x_callB (c_min rfl hr) rfl T.z_min bt_min (x_cons (x_var (pv 2)) x_nil)) x_nil)))
      (z_cons (s_asg (x_bin o_plus (x_ix (x_var (pv 2)) (x_var (pv 5))) (x_var (pv 4))) (g_sub (x_var (pv 2)) (x_var (pv 5)) set_ok))
      (z_one (s_expr (x_bm PySem.F.slot_list_append PySem.F.type_list_append m_append (x_var (pv 3)) (x_cons (x_var (pv 5)) x_nil)))))))
    (z_one (s_ret (x_tupR (x_cons (x_var (pv 3)) (x_cons (x_callB (c_max rfl hr) rfl T.z_max bt_max (x_cons (x_var (pv 2)) x_nil)) x_nil)))))))
/-! _law_least(m, lengths): slots m 0, lengths 1, now 2, length 3, more 4, loads 5, k 6 -/
def l__law_least1 : SF := (sAsg (eC (.bool true)) (gSubF pDSet (eVar 4) (eAp pTupleOf (aCons (eAp pSortedA (aCons (eBin pPlus (eBin pPlus (eSl (eVar 5) oNone (oSome (eVar 6))) (eAp pTup (aCons (eBin pPlus (eBin pIdx (eVar 5) (eVar 6)) (eVar 3)) aNil))) (eSl (eVar 5) (oSome (eBin pPlus (eVar 6) (eC (.int 1)))) oNone)) aNil)) aNil))))
def l__law_least2 : SF := (sFor (itRng1 (aCons (eVar 0) aNil)) (gNm 6) l__law_least1)
def l__law_least3 : SF := (sSeq (sAsg (eDNew true) (gNm 4)) (sSeq (sFor (itAny (eVar 2)) (gNm 5) l__law_least2) (sAsg (eAp pSortedA (aCons (eVar 4) aNil)) (gNm 2))))
def e__law_least4 : EF := (eAp pMax (aCons (eVar 5) aNil))
def b__law_least : SF := (sSeq (sAsg (eL (nLst (aCons (eBin pRepA (eAp pTup (aCons (eC (.int 0)) aNil)) (eVar 0)) aNil))) (gNm 2)) (sSeq (sFor (itAny (eVar 1)) (gNm 3) l__law_least3) (sRet (eAp pMin (aCons (eL (nComp (itAny (eVar 2)) (.nm 5) [5] tTrue e__law_least4)) aNil)))))
def m__law_least : Fn := bodyF 7 b__law_least
theorem sc__law_least : FnScope ["m", "lengths", "now", "length", "more", "loads", "k"] ["m", "lengths"] (defScope s__law_least) := ⟨rfl, rfl, rfl, by decide +kernel, rfl, by decide +kernel, by decide +kernel⟩
theorem ok__law_least (T : Txt K mg C) (B : Tb base mg C) : Okd (zt C) P w K mg base 1 "_law_least" ["m", "lengths"] m__law_least := by
  refine okd (k := 0) T.d__law_least sc__law_least rfl fun f cdv A outer s H E hgd hr => ?_
  exact (z_cons (s_set (i := 2) sc__law_least.nd rfl (.inl rfl) (x_ofN (n_lst (x_cons (x_bin o_repA (x_tup (x_cons x_int x_nil)) (x_var (pv 0))) x_nil))))
    (z_cons (s_for PassesOwn.never rfl (i_any (x_var (pv 1))) (g_name (i := 3) sc__law_least.nd rfl (.inl rfl))
      (z_cons (s_set (i := 4) sc__law_least.nd rfl (.inl rfl) x_dnewT)
      (z_cons (s_for PassesOwn.never rfl (i_any (x_var (pv 2))) (g_name (i := 5) sc__law_least.nd rfl (.inl rfl))
        (z_one (s_for PassesOwn.never rfl (i_range1 rfl T.z_range (x_cons (x_var (pv 0)) x_nil)) (g_name (i := 6) sc__law_least.nd rfl (.inl rfl))
          (z_one (s_asg x_bl (g_sub (x_var (pv 4)) (x_callTy c_tuple rfl T.z_tuple bt_tuple (x_cons (x_callB (c_sortedA hr rfl) rfl T.z_sorted bt_sorted (x_cons (x_bin o_plus (x_bin o_plus (x_sl (x_var (pv 5)) po_n (po_s (x_var (pv 6)))) (x_tup (x_cons (x_bin o_plus (x_ix (x_var (pv 5)) (x_var (pv 6))) (x_var (pv 3))) x_nil))) (x_sl (x_var (pv 5)) (po_s (x_bin o_plus (x_var (pv 6)) x_int)) po_n)) x_nil)) x_nil)) (dset_ok hr)))))))
      (z_one (s_set (i := 2) sc__law_least.nd rfl (.inl rfl) (x_callB (c_sortedA hr rfl) rfl T.z_sorted bt_sorted (x_cons (x_var (pv 4)) x_nil)))))))
    (z_one (s_ret (x_callB (c_min rfl hr) rfl T.z_min bt_min (x_cons (x_ofN (n_comp (own := [("loads", 5)]) rfl sc__law_least.nd (i_any (x_var (pv 2))) (blkOk_by (N := ["m", "lengths", "now", "length", "more", "loads", "k"]) (sc := defScope s__law_least) (by decide +kernel)) rfl (fun _ _ _ _ _ => (p_name (i := 5) sc__law_least.nd rfl (.inl rfl))) (fun _ _ _ _ _ => ts_nil) (fun _ _ _ _ _ => (x_callB (c_max rfl hr) rfl T.z_max bt_max (x_cons (x_var (pv 5)) x_nil))))) x_nil))))))
/-! _law_lowest(n, d): slots n 0, d 1, a 2, b 3 -/
def w__law_lowest1 : SF := (sPar 2 3 (aCons (eVar 3) (aCons (eBin pMod (eVar 2) (eVar 3)) aNil)))
def c__law_lowest2 : TF := (tOf (eBin pGt (eVar 3) (eC (.int 0))))
def b__law_lowest : SF := (sSeq (sPar 2 3 (aCons (eAp pAbs (aCons (eVar 0) aNil)) (aCons (eAp pAbs (aCons (eVar 1) aNil)) aNil))) (sSeq (wloop c__law_lowest2 w__law_lowest1 fuel) (sSeq (sAsg (eIf (tOf (eBin pGt (eVar 1) (eC (.int 0)))) (eVar 2) (eBin pSub (eC (.int 0)) (eVar 2))) (gNm 2)) (sRet (eAp pTup (aCons (eBin pDiv (eVar 0) (eVar 2)) (aCons (eBin pDiv (eVar 1) (eVar 2)) aNil)))))))
def m__law_lowest : Fn := bodyF 4 b__law_lowest
theorem sc__law_lowest : FnScope ["n", "d", "a", "b"] ["n", "d"] (defScope s__law_lowest) := ⟨rfl, rfl, rfl, by decide +kernel, rfl, by decide +kernel, by decide +kernel⟩
theorem ok__law_lowest (T : Txt K mg C) (B : Tb base mg C) : Okd (zt C) P w K mg base 1 "_law_lowest" ["n", "d"] m__law_lowest := by
  refine okd (k := 0) T.d__law_lowest sc__law_lowest rfl fun f cdv A outer s H E hgd hr => ?_
  exact (z_cons (s_par (i := 2) (j := 3) rfl sc__law_lowest.nd rfl rfl (by decide) rfl rfl (x_cons (x_callB c_abs rfl T.z_abs bt_abs (x_cons (x_var (pv 0)) x_nil)) (x_cons (x_callB c_abs rfl T.z_abs bt_abs (x_cons (x_var (pv 1)) x_nil)) x_nil)) rfl)
    (z_cons (s_while (n := fuel) PassesOwn.never (y_cmp o_gt (x_var (pv 3)) x_int (nomark _))
      (z_one (s_par (i := 2) (j := 3) rfl sc__law_lowest.nd rfl rfl (by decide) rfl rfl (x_cons (x_var (pv 3)) (x_cons (x_bin o_mod (x_var (pv 2)) (x_var (pv 3))) x_nil)) rfl)))
    (z_cons (s_set (i := 2) sc__law_lowest.nd rfl (.inl rfl) (x_if (y_cmp o_gt (x_var (pv 1)) x_int (nomark _)) (x_var (pv 2)) (x_bin o_sub x_int (x_var (pv 2)))))
    (z_one (s_ret (x_tup (x_cons (x_bin o_div (x_var (pv 0)) (x_var (pv 2))) (x_cons (x_bin o_div (x_var (pv 1)) (x_var (pv 2))) x_nil))))))))
/-! _law_draw(box, many): slots box 0, many 1, told 2 -/
def b__law_draw : SF := (sSeq (sIf (tOf (eBin pGt (eBin pIdx (eVar 0) (eC (.int 0))) (eC (.int 0)))) (sSeq (sAsg (eBin pMod (eBin pIdx (eVar 0) (eC (.int 0))) (eVar 1)) (gNm 2)) (sSeq (sAsg (eBin pDiv (eBin pIdx (eVar 0) (eC (.int 0))) (eVar 1)) (gSubF pSet (eVar 0) (eC (.int 0)))) (sRet (eAp pInt (aCons (eVar 2) aNil))))) sNext) (sSeq (sAsg (eBin pMod (eAp pInt (aCons (eBin pPlus (eBin pMul (eBin pIdx (eVar 0) (eC (.int 1))) (eC (.int 48271))) (eC (.int 12345))) aNil)) (eC (.int 2147483647))) (gSubF pSet (eVar 0) (eC (.int 1)))) (sRet (eBin pMod (eAp pInt (aCons (eBin pDiv (eBin pIdx (eVar 0) (eC (.int 1))) (eC (.int 64))) aNil)) (eVar 1)))))
def m__law_draw : Fn := bodyF 3 b__law_draw
theorem sc__law_draw : FnScope ["box", "many", "told"] ["box", "many"] (defScope s__law_draw) := ⟨rfl, rfl, rfl, by decide +kernel, rfl, by decide +kernel, by decide +kernel⟩
theorem ok__law_draw (T : Txt K mg C) (B : Tb base mg C) : Okd (zt C) P w K mg base 1 "_law_draw" ["box", "many"] m__law_draw := by
  refine okd (k := 0) T.d__law_draw sc__law_draw rfl fun f cdv A outer s H E hgd hr => ?_
  exact (z_cons (s_if (y_cmp o_gt (x_ix (x_var (pv 0)) x_int) x_int (nomark _)) (z_cons (s_set (i := 2) sc__law_draw.nd rfl (.inl rfl) (x_bin o_mod (x_ix (x_var (pv 0)) x_int) (x_var (pv 1))))
      (z_cons (s_asg (x_bin o_div (x_ix (x_var (pv 0)) x_int) (x_var (pv 1))) (g_sub (x_var (pv 0)) x_int set_ok))
      (z_one (s_ret (x_callTy c_int rfl T.z_int bt_int (x_cons (x_var (pv 2)) x_nil)))))) z_nil)
    (z_cons (s_asg (x_bin o_mod (x_callTy c_int rfl T.z_int bt_int (x_cons (x_bin o_plus (x_bin o_mul (x_ix (x_var (pv 0)) x_int) x_int) x_int) x_nil)) x_int) (g_sub (x_var (pv 0)) x_int set_ok))
    (z_one (s_ret (x_bin o_mod (x_callTy c_int rfl T.z_int bt_int (x_cons (x_bin o_div (x_ix (x_var (pv 0)) x_int) x_int) x_nil)) (x_var (pv 1)))))))
/-! _law_more(one, two): slots one 0, two 1 -/
def b__law_more : SF := (sRet (eBin pGt (eBin pMul (eBin pIdx (eVar 0) (eC (.int 0))) (eBin pIdx (eVar 1) (eC (.int 1)))) (eBin pMul (eBin pIdx (eVar 1) (eC (.int 0))) (eBin pIdx (eVar 0) (eC (.int 1))))))
def m__law_more : Fn := bodyF 2 b__law_more
theorem sc__law_more : FnScope ["one", "two"] ["one", "two"] (defScope s__law_more) := ⟨rfl, rfl, rfl, by decide +kernel, rfl, by decide +kernel, by decide +kernel⟩
theorem ok__law_more (T : Txt K mg C) (B : Tb base mg C) : Okd (zt C) P w K mg base 1 "_law_more" ["one", "two"] m__law_more := by
  refine okd (k := 0) T.d__law_more sc__law_more rfl fun f cdv A outer s H E hgd hr => ?_
  exact (z_one (s_ret (x_cmp o_gt (x_bin o_mul (x_ix (x_var (pv 0)) x_int) (x_ix (x_var (pv 1)) x_int)) (x_bin o_mul (x_ix (x_var (pv 1)) x_int) (x_ix (x_var (pv 0)) x_int)) (nomark _))))
/-! is_integer(thing): slots thing 0 -/
def b_is_integer : SF := (sRet (eOf (tAndF (tOf (eIsA .int (eVar 0))) (tNotF (tOf (eIsA .bool (eVar 0)))))))
def m_is_integer : Fn := bodyF 1 b_is_integer
theorem sc_is_integer : FnScope ["thing"] ["thing"] (defScope s_is_integer) := ⟨rfl, rfl, rfl, by decide +kernel, rfl, by decide +kernel, by decide +kernel⟩
theorem ok_is_integer (T : Txt K mg C) (B : Tb base mg C) : Okd (zt C) P w K mg base 1 "is_integer" ["thing"] m_is_integer := by
  refine okd (k := 0) T.d_is_integer sc_is_integer rfl fun f cdv A outer s H E hgd hr => ?_
  exact (z_one (s_ret (x_and (x_eOf (x_isa .int rfl (x_var (pv 0)) rfl T.z_isinstance rfl T.z_int bt_int)) (x_and1 (x_not (x_eOf (x_isa .bool rfl (x_var (pv 0)) rfl T.z_isinstance rfl T.z_bool bt_bool)))))))
/-! is_between(thing, low, high): slots thing 0, low 1, high 2 -/
def b_is_between : SF := (sRet (eOf (tAndF (tOf (eAp m_is_integer (aCons (eVar 0) aNil))) (tOf (eChain pLe pLe (eVar 1) (eVar 0) (eVar 2))))))
def m_is_between : Fn := bodyF 3 b_is_between
theorem sc_is_between : FnScope ["thing", "low", "high"] ["thing", "low", "high"] (defScope s_is_between) := ⟨rfl, rfl, rfl, by decide +kernel, rfl, by decide +kernel, by decide +kernel⟩
theorem ok_is_between (T : Txt K mg C) (B : Tb base mg C) : Okd (zt C) P w K mg base 2 "is_between" ["thing", "low", "high"] m_is_between := by
  refine okd (k := 1) T.d_is_between sc_is_between rfl fun f cdv A outer s H E hgd hr => ?_
  exact (z_one (s_ret (x_and (x_eOf (x_callO (ok_is_integer T B) (hr.mono (by decide)) hgd rfl (x_cons (x_var (pv 0)) x_nil) (la_cons la_nil))) (x_and1 (x_eOf (x_chain o_le o_le (x_var (pv 1)) (x_var (pv 0)) (x_var (pv 2))))))))
/-! check_jobs_on(m, lengths): slots m 0, lengths 1, length 2 -/
def e_check_jobs_on1 : EF := (eAp m_is_between (aCons (eVar 2) (aCons (eC (.int 1)) (aCons (eC (.int 1000)) aNil))))
def b_check_jobs_on : SF := (sSeq (sIf (tNotF (tOf (eAp m_is_between (aCons (eVar 0) (aCons (eC (.int 1)) (aCons (eC (.int 4)) aNil)))))) sNever sNext) (sSeq (sIf (tOrF (tNotF (tOf (eIsA .tuple (eVar 1)))) (tNotF (tOf (eChain pLe pLe (eC (.int 1)) (eAp pLen (aCons (eVar 1) aNil)) (eC (.int 10)))))) sNever sNext) (sIf (tNotF (tOf (eAp pAll (aCons (eL (nComp (itAny (eVar 1)) (.nm 2) [2] tTrue e_check_jobs_on1)) aNil)))) sNever sNext)))
def m_check_jobs_on : Fn := bodyF 3 b_check_jobs_on
theorem sc_check_jobs_on : FnScope ["m", "lengths", "length"] ["m", "lengths"] (defScope s_check_jobs_on) := ⟨rfl, rfl, rfl, by decide +kernel, rfl, by decide +kernel, by decide +kernel⟩
theorem ok_check_jobs_on (T : Txt K mg C) (B : Tb base mg C) : Okd (zt C) P w K mg base 3 "check_jobs_on" ["m", "lengths"] m_check_jobs_on := by
  refine okd (k := 2) T.d_check_jobs_on sc_check_jobs_on rfl fun f cdv A outer s H E hgd hr => ?_
  exact (z_cons (s_if (y_not (y_val (x_callO (ok_is_between T B) (hr.mono (by decide)) hgd rfl (x_cons (x_var (pv 0)) (x_cons x_int (x_cons (x_globI rfl T.c_MOST_TELESCOPES) x_nil))) (la_cons (la_cons (la_cons la_nil)))))) (z_one s_never) z_nil)
    (z_cons (s_if (PW.pt (w_or (y_not (y_val (x_isa .tuple rfl (x_var (pv 1)) rfl T.z_isinstance rfl T.z_tuple bt_tuple))) (w_or1 (y_not (y_chain o_le o_le x_int (x_callB c_len rfl T.z_len bt_len (x_cons (x_var (pv 1)) x_nil)) (x_globI rfl T.c_MOST_JOBS)))))) (z_one s_never) z_nil)
    (z_one (s_if (y_not (y_val (x_callB (c_all rfl) rfl T.z_all bt_all (x_cons (x_ofN (n_comp (own := [("length", 2)]) rfl sc_check_jobs_on.nd (i_any (x_var (pv 1))) (blkOk_by (N := ["m", "lengths", "length"]) (sc := defScope s_check_jobs_on) (by decide +kernel)) rfl (fun _ _ _ _ _ => (p_name (i := 2) sc_check_jobs_on.nd rfl (.inl rfl))) (fun _ _ _ _ _ => ts_nil) (fun _ _ _ _ _ => (x_callO (ok_is_between T B) (hr.mono (by decide)) hgd rfl (x_cons (x_var (pv 2)) (x_cons x_int (x_cons (x_globI rfl T.c_MOST_LONG) x_nil))) (la_cons (la_cons (la_cons la_nil))))))) x_nil)))) (z_one s_never) z_nil))))
/-! least_load(m, lengths): slots m 0, lengths 1, level 2, length 3, more 4, loads 5, at 6 -/
def l_least_load1 : SF := (sAsg (eC (.bool true)) (gSubF pDSet (eVar 4) (eAp pTupleOf (aCons (eAp pSortedA (aCons (eBin pPlus (eBin pPlus (eSl (eVar 5) oNone (oSome (eVar 6))) (eAp pTup (aCons (eBin pPlus (eBin pIdx (eVar 5) (eVar 6)) (eVar 3)) aNil))) (eSl (eVar 5) (oSome (eBin pPlus (eVar 6) (eC (.int 1)))) oNone)) aNil)) aNil))))
def l_least_load2 : SF := (sFor (itRng1 (aCons (eVar 0) aNil)) (gNm 6) l_least_load1)
def l_least_load3 : SF := (sSeq (sAsg (eDNew true) (gNm 4)) (sSeq (sLockF 2 (sFor (itDict (eVar 2)) (gNm 5) l_least_load2)) (sAsg (eVar 4) (gNm 2))))
def e_least_load4 : EF := (eBin pIdx (eVar 5) (eUn pNeg (eC (.int 1))))
def b_least_load : SF := (sSeq (sExpr (eAp m_check_jobs_on (aCons (eVar 0) (aCons (eVar 1) aNil)))) (sSeq (sAsg (eDisp1 true (eBin pRepA (eAp pTup (aCons (eC (.int 0)) aNil)) (eVar 0)) (eC (.bool true))) (gNm 2)) (sSeq (sFor (itAny (eVar 1)) (gNm 3) l_least_load3) (sRet (eAp pMin (aCons (eLockF 2 (eL (nComp (itDict (eVar 2)) (.nm 5) [5] tTrue e_least_load4))) aNil))))))
def m_least_load : Fn := bodyF 7 b_least_load
theorem sc_least_load : FnScope ["m", "lengths", "level", "length", "more", "loads", "at"] ["m", "lengths"] (defScope s_least_load) := ⟨rfl, rfl, rfl, by decide +kernel, rfl, by decide +kernel, by decide +kernel⟩
theorem ok_least_load (T : Txt K mg C) (B : Tb base mg C) : Okd (zt C) P w K mg base 4 "least_load" ["m", "lengths"] m_least_load := by
  refine okd (k := 3) T.d_least_load sc_least_load rfl fun f cdv A outer s H E hgd hr => ?_
  exact (z_cons (s_expr (x_callO (ok_check_jobs_on T B) (hr.mono (by decide)) hgd rfl (x_cons (x_var (pv 0)) (x_cons (x_var (pv 1)) x_nil)) (la_cons (la_cons la_nil))))
    (z_cons (s_set (i := 2) sc_least_load.nd rfl (.inl rfl) (x_disp1T hr (x_bin o_repA (x_tup (x_cons x_int x_nil)) (x_var (pv 0))) x_bl))
    (z_cons (s_for PassesOwn.never rfl (i_any (x_var (pv 1))) (g_name (i := 3) sc_least_load.nd rfl (.inl rfl))
      (z_cons (s_set (i := 4) sc_least_load.nd rfl (.inl rfl) x_dnewT)
      (z_cons (s_lock (i := 2) (s_for PassesOwn.never rfl (i_dict (x_var (pv 2))) (g_name (i := 5) sc_least_load.nd rfl (.inl rfl))
        (z_one (s_for PassesOwn.never rfl (i_range1 rfl T.z_range (x_cons (x_var (pv 0)) x_nil)) (g_name (i := 6) sc_least_load.nd rfl (.inl rfl))
          (z_one (s_asg x_bl (g_sub (x_var (pv 4)) (x_callTy c_tuple rfl T.z_tuple bt_tuple (x_cons (x_callB (c_sortedA hr rfl) rfl T.z_sorted bt_sorted (x_cons (x_bin o_plus (x_bin o_plus (x_sl (x_var (pv 5)) po_n (po_s (x_var (pv 6)))) (x_tup (x_cons (x_bin o_plus (x_ix (x_var (pv 5)) (x_var (pv 6))) (x_var (pv 3))) x_nil))) (x_sl (x_var (pv 5)) (po_s (x_bin o_plus (x_var (pv 6)) x_int)) po_n)) x_nil)) x_nil)) (dset_ok hr))))))))
      (z_one (s_set (i := 2) sc_least_load.nd rfl (.inl rfl) (x_var (pv 4)))))))
    (z_one (s_ret (x_callB (c_min rfl hr) rfl T.z_min bt_min (x_cons (x_lock (i := 2) (x_ofN (n_comp (own := [("loads", 5)]) rfl sc_least_load.nd (i_dict (x_var (pv 2))) (blkOk_by (N := ["m", "lengths", "level", "length", "more", "loads", "at"]) (sc := defScope s_least_load) (by decide +kernel)) rfl (fun _ _ _ _ _ => (p_name (i := 5) sc_least_load.nd rfl (.inl rfl))) (fun _ _ _ _ _ => ts_nil) (fun _ _ _ _ _ => (x_ix (x_var (pv 5)) (x_un u_neg x_int)))))) x_nil)))))))
/-! in_turn(m, lengths): slots m 0, lengths 1, loads 2, found 3, length 4 -/
def l_in_turn1 : SF := (sSeq (sExpr (eBM pAppend (eVar 3) (aCons (eBM pIndex (eVar 2) (aCons (eAp pMin (aCons (eVar 2) aNil)) aNil)) aNil))) (sAugSF pAddI pSet (eVar 2) (eBin pIdx (eVar 3) (eUn pNeg (eC (.int 1)))) (eVar 4)))
def b_in_turn : SF := (sSeq (sExpr (eAp m_check_jobs_on (aCons (eVar 0) (aCons (eVar 1) aNil)))) (sSeq (sPar 2 3 (aCons (eNew (nRep (nLst (aCons (eC (.int 0)) aNil)) (eVar 0))) (aCons (eNew (nLst aNil)) aNil))) (sSeq (sFor (itAny (eVar 1)) (gNm 4) l_in_turn1) (sRet (eAp pTupleOf (aCons (eVar 3) aNil))))))
def m_in_turn : Fn := bodyF 5 b_in_turn
theorem sc_in_turn : FnScope ["m", "lengths", "loads", "found", "length"] ["m", "lengths"] (defScope s_in_turn) := ⟨rfl, rfl, rfl, by decide +kernel, rfl, by decide +kernel, by decide +kernel⟩
theorem ok_in_turn (T : Txt K mg C) (B : Tb base mg C) : Okd (zt C) P w K mg base 4 "in_turn" ["m", "lengths"] m_in_turn := by
  refine okd (k := 3) T.d_in_turn sc_in_turn rfl fun f cdv A outer s H E hgd hr => ?_
  exact (z_cons (s_expr (x_callO (ok_check_jobs_on T B) (hr.mono (by decide)) hgd rfl (x_cons (x_var (pv 0)) (x_cons (x_var (pv 1)) x_nil)) (la_cons (la_cons la_nil))))
    (z_cons (s_par (i := 2) (j := 3) rfl sc_in_turn.nd rfl rfl (by decide) rfl rfl (x_cons (x_new (n_rep (n_lst (x_cons x_int x_nil)) (x_var (pv 0)))) (x_cons (x_new (n_lst x_nil)) x_nil)) rfl)
    (z_cons (s_for PassesOwn.never rfl (i_any (x_var (pv 1))) (g_name (i := 4) sc_in_turn.nd rfl (.inl rfl))
      (z_cons (s_expr (x_bm PySem.F.slot_list_append PySem.F.type_list_append m_append (x_var (pv 3)) (x_cons (x_bm PySem.F.slot_list_index PySem.F.type_list_index (m_index hr) (x_var (pv 2)) (x_cons (x_callB (c_min rfl hr) rfl T.z_min bt_min (x_cons (x_var (pv 2)) x_nil)) x_nil)) x_nil)))
      (z_one (s_augS (x_var (pv 2)) (x_ix (x_var (pv 3)) (x_un u_neg x_int)) (x_var (pv 4)) oi_add set_ok))))
    (z_one (s_ret (x_callTy c_tuple rfl T.z_tuple bt_tuple (x_cons (x_var (pv 3)) x_nil)))))))
/-! common(one, other): slots one 0, other 1 -/
def w_common1 : SF := (sPar 0 1 (aCons (eVar 1) (aCons (eBin pMod (eVar 0) (eVar 1)) aNil)))
def c_common2 : TF := (tOf (eBin pGt (eVar 1) (eC (.int 0))))
def b_common : SF := (sSeq (wloop c_common2 w_common1 fuel) (sRet (eVar 0)))
def m_common : Fn := bodyF 2 b_common
theorem sc_common : FnScope ["one", "other"] ["one", "other"] (defScope s_common) := ⟨rfl, rfl, rfl, by decide +kernel, rfl, by decide +kernel, by decide +kernel⟩
theorem ok_common (T : Txt K mg C) (B : Tb base mg C) : Okd (zt C) P w K mg base 1 "common" ["one", "other"] m_common := by
  refine okd (k := 0) T.d_common sc_common rfl fun f cdv A outer s H E hgd hr => ?_
  exact (z_cons (s_while (n := fuel) PassesOwn.never (y_cmp o_gt (x_var (pv 1)) x_int (nomark _))
      (z_one (s_par (i := 0) (j := 1) rfl sc_common.nd rfl rfl (by decide) rfl rfl (x_cons (x_var (pv 1)) (x_cons (x_bin o_mod (x_var (pv 0)) (x_var (pv 1))) x_nil)) rfl)))
    (z_one (s_ret (x_var (pv 0)))))
/-! fraction(n, d): slots n 0, d 1, both 2 -/
def b_fraction : SF := (sSeq (sAsg (eAp m_common (aCons (eVar 0) (aCons (eVar 1) aNil))) (gNm 2)) (sRet (eAp pTup (aCons (eBin pDiv (eVar 0) (eVar 2)) (aCons (eBin pDiv (eVar 1) (eVar 2)) aNil)))))
def m_fraction : Fn := bodyF 3 b_fraction
theorem sc_fraction : FnScope ["n", "d", "both"] ["n", "d"] (defScope s_fraction) := ⟨rfl, rfl, rfl, by decide +kernel, rfl, by decide +kernel, by decide +kernel⟩
theorem ok_fraction (T : Txt K mg C) (B : Tb base mg C) : Okd (zt C) P w K mg base 2 "fraction" ["n", "d"] m_fraction := by
  refine okd (k := 1) T.d_fraction sc_fraction rfl fun f cdv A outer s H E hgd hr => ?_
  exact (z_cons (s_set (i := 2) sc_fraction.nd rfl (.inl rfl) (x_callO (ok_common T B) (hr.mono (by decide)) hgd rfl (x_cons (x_var (pv 0)) (x_cons (x_var (pv 1)) x_nil)) (la_cons (la_cons la_nil))))
    (z_one (s_ret (x_tup (x_cons (x_bin o_div (x_var (pv 0)) (x_var (pv 2))) (x_cons (x_bin o_div (x_var (pv 1)) (x_var (pv 2))) x_nil))))))
/-! least_parted(m, lengths): slots m 0, lengths 1, longest 2, total 3 -/
def b_least_parted : SF := (sSeq (sExpr (eAp m_check_jobs_on (aCons (eVar 0) (aCons (eVar 1) aNil)))) (sSeq (sPar 2 3 (aCons (eAp pMax (aCons (eVar 1) aNil)) (aCons (eAp pSum (aCons (eVar 1) aNil)) aNil))) (sRet (eIf (tOf (eBin pGe (eBin pMul (eVar 2) (eVar 0)) (eVar 3))) (eAp pTup (aCons (eVar 2) (aCons (eC (.int 1)) aNil))) (eAp m_fraction (aCons (eVar 3) (aCons (eVar 0) aNil)))))))
def m_least_parted : Fn := bodyF 4 b_least_parted
theorem sc_least_parted : FnScope ["m", "lengths", "longest", "total"] ["m", "lengths"] (defScope s_least_parted) := ⟨rfl, rfl, rfl, by decide +kernel, rfl, by decide +kernel, by decide +kernel⟩
theorem ok_least_parted (T : Txt K mg C) (B : Tb base mg C) : Okd (zt C) P w K mg base 4 "least_parted" ["m", "lengths"] m_least_parted := by
  refine okd (k := 3) T.d_least_parted sc_least_parted rfl fun f cdv A outer s H E hgd hr => ?_
  exact (z_cons (s_expr (x_callO (ok_check_jobs_on T B) (hr.mono (by decide)) hgd rfl (x_cons (x_var (pv 0)) (x_cons (x_var (pv 1)) x_nil)) (la_cons (la_cons la_nil))))
    (z_cons (s_par (i := 2) (j := 3) rfl sc_least_parted.nd rfl rfl (by decide) rfl rfl (x_cons (x_callB (c_max rfl hr) rfl T.z_max bt_max (x_cons (x_var (pv 1)) x_nil)) (x_cons (x_callB (c_sum rfl) rfl T.z_sum bt_sum (x_cons (x_var (pv 1)) x_nil)) x_nil)) rfl)
    (z_one (s_ret (x_if (y_cmp o_ge (x_bin o_mul (x_var (pv 2)) (x_var (pv 0))) (x_var (pv 3)) (nomark _)) (x_tup (x_cons (x_var (pv 2)) (x_cons x_int x_nil))) (x_callO (ok_fraction T B) (hr.mono (by decide)) hgd rfl (x_cons (x_var (pv 3)) (x_cons (x_var (pv 0)) x_nil)) (la_cons (la_cons la_nil))))))))
/-! _law_loads(box): slots box 0, m 1, lengths 2, found 3, load 4, least 5, parted 6, i 7 -/
def e__law_loads1 : EF := (eBin pPlus (eC (.int 1)) (eAp m__law_draw (aCons (eVar 0) (aCons (eC (.int 12)) aNil))))
def b__law_loads : SF := (sSeq (sAsg (eBin pPlus (eC (.int 1)) (eAp m__law_draw (aCons (eVar 0) (aCons (eC (.int 3)) aNil)))) (gNm 1)) (sSeq (sAsg (eAp pTupleOf (aCons (eL (nComp (itRng1 (aCons (eBin pPlus (eC (.int 1)) (eAp m__law_draw (aCons (eVar 0) (aCons (eC (.int 7)) aNil)))) aNil)) (.nm 7) [7] tTrue e__law_loads1)) aNil)) (gNm 2)) (sSeq (sAsg (eAp m__law_turn (aCons (eVar 1) (aCons (eVar 2) aNil))) (gTp 2 (gsCons (gNm 3) (gsCons (gNm 4) gsNil)))) (sSeq (sAsg (eAp m__law_least (aCons (eVar 1) (aCons (eVar 2) aNil))) (gNm 5)) (sSeq (sIf (tOrF (tOf (eBin pNe (eAp pRepr (aCons (eAp m_in_turn (aCons (eVar 1) (aCons (eVar 2) aNil))) aNil)) (eAp pRepr (aCons (eAp pTupleOf (aCons (eVar 3) aNil)) aNil)))) (tOf (eBin pNe (eAp m_least_load (aCons (eVar 1) (aCons (eVar 2) aNil))) (eVar 5)))) (sRet (eC (.bool false))) sNext) (sSeq (sIf (tOrF (tOf (eBin pGt (eBin pMul (eVar 4) (eVar 1)) (eBin pMul (eBin pSub (eBin pMul (eC (.int 2)) (eVar 1)) (eC (.int 1))) (eVar 5)))) (tOf (eBin pGt (eBin pMul (eBin pMul (eC (.int 3)) (eVar 1)) (eBin pIdx (eAp m__law_turn (aCons (eVar 1) (aCons (eRev (eAp pSortedA (aCons (eVar 2) aNil))) aNil))) (eC (.int 1)))) (eBin pMul (eBin pSub (eBin pMul (eC (.int 4)) (eVar 1)) (eC (.int 1))) (eVar 5))))) (sRet (eC (.bool false))) sNext) (sSeq (sAsg (eAp m__law_lowest (aCons (eAp pSum (aCons (eVar 2) aNil)) (aCons (eVar 1) aNil))) (gNm 6)) (sSeq (sAsg (eIf (tOf (eAp m__law_more (aCons (eAp pTup (aCons (eAp pMax (aCons (eVar 2) aNil)) (aCons (eC (.int 1)) aNil))) (aCons (eVar 6) aNil)))) (eAp pTup (aCons (eAp pMax (aCons (eVar 2) aNil)) (aCons (eC (.int 1)) aNil))) (eVar 6)) (gNm 6)) (sRet (eOf (tAndF (tOf (eBin pEq (eAp pRepr (aCons (eAp m_least_parted (aCons (eVar 1) (aCons (eVar 2) aNil))) aNil)) (eAp pRepr (aCons (eVar 6) aNil)))) (tNotF (tOf (eAp m__law_more (aCons (eVar 6) (aCons (eAp pTup (aCons (eVar 5) (aCons (eC (.int 1)) aNil))) aNil))))))))))))))))
def m__law_loads : Fn := bodyF 8 b__law_loads
theorem sc__law_loads : FnScope ["box", "m", "lengths", "found", "load", "least", "parted", "i"] ["box"] (defScope s__law_loads) := ⟨rfl, rfl, rfl, by decide +kernel, rfl, by decide +kernel, by decide +kernel⟩
theorem ok__law_loads (T : Txt K mg C) (B : Tb base mg C) : Okd (zt C) P w K mg base 5 "_law_loads" ["box"] m__law_loads := by
  refine okd (k := 4) T.d__law_loads sc__law_loads rfl fun f cdv A outer s H E hgd hr => ?_
  exact (z_cons (s_set (i := 1) sc__law_loads.nd rfl (.inl rfl) (x_bin o_plus x_int (x_callO (ok__law_draw T B) (hr.mono (by decide)) hgd rfl (x_cons (x_var (pv 0)) (x_cons x_int x_nil)) (la_cons (la_cons la_nil)))))
    (z_cons (s_set (i := 2) sc__law_loads.nd rfl (.inl rfl) (x_callTy c_tuple rfl T.z_tuple bt_tuple (x_cons (x_ofN (n_comp (own := [("i", 7)]) rfl sc__law_loads.nd (i_range1 rfl T.z_range (x_cons (x_bin o_plus x_int (x_callO (ok__law_draw T B) (hr.mono (by decide)) hgd rfl (x_cons (x_var (pv 0)) (x_cons x_int x_nil)) (la_cons (la_cons la_nil)))) x_nil)) (blkOk_by (N := ["box", "m", "lengths", "found", "load", "least", "parted", "i"]) (sc := defScope s__law_loads) (by decide +kernel)) rfl (fun _ _ _ _ _ => (p_name (i := 7) sc__law_loads.nd rfl (.inl rfl))) (fun _ _ _ _ _ => ts_nil) (fun _ _ _ _ _ => (x_bin o_plus x_int (x_callO (ok__law_draw T B) (hr.mono (by decide)) hgd rfl (x_cons (x_var (pv 0)) (x_cons x_int x_nil)) (la_cons (la_cons la_nil))))))) x_nil)))
    (z_cons (s_asg (x_callO (ok__law_turn T B) (hr.mono (by decide)) hgd rfl (x_cons (x_var (pv 1)) (x_cons (x_var (pv 2)) x_nil)) (la_cons (la_cons la_nil))) (g_tup rfl (g_cons (g_name (i := 3) sc__law_loads.nd rfl (.inl rfl)) (g_cons (g_name (i := 4) sc__law_loads.nd rfl (.inl rfl)) g_nil))))
    (z_cons (s_set (i := 5) sc__law_loads.nd rfl (.inl rfl) (x_callO (ok__law_least T B) (hr.mono (by decide)) hgd rfl (x_cons (x_var (pv 1)) (x_cons (x_var (pv 2)) x_nil)) (la_cons (la_cons la_nil))))
    (z_cons (s_if (PW.pt (w_or (y_cmp (o_ne hr) (x_callB (c_repr hgd hr) rfl T.z_repr bt_repr (x_cons (x_callO (ok_in_turn T B) (hr.mono (by decide)) hgd rfl (x_cons (x_var (pv 1)) (x_cons (x_var (pv 2)) x_nil)) (la_cons (la_cons la_nil))) x_nil)) (x_callB (c_repr hgd hr) rfl T.z_repr bt_repr (x_cons (x_callTy c_tuple rfl T.z_tuple bt_tuple (x_cons (x_var (pv 3)) x_nil)) x_nil)) (nomark _)) (w_or1 (y_cmp (o_ne hr) (x_callO (ok_least_load T B) (hr.mono (by decide)) hgd rfl (x_cons (x_var (pv 1)) (x_cons (x_var (pv 2)) x_nil)) (la_cons (la_cons la_nil))) (x_var (pv 5)) (nomark _))))) (z_one (s_ret x_bl)) z_nil)
    (z_cons (s_if (PW.pt (w_or (y_cmp o_gt (x_bin o_mul (x_var (pv 4)) (x_var (pv 1))) (x_bin o_mul (x_bin o_sub (x_bin o_mul x_int (x_var (pv 1))) x_int) (x_var (pv 5))) (nomark _)) (w_or1 (y_cmp o_gt (x_bin o_mul (x_bin o_mul x_int (x_var (pv 1))) (x_ix (x_callO (ok__law_turn T B) (hr.mono (by decide)) hgd rfl (x_cons (x_var (pv 1)) (x_cons (x_rev (x_callB (c_sortedA hr rfl) rfl T.z_sorted bt_sorted (x_cons (x_var (pv 2)) x_nil))) x_nil)) (la_cons (la_cons la_nil))) x_int)) (x_bin o_mul (x_bin o_sub (x_bin o_mul x_int (x_var (pv 1))) x_int) (x_var (pv 5))) (nomark _))))) (z_one (s_ret x_bl)) z_nil)
    (z_cons (s_set (i := 6) sc__law_loads.nd rfl (.inl rfl) (x_callO (ok__law_lowest T B) (hr.mono (by decide)) hgd rfl (x_cons (x_callB (c_sum rfl) rfl T.z_sum bt_sum (x_cons (x_var (pv 2)) x_nil)) (x_cons (x_var (pv 1)) x_nil)) (la_cons (la_cons la_nil))))
    (z_cons (s_set (i := 6) sc__law_loads.nd rfl (.inl rfl) (x_if (y_val (x_callO (ok__law_more T B) (hr.mono (by decide)) hgd rfl (x_cons (x_tup (x_cons (x_callB (c_max rfl hr) rfl T.z_max bt_max (x_cons (x_var (pv 2)) x_nil)) (x_cons x_int x_nil))) (x_cons (x_var (pv 6)) x_nil)) (la_cons (la_cons la_nil)))) (x_tup (x_cons (x_callB (c_max rfl hr) rfl T.z_max bt_max (x_cons (x_var (pv 2)) x_nil)) (x_cons x_int x_nil))) (x_var (pv 6))))
    (z_one (s_ret (x_and (x_eOf (x_cmp (o_eq hr) (x_callB (c_repr hgd hr) rfl T.z_repr bt_repr (x_cons (x_callO (ok_least_parted T B) (hr.mono (by decide)) hgd rfl (x_cons (x_var (pv 1)) (x_cons (x_var (pv 2)) x_nil)) (la_cons (la_cons la_nil))) x_nil)) (x_callB (c_repr hgd hr) rfl T.z_repr bt_repr (x_cons (x_var (pv 6)) x_nil)) (nomark _))) (x_and1 (x_not (x_eOf (x_callO (ok__law_more T B) (hr.mono (by decide)) hgd rfl (x_cons (x_var (pv 6)) (x_cons (x_tup (x_cons (x_var (pv 5)) (x_cons x_int x_nil))) x_nil)) (la_cons (la_cons la_nil)))))))))))))))))
/-! span_holds(span): slots span 0, number 1 -/
def e_span_holds1 : EF := (eAp m_is_between (aCons (eVar 1) (aCons (eUn pNeg (eC (.int 1000))) (aCons (eC (.int 1000)) aNil))))
def b_span_holds : SF := (sRet (eOf (tAndF (tOf (eAp pAll (aCons (eL (nComp (itAny (eVar 0)) (.nm 1) [1] tTrue e_span_holds1)) aNil))) (tOf (eBin pLt (eBin pIdx (eVar 0) (eC (.int 0))) (eBin pIdx (eVar 0) (eC (.int 1))))))))
def m_span_holds : Fn := bodyF 2 b_span_holds
theorem sc_span_holds : FnScope ["span", "number"] ["span"] (defScope s_span_holds) := ⟨rfl, rfl, rfl, by decide +kernel, rfl, by decide +kernel, by decide +kernel⟩
theorem ok_span_holds (T : Txt K mg C) (B : Tb base mg C) : Okd (zt C) P w K mg base 3 "span_holds" ["span"] m_span_holds := by
  refine okd (k := 2) T.d_span_holds sc_span_holds rfl fun f cdv A outer s H E hgd hr => ?_
  exact (z_one (s_ret (x_and (x_eOf (x_callB (c_all rfl) rfl T.z_all bt_all (x_cons (x_ofN (n_comp (own := [("number", 1)]) rfl sc_span_holds.nd (i_any (x_var (pv 0))) (blkOk_by (N := ["span", "number"]) (sc := defScope s_span_holds) (by decide +kernel)) rfl (fun _ _ _ _ _ => (p_name (i := 1) sc_span_holds.nd rfl (.inl rfl))) (fun _ _ _ _ _ => ts_nil) (fun _ _ _ _ _ => (x_callO (ok_is_between T B) (hr.mono (by decide)) hgd rfl (x_cons (x_var (pv 1)) (x_cons (x_un u_neg (x_globI rfl T.c_MOST_NUMBER)) (x_cons (x_globI rfl T.c_MOST_NUMBER) x_nil))) (la_cons (la_cons (la_cons la_nil))))))) x_nil))) (x_and1 (x_eOf (x_cmp o_lt (x_ix (x_var (pv 0)) x_int) (x_ix (x_var (pv 0)) x_int) (nomark _)))))))
/-! check_spans(spans): slots spans 0, span 1 -/
def l_check_spans1 : SF := (sIf (tOrF (tNotF (tOf (eIsA .tuple (eVar 1)))) (tOrF (tOf (eBin pNe (eAp pLen (aCons (eVar 1) aNil)) (eC (.int 2)))) (tNotF (tOf (eAp m_span_holds (aCons (eVar 1) aNil)))))) sNever sNext)
def b_check_spans : SF := (sSeq (sIf (tOrF (tNotF (tOf (eIsA .tuple (eVar 0)))) (tNotF (tOf (eChain pLe pLe (eC (.int 1)) (eAp pLen (aCons (eVar 0) aNil)) (eC (.int 20)))))) sNever sNext) (sFor (itAny (eVar 0)) (gNm 1) l_check_spans1))
def m_check_spans : Fn := bodyF 2 b_check_spans
theorem sc_check_spans : FnScope ["spans", "span"] ["spans"] (defScope s_check_spans) := ⟨rfl, rfl, rfl, by decide +kernel, rfl, by decide +kernel, by decide +kernel⟩
theorem ok_check_spans (T : Txt K mg C) (B : Tb base mg C) : Okd (zt C) P w K mg base 4 "check_spans" ["spans"] m_check_spans := by
  refine okd (k := 3) T.d_check_spans sc_check_spans rfl fun f cdv A outer s H E hgd hr => ?_
  exact (z_cons (s_if (PW.pt (w_or (y_not (y_val (x_isa .tuple rfl (x_var (pv 0)) rfl T.z_isinstance rfl T.z_tuple bt_tuple))) (w_or1 (y_not (y_chain o_le o_le x_int (x_callB c_len rfl T.z_len bt_len (x_cons (x_var (pv 0)) x_nil)) (x_globI rfl T.c_MOST_SPANS)))))) (z_one s_never) z_nil)
    (z_one (s_for PassesOwn.never rfl (i_any (x_var (pv 0))) (g_name (i := 1) sc_check_spans.nd rfl (.inl rfl))
      (z_one (s_if (PW.pt (w_or (y_not (y_val (x_isa .tuple rfl (x_var (pv 1)) rfl T.z_isinstance rfl T.z_tuple bt_tuple))) (w_or (y_cmp (o_ne hr) (x_callB c_len rfl T.z_len bt_len (x_cons (x_var (pv 1)) x_nil)) x_int (nomark _)) (w_or1 (y_not (y_val (x_callO (ok_span_holds T B) (hr.mono (by decide)) hgd rfl (x_cons (x_var (pv 1)) x_nil) (la_cons la_nil)))))))) (z_one s_never) z_nil)))))
/-! fewest_telescopes(spans): slots spans 0, begin 1, _ 2, first 3, last 4 -/
def e_fewest_telescopes1 : EF := (eC (.int 1))
def t_fewest_telescopes2 : TF := (tOf (eChain pLe pLt (eVar 3) (eVar 1) (eVar 4)))
def e_fewest_telescopes3 : EF := (eAp pLen (aCons (eL (nComp (itAny (eVar 0)) (.tp (.cons (.nm 3) (.cons (.nm 4) .nil))) [3, 4] t_fewest_telescopes2 e_fewest_telescopes1)) aNil))
def b_fewest_telescopes : SF := (sSeq (sExpr (eAp m_check_spans (aCons (eVar 0) aNil))) (sRet (eAp pMax (aCons (eL (nComp (itAny (eVar 0)) (.tp (.cons (.nm 1) (.cons (.nm 2) .nil))) [1, 2] tTrue e_fewest_telescopes3)) aNil))))
def m_fewest_telescopes : Fn := bodyF 5 b_fewest_telescopes
theorem sc_fewest_telescopes : FnScope ["spans", "begin", "_", "first", "last"] ["spans"] (defScope s_fewest_telescopes) := ⟨rfl, rfl, rfl, by decide +kernel, rfl, by decide +kernel, by decide +kernel⟩
theorem ok_fewest_telescopes (T : Txt K mg C) (B : Tb base mg C) : Okd (zt C) P w K mg base 5 "fewest_telescopes" ["spans"] m_fewest_telescopes := by
  refine okd (k := 4) T.d_fewest_telescopes sc_fewest_telescopes rfl fun f cdv A outer s H E hgd hr => ?_
  exact (z_cons (s_expr (x_callO (ok_check_spans T B) (hr.mono (by decide)) hgd rfl (x_cons (x_var (pv 0)) x_nil) (la_cons la_nil)))
    (z_one (s_ret (x_callB (c_max rfl hr) rfl T.z_max bt_max (x_cons (x_ofN (n_comp (own := [("begin", 1), ("_", 2)]) rfl sc_fewest_telescopes.nd (i_any (x_var (pv 0))) (blkOk_by (N := ["spans", "begin", "_", "first", "last"]) (sc := defScope s_fewest_telescopes) (by decide +kernel)) rfl (fun _ _ _ _ _ => (p_tup rfl (p_cons (p_name (i := 1) sc_fewest_telescopes.nd rfl (.inr rfl)) (p_cons (p_name (i := 2) sc_fewest_telescopes.nd rfl (.inl rfl)) p_nil)))) (fun _ _ _ _ _ => ts_nil) (fun _ _ _ _ _ => (x_callB c_len rfl T.z_len bt_len (x_cons (x_ofN (n_comp (own := [("first", 3), ("last", 4)]) rfl sc_fewest_telescopes.nd (i_any (x_var (pv 0))) (blkOk_by (by kernel_rfl)) rfl (fun _ _ _ _ _ => (p_tup rfl (p_cons (p_name (i := 3) sc_fewest_telescopes.nd rfl (.inl rfl)) (p_cons (p_name (i := 4) sc_fewest_telescopes.nd rfl (.inl rfl)) p_nil)))) (fun _ _ _ _ _ => (ts_one (y_chain o_le o_lt (x_var (pv 3)) (x_var (pv 1)) (x_var (pv 4))))) (fun _ _ _ _ _ => x_int))) x_nil))))) x_nil)))))
/-! most_from(spans, worths, some): slots spans 0, worths 1, some 2, best 3, number 4, first 5, last 6, ahead 7, most 8, end 9, worth 10, _ 11 -/
def k_most_from1 : EF := (eBin pIdx (eBin pIdx (eVar 1) (eVar 0)) (eC (.int 1)))
def e_most_from2 : EF := (eVar 10)
def t_most_from3 : TF := (tOf (eBin pLe (eVar 9) (eVar 5)))
def e_most_from4 : EF := (eVar 10)
def l_most_from5 : SF := (sSeq (sAsg (eBin pIdx (eVar 0) (eVar 4)) (gTp 2 (gsCons (gNm 5) (gsCons (gNm 6) gsNil)))) (sSeq (sAsg (eAp pMax (aCons (eBin pPlus (eL (nComp (itAny (eVar 3)) (.tp (.cons (.nm 9) (.cons (.nm 10) .nil))) [9, 10] t_most_from3 e_most_from2)) (eL (nLst (aCons (eC (.int 0)) aNil)))) aNil)) (gNm 7)) (sSeq (sAsg (eAp pMax (aCons (eBin pPlus (eL (nComp (itAny (eVar 3)) (.tp (.cons (.nm 11) (.cons (.nm 10) .nil))) [11, 10] tTrue e_most_from4)) (eL (nLst (aCons (eC (.int 0)) aNil)))) aNil)) (gNm 8)) (sExpr (eBM pAppend (eVar 3) (aCons (eAp pTup (aCons (eVar 6) (aCons (eAp pMax (aCons (eVar 8) (aCons (eBin pPlus (eVar 7) (eBin pIdx (eVar 1) (eVar 4))) aNil))) aNil))) aNil))))))
def b_most_from : SF := (sSeq (sAsg (eNew (nLst aNil)) (gNm 3)) (sSeq (sFor (itAny (eSortK [] k_most_from1 (aCons (eVar 2) aNil))) (gNm 4) l_most_from5) (sRet (eIf (tOf (eBin pGt (eAp pLen (aCons (eVar 3) aNil)) (eC (.int 0)))) (eBin pIdx (eBin pIdx (eVar 3) (eUn pNeg (eC (.int 1)))) (eC (.int 1))) (eC (.int 0))))))
def m_most_from : Fn := bodyF 12 b_most_from
theorem sc_most_from : FnScope ["spans", "worths", "some", "best", "number", "first", "last", "ahead", "most", "end", "worth", "_"] ["spans", "worths", "some"] (defScope s_most_from) := ⟨rfl, rfl, rfl, by decide +kernel, rfl, by decide +kernel, by decide +kernel⟩
theorem ok_most_from (T : Txt K mg C) (B : Tb base mg C) : Okd (zt C) P w K mg base 5 "most_from" ["spans", "worths", "some"] m_most_from := by
  refine okdC (k := 4) T.d_most_from sc_most_from rfl fun f A outer s H E hgd hr => ?_
  exact (z_cons (s_set (i := 3) sc_most_from.nd rfl (.inl rfl) (x_new (n_lst x_nil)))
    (z_cons (s_for PassesOwn.never rfl (i_any (x_sortK (k := 1) (bs := []) (fb := k_most_from1) (p := "one") (c := C.c_most_from) (P := C.P_most_from) ⟨B.b_most_from, rfl, T.mem_most_from, T.uniq_most_from, lamP_by (by kernel_rfl), rfl, fun _ _ _ _ _ _ => rfl, (msk_no (N := ["spans", "worths", "some", "best", "number", "first", "last", "ahead", "most", "end", "worth", "_"]) (p := "one") (by decide +kernel)), fun A s H f c' hr => (x_ix (x_ix (x_var (pv 1)) (x_var (pv 0))) x_int)⟩ (hr.mono (by decide)) rfl T.z_sorted (x_cons (x_var (pv 2)) x_nil))) (g_name (i := 4) sc_most_from.nd rfl (.inl rfl))
      (z_cons (s_asg (x_ix (x_var (pv 0)) (x_var (pv 4))) (g_tup rfl (g_cons (g_name (i := 5) sc_most_from.nd rfl (.inr rfl)) (g_cons (g_name (i := 6) sc_most_from.nd rfl (.inl rfl)) g_nil))))
      (z_cons (s_set (i := 7) sc_most_from.nd rfl (.inl rfl) (x_callB (c_max rfl hr) rfl T.z_max bt_max (x_cons (x_bin o_plus (x_ofN (n_comp (own := [("end", 9), ("worth", 10)]) rfl sc_most_from.nd (i_any (x_var (pv 3))) (blkOk_by (N := ["spans", "worths", "some", "best", "number", "first", "last", "ahead", "most", "end", "worth", "_"]) (sc := defScope s_most_from) (by decide +kernel)) rfl (fun _ _ _ _ _ => (p_tup rfl (p_cons (p_name (i := 9) sc_most_from.nd rfl (.inl rfl)) (p_cons (p_name (i := 10) sc_most_from.nd rfl (.inl rfl)) p_nil)))) (fun _ _ _ _ _ => (ts_one (y_cmp o_le (x_var (pv 9)) (x_var (pv 5)) (nomark _)))) (fun _ _ _ _ _ => (x_var (pv 10))))) (x_ofN (n_lst (x_cons x_int x_nil)))) x_nil)))
      (z_cons (s_set (i := 8) sc_most_from.nd rfl (.inl rfl) (x_callB (c_max rfl hr) rfl T.z_max bt_max (x_cons (x_bin o_plus (x_ofN (n_comp (own := [("_", 11), ("worth", 10)]) rfl sc_most_from.nd (i_any (x_var (pv 3))) (blkOk_by (N := ["spans", "worths", "some", "best", "number", "first", "last", "ahead", "most", "end", "worth", "_"]) (sc := defScope s_most_from) (by decide +kernel)) rfl (fun _ _ _ _ _ => (p_tup rfl (p_cons (p_name (i := 11) sc_most_from.nd rfl (.inl rfl)) (p_cons (p_name (i := 10) sc_most_from.nd rfl (.inl rfl)) p_nil)))) (fun _ _ _ _ _ => ts_nil) (fun _ _ _ _ _ => (x_var (pv 10))))) (x_ofN (n_lst (x_cons x_int x_nil)))) x_nil)))
      (z_one (s_expr (x_bm PySem.F.slot_list_append PySem.F.type_list_append m_append (x_var (pv 3)) (x_cons (x_tup (x_cons (x_var (pv 6)) (x_cons (x_callB (c_max rfl hr) rfl T.z_max bt_max (x_cons (x_var (pv 8)) (x_cons (x_bin o_plus (x_var (pv 7)) (x_ix (x_var (pv 1)) (x_var (pv 4)))) x_nil))) x_nil))) x_nil))))))))
    (z_one (s_ret (x_if (y_cmp o_gt (x_callB c_len rfl T.z_len bt_len (x_cons (x_var (pv 3)) x_nil)) x_int (nomark _)) (x_ix (x_ix (x_var (pv 3)) (x_un u_neg x_int)) x_int) x_int)))))
/-! are_apart(one, other): slots one 0, other 1 -/
def b_are_apart : SF := (sRet (eOf (tOrF (tOf (eBin pLe (eBin pIdx (eVar 0) (eC (.int 1))) (eBin pIdx (eVar 1) (eC (.int 0))))) (tOf (eBin pLe (eBin pIdx (eVar 1) (eC (.int 1))) (eBin pIdx (eVar 0) (eC (.int 0))))))))
def m_are_apart : Fn := bodyF 2 b_are_apart
theorem sc_are_apart : FnScope ["one", "other"] ["one", "other"] (defScope s_are_apart) := ⟨rfl, rfl, rfl, by decide +kernel, rfl, by decide +kernel, by decide +kernel⟩
theorem ok_are_apart (T : Txt K mg C) (B : Tb base mg C) : Okd (zt C) P w K mg base 1 "are_apart" ["one", "other"] m_are_apart := by
  refine okd (k := 0) T.d_are_apart sc_are_apart rfl fun f cdv A outer s H E hgd hr => ?_
  exact (z_one (s_ret (x_or (x_eOf (x_cmp o_le (x_ix (x_var (pv 0)) x_int) (x_ix (x_var (pv 1)) x_int) (nomark _))) (x_or1 (x_eOf (x_cmp o_le (x_ix (x_var (pv 1)) x_int) (x_ix (x_var (pv 0)) x_int) (nomark _)))))))
/-! most_worth_apart(spans, worths): slots spans 0, worths 1, best 2, found 3, total 4, number 5, some 6, rest 7, worth 8, other 9, one 10 -/
def e_most_worth_apart1 : EF := (eAp m_is_between (aCons (eVar 8) (aCons (eC (.int 0)) (aCons (eC (.int 1000)) aNil))))
def e_most_worth_apart2 : EF := (eAp m_are_apart (aCons (eBin pIdx (eVar 0) (eVar 5)) (aCons (eBin pIdx (eVar 0) (eVar 9)) aNil)))
def e_most_worth_apart3 : EF := (eAp m_are_apart (aCons (eBin pIdx (eVar 0) (eVar 9)) (aCons (eBin pIdx (eVar 0) (eVar 10)) aNil)))
def e_most_worth_apart4 : EF := (eVar 9)
def t_most_worth_apart5 : TF := (tOf (eAp pAll (aCons (eL (nComp (itAny (eVar 6)) (.nm 10) [10] tTrue e_most_worth_apart3)) aNil)))
def l_most_worth_apart6 : SF := (sSeq (sAsg (eBin pPlus (eVar 3) (eL (nLst (aCons (eVar 5) aNil)))) (gNm 6)) (sIf (tOf (eAp pAll (aCons (eL (nComp (itAny (eVar 3)) (.nm 9) [9] tTrue e_most_worth_apart2)) aNil))) (sSeq (sAsg (eL (nComp (itRng2 (aCons (eBin pPlus (eVar 5) (eC (.int 1))) (aCons (eAp pLen (aCons (eVar 0) aNil)) aNil))) (.nm 9) [9] t_most_worth_apart5 e_most_worth_apart4)) (gNm 7)) (sIf (tOf (eBin pEq (eBin pPlus (eBin pPlus (eVar 4) (eBin pIdx (eVar 1) (eVar 5))) (eAp m_most_from (aCons (eVar 0) (aCons (eVar 1) (aCons (eVar 7) aNil))))) (eVar 2))) (sSeq (sPar 3 4 (aCons (eVar 6) (aCons (eBin pPlus (eVar 4) (eBin pIdx (eVar 1) (eVar 5))) aNil))) sBreak) sNext)) sNext))
def w_most_worth_apart7 : SF := (sFor (itRng2 (aCons (eIf (tOf (eBin pGt (eAp pLen (aCons (eVar 3) aNil)) (eC (.int 0)))) (eBin pPlus (eBin pIdx (eVar 3) (eUn pNeg (eC (.int 1)))) (eC (.int 1))) (eC (.int 0))) (aCons (eAp pLen (aCons (eVar 0) aNil)) aNil))) (gNm 5) l_most_worth_apart6)
def c_most_worth_apart8 : TF := (tOf (eBin pLt (eVar 4) (eVar 2)))
def b_most_worth_apart : SF := (sSeq (sExpr (eAp m_check_spans (aCons (eVar 0) aNil))) (sSeq (sIf (tOrF (tNotF (tOf (eIsA .tuple (eVar 1)))) (tOf (eBin pNe (eAp pLen (aCons (eVar 1) aNil)) (eAp pLen (aCons (eVar 0) aNil))))) sNever sNext) (sSeq (sIf (tNotF (tOf (eAp pAll (aCons (eL (nComp (itAny (eVar 1)) (.nm 8) [8] tTrue e_most_worth_apart1)) aNil)))) sNever sNext) (sSeq (sPar3 2 3 4 (aCons (eAp m_most_from (aCons (eVar 0) (aCons (eVar 1) (aCons (eL (nRg1 (eAp pLen (aCons (eVar 0) aNil)))) aNil)))) (aCons (eL (nLst aNil)) (aCons (eC (.int 0)) aNil)))) (sSeq (wloop c_most_worth_apart8 w_most_worth_apart7 fuel) (sRet (eAp pTup (aCons (eVar 2) (aCons (eAp pTupleOf (aCons (eVar 3) aNil)) aNil)))))))))
def m_most_worth_apart : Fn := bodyF 11 b_most_worth_apart
theorem sc_most_worth_apart : FnScope ["spans", "worths", "best", "found", "total", "number", "some", "rest", "worth", "other", "one"] ["spans", "worths"] (defScope s_most_worth_apart) := ⟨rfl, rfl, rfl, by decide +kernel, rfl, by decide +kernel, by decide +kernel⟩
theorem ok_most_worth_apart (T : Txt K mg C) (B : Tb base mg C) : Okd (zt C) P w K mg base 6 "most_worth_apart" ["spans", "worths"] m_most_worth_apart := by
  refine okd (k := 5) T.d_most_worth_apart sc_most_worth_apart rfl fun f cdv A outer s H E hgd hr => ?_
  exact (z_cons (s_expr (x_callO (ok_check_spans T B) (hr.mono (by decide)) hgd rfl (x_cons (x_var (pv 0)) x_nil) (la_cons la_nil)))
    (z_cons (s_if (PW.pt (w_or (y_not (y_val (x_isa .tuple rfl (x_var (pv 1)) rfl T.z_isinstance rfl T.z_tuple bt_tuple))) (w_or1 (y_cmp (o_ne hr) (x_callB c_len rfl T.z_len bt_len (x_cons (x_var (pv 1)) x_nil)) (x_callB c_len rfl T.z_len bt_len (x_cons (x_var (pv 0)) x_nil)) (nomark _))))) (z_one s_never) z_nil)
    (z_cons (s_if (y_not (y_val (x_callB (c_all rfl) rfl T.z_all bt_all (x_cons (x_ofN (n_comp (own := [("worth", 8)]) rfl sc_most_worth_apart.nd (i_any (x_var (pv 1))) (blkOk_by (N := ["spans", "worths", "best", "found", "total", "number", "some", "rest", "worth", "other", "one"]) (sc := defScope s_most_worth_apart) (by decide +kernel)) rfl (fun _ _ _ _ _ => (p_name (i := 8) sc_most_worth_apart.nd rfl (.inl rfl))) (fun _ _ _ _ _ => ts_nil) (fun _ _ _ _ _ => (x_callO (ok_is_between T B) (hr.mono (by decide)) hgd rfl (x_cons (x_var (pv 8)) (x_cons x_int (x_cons (x_globI rfl T.c_MOST_NUMBER) x_nil))) (la_cons (la_cons (la_cons la_nil))))))) x_nil)))) (z_one s_never) z_nil)
    (z_cons (s_par3 (i := 2) (j := 3) (l := 4) rfl sc_most_worth_apart.nd rfl rfl rfl (by decide) (by decide) (by decide) rfl rfl rfl (x_cons (x_callO (ok_most_from T B) (hr.mono (by decide)) hgd rfl (x_cons (x_var (pv 0)) (x_cons (x_var (pv 1)) (x_cons (x_ofN (n_listRg1 rfl rfl T.z_list rfl T.z_range (x_callB c_len rfl T.z_len bt_len (x_cons (x_var (pv 0)) x_nil)))) x_nil))) (la_cons (la_cons (la_cons la_nil)))) (x_cons (x_ofN (n_lst x_nil)) (x_cons x_int x_nil))) rfl)
    (z_cons (s_while (n := fuel) PassesOwn.never (y_cmp o_lt (x_var (pv 4)) (x_var (pv 2)) (nomark _))
      (z_one (s_for PassesOwn.never rfl (i_range2 rfl T.z_range (x_cons (x_if (y_cmp o_gt (x_callB c_len rfl T.z_len bt_len (x_cons (x_var (pv 3)) x_nil)) x_int (nomark _)) (x_bin o_plus (x_ix (x_var (pv 3)) (x_un u_neg x_int)) x_int) x_int) (x_cons (x_callB c_len rfl T.z_len bt_len (x_cons (x_var (pv 0)) x_nil)) x_nil))) (g_name (i := 5) sc_most_worth_apart.nd rfl (.inr rfl))
        (z_cons (s_set (i := 6) sc_most_worth_apart.nd rfl (.inr rfl) (x_bin o_plus (x_var (pv 3)) (x_ofN (n_lst (x_cons (x_var (pv 5)) x_nil)))))
        (z_one (s_if (y_val (x_callB (c_all rfl) rfl T.z_all bt_all (x_cons (x_ofN (n_comp (own := [("other", 9)]) rfl sc_most_worth_apart.nd (i_any (x_var (pv 3))) (blkOk_by (N := ["spans", "worths", "best", "found", "total", "number", "some", "rest", "worth", "other", "one"]) (sc := defScope s_most_worth_apart) (by decide +kernel)) rfl (fun _ _ _ _ _ => (p_name (i := 9) sc_most_worth_apart.nd rfl (.inl rfl))) (fun _ _ _ _ _ => ts_nil) (fun _ _ _ _ _ => (x_callO (ok_are_apart T B) (hr.mono (by decide)) hgd rfl (x_cons (x_ix (x_var (pv 0)) (x_var (pv 5))) (x_cons (x_ix (x_var (pv 0)) (x_var (pv 9))) x_nil)) (la_cons (la_cons la_nil)))))) x_nil))) (z_cons (s_setC (i := 7) (own := [("other", 9)]) rfl sc_most_worth_apart.nd rfl rfl (sw_true rfl rfl rfl (by decide +kernel)) (i_range2 rfl T.z_range (x_cons (x_bin o_plus (x_var (pv 5)) x_int) (x_cons (x_callB c_len rfl T.z_len bt_len (x_cons (x_var (pv 0)) x_nil)) x_nil))) (blkOk_by (N := ["spans", "worths", "best", "found", "total", "number", "some", "rest", "worth", "other", "one"]) (sc := defScope s_most_worth_apart) (by decide +kernel)) rfl (fun _ _ _ _ _ => (p_name (i := 9) sc_most_worth_apart.nd rfl (.inr rfl))) (fun _ _ _ _ _ => (ts_one (y_val (x_callB (c_all rfl) rfl T.z_all bt_all (x_cons (x_ofN (n_comp (own := [("one", 10)]) rfl sc_most_worth_apart.nd (i_any (x_var (pv 6))) (blkOk_by (by kernel_rfl)) rfl (fun _ _ _ _ _ => (p_name (i := 10) sc_most_worth_apart.nd rfl (.inl rfl))) (fun _ _ _ _ _ => ts_nil) (fun _ _ _ _ _ => (x_callO (ok_are_apart T B) (hr.mono (by decide)) hgd rfl (x_cons (x_ix (x_var (pv 0)) (x_var (pv 9))) (x_cons (x_ix (x_var (pv 0)) (x_var (pv 10))) x_nil)) (la_cons (la_cons la_nil)))))) x_nil))))) (fun _ _ _ _ _ => (x_var (pv 9))))
          (z_one (s_if (y_cmp (o_eq hr) (x_bin o_plus (x_bin o_plus (x_var (pv 4)) (x_ix (x_var (pv 1)) (x_var (pv 5)))) (x_callO (ok_most_from T B) (hr.mono (by decide)) hgd rfl (x_cons (x_var (pv 0)) (x_cons (x_var (pv 1)) (x_cons (x_var (pv 7)) x_nil))) (la_cons (la_cons (la_cons la_nil))))) (x_var (pv 2)) (nomark _)) (z_cons (s_par (i := 3) (j := 4) rfl sc_most_worth_apart.nd rfl rfl (by decide) rfl rfl (x_cons (x_var (pv 6)) (x_cons (x_bin o_plus (x_var (pv 4)) (x_ix (x_var (pv 1)) (x_var (pv 5)))) x_nil)) rfl)
            (z_one s_break)) z_nil))) z_nil))))))
    (z_one (s_ret (x_tup (x_cons (x_var (pv 2)) (x_cons (x_callTy c_tuple rfl T.z_tuple bt_tuple (x_cons (x_var (pv 3)) x_nil)) x_nil))))))))))
/-! most_apart(spans): slots spans 0, found 1, number 2, other 3 -/
def k_most_apart1 : EF := (eAp pTup (aCons (eBin pIdx (eBin pIdx (eVar 1) (eVar 0)) (eC (.int 1))) (aCons (eVar 0) aNil)))
def e_most_apart2 : EF := (eAp m_are_apart (aCons (eBin pIdx (eVar 0) (eVar 2)) (aCons (eBin pIdx (eVar 0) (eVar 3)) aNil)))
def l_most_apart3 : SF := (sIf (tOf (eAp pAll (aCons (eL (nComp (itAny (eVar 1)) (.nm 3) [3] tTrue e_most_apart2)) aNil))) (sExpr (eBM pAppend (eVar 1) (aCons (eVar 2) aNil))) sNext)
def b_most_apart : SF := (sSeq (sExpr (eAp m_check_spans (aCons (eVar 0) aNil))) (sSeq (sAsg (eNew (nLst aNil)) (gNm 1)) (sSeq (sFor (itAny (eSortKR [] k_most_apart1 (aCons (eAp pLen (aCons (eVar 0) aNil)) aNil))) (gNm 2) l_most_apart3) (sRet (eAp pTupleOf (aCons (eAp pSortedA (aCons (eVar 1) aNil)) aNil))))))
def m_most_apart : Fn := bodyF 4 b_most_apart
theorem sc_most_apart : FnScope ["spans", "found", "number", "other"] ["spans"] (defScope s_most_apart) := ⟨rfl, rfl, rfl, by decide +kernel, rfl, by decide +kernel, by decide +kernel⟩
theorem ok_most_apart (T : Txt K mg C) (B : Tb base mg C) : Okd (zt C) P w K mg base 9 "most_apart" ["spans"] m_most_apart := by
  refine okdC (k := 8) T.d_most_apart sc_most_apart rfl fun f A outer s H E hgd hr => ?_
  exact (z_cons (s_expr (x_callO (ok_check_spans T B) (hr.mono (by decide)) hgd rfl (x_cons (x_var (pv 0)) x_nil) (la_cons la_nil)))
    (z_cons (s_set (i := 1) sc_most_apart.nd rfl (.inl rfl) (x_new (n_lst x_nil)))
    (z_cons (s_for PassesOwn.never rfl (i_any (x_sortKR (k := 5) (bs := []) (fb := k_most_apart1) (p := "one") (c := C.c_most_apart) (P := C.P_most_apart) ⟨B.b_most_apart, rfl, T.mem_most_apart, T.uniq_most_apart, lamP_by (by kernel_rfl), rfl, fun _ _ _ _ _ _ => rfl, (msk_no (N := ["spans", "found", "number", "other"]) (p := "one") (by decide +kernel)), fun A s H f c' hr => (x_tup (x_cons (x_ix (x_ix (x_var (pv 1)) (x_var (pv 0))) x_int) (x_cons (x_var (pv 0)) x_nil)))⟩ rfl (hr.mono (by decide)) rfl T.z_sorted rfl T.z_range (x_cons (x_callB c_len rfl T.z_len bt_len (x_cons (x_var (pv 0)) x_nil)) x_nil))) (g_name (i := 2) sc_most_apart.nd rfl (.inr rfl))
      (z_one (s_if (y_val (x_callB (c_all rfl) rfl T.z_all bt_all (x_cons (x_ofN (n_comp (own := [("other", 3)]) rfl sc_most_apart.nd (i_any (x_var (pv 1))) (blkOk_by (N := ["spans", "found", "number", "other"]) (sc := defScope s_most_apart) (by decide +kernel)) rfl (fun _ _ _ _ _ => (p_name (i := 3) sc_most_apart.nd rfl (.inl rfl))) (fun _ _ _ _ _ => ts_nil) (fun _ _ _ _ _ => (x_callO (ok_are_apart T B) (hr.mono (by decide)) hgd rfl (x_cons (x_ix (x_var (pv 0)) (x_var (pv 2))) (x_cons (x_ix (x_var (pv 0)) (x_var (pv 3))) x_nil)) (la_cons (la_cons la_nil)))))) x_nil))) (z_one (s_expr (x_bm PySem.F.slot_list_append PySem.F.type_list_append m_append (x_var (pv 1)) (x_cons (x_var (pv 2)) x_nil)))) z_nil)))
    (z_one (s_ret (x_callTy c_tuple rfl T.z_tuple bt_tuple (x_cons (x_callB (c_sortedA hr rfl) rfl T.z_sorted bt_sorted (x_cons (x_var (pv 1)) x_nil)) x_nil)))))))
/-! _law_meet(one, two): slots one 0, two 1 -/
def b__law_meet : SF := (sRet (eBin pLt (eAp pMax (aCons (eBin pIdx (eVar 0) (eC (.int 0))) (aCons (eBin pIdx (eVar 1) (eC (.int 0))) aNil))) (eAp pMin (aCons (eBin pIdx (eVar 0) (eC (.int 1))) (aCons (eBin pIdx (eVar 1) (eC (.int 1))) aNil)))))
def m__law_meet : Fn := bodyF 2 b__law_meet
theorem sc__law_meet : FnScope ["one", "two"] ["one", "two"] (defScope s__law_meet) := ⟨rfl, rfl, rfl, by decide +kernel, rfl, by decide +kernel, by decide +kernel⟩
theorem ok__law_meet (T : Txt K mg C) (B : Tb base mg C) : Okd (zt C) P w K mg base 1 "_law_meet" ["one", "two"] m__law_meet := by
  refine okd (k := 0) T.d__law_meet sc__law_meet rfl fun f cdv A outer s H E hgd hr => ?_
  exact (z_one (s_ret (x_cmp o_lt (x_callB (c_max rfl hr) rfl T.z_max bt_max (x_cons (x_ix (x_var (pv 0)) x_int) (x_cons (x_ix (x_var (pv 1)) x_int) x_nil))) (x_callB (c_min rfl hr) rfl T.z_min bt_min (x_cons (x_ix (x_var (pv 0)) x_int) (x_cons (x_ix (x_var (pv 1)) x_int) x_nil))) (nomark _))))
/-! _law_spans(box): slots box 0, spans 1, worths 2, i 3, first 4, n 5, rows 6, taken 7, deep 8, ends 9, last 10, free 11, top 12, due 13, t 14, k 15, row 16, j 17 -/
def l__law_spans1 : SF := (sSeq (sAsg (eBin pSub (eAp m__law_draw (aCons (eVar 0) (aCons (eC (.int 12)) aNil))) (eC (.int 6))) (gNm 4)) (sSeq (sExpr (eBM pAppend (eVar 1) (aCons (eAp pTup (aCons (eVar 4) (aCons (eBin pPlus (eBin pPlus (eVar 4) (eC (.int 1))) (eAp m__law_draw (aCons (eVar 0) (aCons (eC (.int 6)) aNil)))) aNil))) aNil))) (sExpr (eBM pAppend (eVar 2) (aCons (eAp m__law_draw (aCons (eVar 0) (aCons (eC (.int 9)) aNil))) aNil)))))
def e__law_spans2 : EF := (eAp m__law_meet (aCons (eBin pIdx (eVar 1) (eVar 3)) (aCons (eBin pIdx (eVar 1) (eVar 17)) aNil)))
def e__law_spans3 : EF := (eBin pPlus (eVar 16) (eAp pTup (aCons (eVar 3) aNil)))
def t__law_spans4 : TF := (tNotF (tOf (eAp pAny (aCons (eL (nComp (itAny (eVar 16)) (.nm 17) [17] tTrue e__law_spans2)) aNil))))
def l__law_spans5 : SF := (sAsg (eBin pPlus (eVar 6) (eL (nComp (itAny (eVar 6)) (.nm 16) [16] t__law_spans4 e__law_spans3))) (gNm 6))
def k__law_spans6 : EF := (eAp pTup (aCons (eBin pIdx (eBin pIdx (eVar 2) (eVar 0)) (eC (.int 1))) (aCons (eVar 0) aNil)))
def e__law_spans7 : EF := (eAp m__law_meet (aCons (eBin pIdx (eVar 1) (eVar 3)) (aCons (eBin pIdx (eVar 1) (eVar 17)) aNil)))
def l__law_spans8 : SF := (sIf (tNotF (tOf (eAp pAny (aCons (eL (nComp (itAny (eVar 7)) (.nm 17) [17] tTrue e__law_spans7)) aNil)))) (sExpr (eBM pAppend (eVar 7) (aCons (eVar 3) aNil))) sNext)
def e__law_spans9 : EF := (eAp pLen (aCons (eVar 16) aNil))
def e__law_spans10 : EF := (eC (.int 1))
def t__law_spans11 : TF := (tOf (eChain pLe pLt (eVar 4) (eVar 14) (eVar 10)))
def e__law_spans12 : EF := (eAp pLen (aCons (eL (nComp (itAny (eVar 1)) (.tp (.cons (.nm 4) (.cons (.nm 10) .nil))) [4, 10] t__law_spans11 e__law_spans10)) aNil))
def e__law_spans13 : EF := (eVar 15)
def t__law_spans14 : TF := (tOf (eBin pLe (eBin pIdx (eVar 9) (eVar 15)) (eVar 4)))
def l__law_spans15 : SF := (sSeq (sAsg (eL (nComp (itRng1 (aCons (eAp pLen (aCons (eVar 9) aNil)) aNil)) (.nm 15) [15] t__law_spans14 e__law_spans13)) (gNm 11)) (sIf (tOf (eBin pEq (eVar 11) (eL (nLst aNil)))) (sExpr (eBM pAppend (eVar 9) (aCons (eVar 10) aNil))) (sAsg (eVar 10) (gSubF pSet (eVar 9) (eBin pIdx (eVar 11) (eC (.int 0)))))))
def e__law_spans16 : EF := (eBin pIdx (eVar 2) (eVar 3))
def e__law_spans17 : EF := (eAp pSum (aCons (eL (nComp (itAny (eVar 16)) (.nm 3) [3] tTrue e__law_spans16)) aNil))
def e__law_spans18 : EF := (eBin pIdx (eVar 2) (eVar 3))
def e__law_spans19 : EF := (eVar 16)
def t__law_spans20 : TF := (tOf (eBin pEq (eAp pSum (aCons (eL (nComp (itAny (eVar 16)) (.nm 3) [3] tTrue e__law_spans18)) aNil)) (eVar 12)))
def b__law_spans : SF := (sSeq (sParG [1, 2] (aCons (eNew (nLst aNil)) (aCons (eNew (nLst aNil)) aNil))) (sSeq (sFor (itRng1 (aCons (eBin pPlus (eC (.int 1)) (eAp m__law_draw (aCons (eVar 0) (aCons (eC (.int 7)) aNil)))) aNil)) (gNm 3) l__law_spans1) (sSeq (sParG [1, 2] (aCons (eAp pTupleOf (aCons (eVar 1) aNil)) (aCons (eAp pTupleOf (aCons (eVar 2) aNil)) aNil))) (sSeq (sAsg (eAp pLen (aCons (eVar 1) aNil)) (gNm 5)) (sSeq (sAsg (eL (nLst (aCons (eAp pTup aNil) aNil))) (gNm 6)) (sSeq (sFor (itRng1 (aCons (eVar 5) aNil)) (gNm 3) l__law_spans5) (sSeq (sAsg (eNew (nLst aNil)) (gNm 7)) (sSeq (sFor (itAny (eSortKR [false, false, false, true, false, false, false, false, false, false, false, false, false, false, false, false, false, false] k__law_spans6 (aCons (eVar 5) aNil))) (gNm 3) l__law_spans8) (sSeq (sIf (tOrF (tOf (eBin pNe (eAp pRepr (aCons (eAp m_most_apart (aCons (eVar 1) aNil)) aNil)) (eAp pRepr (aCons (eAp pTupleOf (aCons (eAp pSortedA (aCons (eVar 7) aNil)) aNil)) aNil)))) (tOf (eBin pNe (eAp pLen (aCons (eVar 7) aNil)) (eAp pMax (aCons (eL (nComp (itAny (eVar 6)) (.nm 16) [16] tTrue e__law_spans9)) aNil))))) (sRet (eC (.bool false))) sNext) (sSeq (sAsg (eAp pMax (aCons (eL (nComp (itRng2 (aCons (eUn pNeg (eC (.int 7))) (aCons (eC (.int 13)) aNil))) (.nm 14) [14] tTrue e__law_spans12)) aNil)) (gNm 8)) (sSeq (sAsg (eNew (nLst aNil)) (gNm 9)) (sSeq (sFor (itAny (eAp pSortedA (aCons (eVar 1) aNil))) (gP (.tp (.cons (.nm 4) (.cons (.nm 10) .nil)))) l__law_spans15) (sSeq (sIf (tOrF (tOf (eBin pNe (eAp m_fewest_telescopes (aCons (eVar 1) aNil)) (eVar 8))) (tOf (eBin pNe (eAp pLen (aCons (eVar 9) aNil)) (eVar 8)))) (sRet (eC (.bool false))) sNext) (sSeq (sAsg (eAp pMax (aCons (eL (nComp (itAny (eVar 6)) (.nm 16) [16] tTrue e__law_spans17)) aNil)) (gNm 12)) (sSeq (sAsg (eAp pMin (aCons (eL (nComp (itAny (eVar 6)) (.nm 16) [16] t__law_spans20 e__law_spans19)) aNil)) (gNm 13)) (sRet (eBin pEq (eAp pRepr (aCons (eAp m_most_worth_apart (aCons (eVar 1) (aCons (eVar 2) aNil))) aNil)) (eAp pRepr (aCons (eAp pTup (aCons (eVar 12) (aCons (eVar 13) aNil))) aNil)))))))))))))))))))
def m__law_spans : Fn := bodyF 18 b__law_spans
theorem sc__law_spans : FnScope ["box", "spans", "worths", "i", "first", "n", "rows", "taken", "deep", "ends", "last", "free", "top", "due", "t", "k", "row", "j"] ["box"] (defScope s__law_spans) := ⟨rfl, rfl, rfl, by decide +kernel, rfl, by decide +kernel, by decide +kernel⟩
theorem ok__law_spans (T : Txt K mg C) (B : Tb base mg C) : Okd (zt C) P w K mg base 14 "_law_spans" ["box"] m__law_spans := by
  refine okdC (k := 13) T.d__law_spans sc__law_spans rfl fun f A outer s H E hgd hr => ?_
  exact (z_cons (s_parG rfl (x_cons (x_new (n_lst x_nil)) (x_cons (x_new (n_lst x_nil)) x_nil)) (gn_cons (i := 1) sc__law_spans.nd rfl (.inr rfl) (gn_cons (i := 2) sc__law_spans.nd rfl (.inr rfl) gn_nil)))
    (z_cons (s_for PassesOwn.never rfl (i_range1 rfl T.z_range (x_cons (x_bin o_plus x_int (x_callO (ok__law_draw T B) (hr.mono (by decide)) hgd rfl (x_cons (x_var (pv 0)) (x_cons x_int x_nil)) (la_cons (la_cons la_nil)))) x_nil)) (g_name (i := 3) sc__law_spans.nd rfl (.inr rfl))
      (z_cons (s_set (i := 4) sc__law_spans.nd rfl (.inr rfl) (x_bin o_sub (x_callO (ok__law_draw T B) (hr.mono (by decide)) hgd rfl (x_cons (x_var (pv 0)) (x_cons x_int x_nil)) (la_cons (la_cons la_nil))) x_int))
      (z_cons (s_expr (x_bm PySem.F.slot_list_append PySem.F.type_list_append m_append (x_var (pv 1)) (x_cons (x_tup (x_cons (x_var (pv 4)) (x_cons (x_bin o_plus (x_bin o_plus (x_var (pv 4)) x_int) (x_callO (ok__law_draw T B) (hr.mono (by decide)) hgd rfl (x_cons (x_var (pv 0)) (x_cons x_int x_nil)) (la_cons (la_cons la_nil)))) x_nil))) x_nil)))
      (z_one (s_expr (x_bm PySem.F.slot_list_append PySem.F.type_list_append m_append (x_var (pv 2)) (x_cons (x_callO (ok__law_draw T B) (hr.mono (by decide)) hgd rfl (x_cons (x_var (pv 0)) (x_cons x_int x_nil)) (la_cons (la_cons la_nil))) x_nil)))))))
    (z_cons (s_parG rfl (x_cons (x_callTy c_tuple rfl T.z_tuple bt_tuple (x_cons (x_var (pv 1)) x_nil)) (x_cons (x_callTy c_tuple rfl T.z_tuple bt_tuple (x_cons (x_var (pv 2)) x_nil)) x_nil)) (gn_cons (i := 1) sc__law_spans.nd rfl (.inr rfl) (gn_cons (i := 2) sc__law_spans.nd rfl (.inr rfl) gn_nil)))
    (z_cons (s_set (i := 5) sc__law_spans.nd rfl (.inl rfl) (x_callB c_len rfl T.z_len bt_len (x_cons (x_var (pv 1)) x_nil)))
    (z_cons (s_set (i := 6) sc__law_spans.nd rfl (.inl rfl) (x_ofN (n_lst (x_cons (x_tup x_nil) x_nil))))
    (z_cons (s_for PassesOwn.never rfl (i_range1 rfl T.z_range (x_cons (x_var (pv 5)) x_nil)) (g_name (i := 3) sc__law_spans.nd rfl (.inr rfl))
      (z_one (s_set (i := 6) sc__law_spans.nd rfl (.inl rfl) (x_bin o_plus (x_var (pv 6)) (x_ofN (n_comp (own := [("row", 16)]) rfl sc__law_spans.nd (i_any (x_var (pv 6))) (blkOk_by (N := ["box", "spans", "worths", "i", "first", "n", "rows", "taken", "deep", "ends", "last", "free", "top", "due", "t", "k", "row", "j"]) (sc := defScope s__law_spans) (by decide +kernel)) rfl (fun _ _ _ _ _ => (p_name (i := 16) sc__law_spans.nd rfl (.inl rfl))) (fun _ _ _ _ _ => (ts_one (y_not (y_val (x_callB (c_any rfl) rfl T.z_any bt_any (x_cons (x_ofN (n_comp (own := [("j", 17)]) rfl sc__law_spans.nd (i_any (x_var (pv 16))) (blkOk_by (by kernel_rfl)) rfl (fun _ _ _ _ _ => (p_name (i := 17) sc__law_spans.nd rfl (.inl rfl))) (fun _ _ _ _ _ => ts_nil) (fun _ _ _ _ _ => (x_callO (ok__law_meet T B) (hr.mono (by decide)) hgd rfl (x_cons (x_ix (x_var (pv 1)) (x_var (pv 3))) (x_cons (x_ix (x_var (pv 1)) (x_var (pv 17))) x_nil)) (la_cons (la_cons la_nil)))))) x_nil)))))) (fun _ _ _ _ _ => (x_bin o_plus (x_var (pv 16)) (x_tup (x_cons (x_var (pv 3)) x_nil))))))))))
    (z_cons (s_set (i := 7) sc__law_spans.nd rfl (.inl rfl) (x_new (n_lst x_nil)))
    (z_cons (s_for PassesOwn.never rfl (i_any (x_sortKR (k := 10) (bs := [false, false, false, true, false, false, false, false, false, false, false, false, false, false, false, false, false, false]) (fb := k__law_spans6) (p := "i") (c := C.c__law_spans) (P := C.P__law_spans) ⟨B.b__law_spans, rfl, T.mem__law_spans, T.uniq__law_spans, lamP_by (by kernel_rfl), rfl, fun _ _ _ _ _ _ => rfl, (msk_ok (N := ["box", "spans", "worths", "i", "first", "n", "rows", "taken", "deep", "ends", "last", "free", "top", "due", "t", "k", "row", "j"]) (p := "i") (by decide +kernel)), fun A s H f c' hr => (x_tup (x_cons (x_ix (x_ix (x_var (pv 2)) (x_var (pv 0))) x_int) (x_cons (x_var (pv 0)) x_nil)))⟩ rfl (hr.mono (by decide)) rfl T.z_sorted rfl T.z_range (x_cons (x_var (pv 5)) x_nil))) (g_name (i := 3) sc__law_spans.nd rfl (.inr rfl))
      (z_one (s_if (y_not (y_val (x_callB (c_any rfl) rfl T.z_any bt_any (x_cons (x_ofN (n_comp (own := [("j", 17)]) rfl sc__law_spans.nd (i_any (x_var (pv 7))) (blkOk_by (N := ["box", "spans", "worths", "i", "first", "n", "rows", "taken", "deep", "ends", "last", "free", "top", "due", "t", "k", "row", "j"]) (sc := defScope s__law_spans) (by decide +kernel)) rfl (fun _ _ _ _ _ => (p_name (i := 17) sc__law_spans.nd rfl (.inl rfl))) (fun _ _ _ _ _ => ts_nil) (fun _ _ _ _ _ => (x_callO (ok__law_meet T B) (hr.mono (by decide)) hgd rfl (x_cons (x_ix (x_var (pv 1)) (x_var (pv 3))) (x_cons (x_ix (x_var (pv 1)) (x_var (pv 17))) x_nil)) (la_cons (la_cons la_nil)))))) x_nil)))) (z_one (s_expr (x_bm PySem.F.slot_list_append PySem.F.type_list_append m_append (x_var (pv 7)) (x_cons (x_var (pv 3)) x_nil)))) z_nil)))
    (z_cons (s_if (PW.pt (w_or (y_cmp (o_ne hr) (x_callB (c_repr hgd hr) rfl T.z_repr bt_repr (x_cons (x_callO (ok_most_apart T B) (hr.mono (by decide)) hgd rfl (x_cons (x_var (pv 1)) x_nil) (la_cons la_nil)) x_nil)) (x_callB (c_repr hgd hr) rfl T.z_repr bt_repr (x_cons (x_callTy c_tuple rfl T.z_tuple bt_tuple (x_cons (x_callB (c_sortedA hr rfl) rfl T.z_sorted bt_sorted (x_cons (x_var (pv 7)) x_nil)) x_nil)) x_nil)) (nomark _)) (w_or1 (y_cmp (o_ne hr) (x_callB c_len rfl T.z_len bt_len (x_cons (x_var (pv 7)) x_nil)) (x_callB (c_max rfl hr) rfl T.z_max bt_max (x_cons (x_ofN (n_comp (own := [("row", 16)]) rfl sc__law_spans.nd (i_any (x_var (pv 6))) (blkOk_by (N := ["box", "spans", "worths", "i", "first", "n", "rows", "taken", "deep", "ends", "last", "free", "top", "due", "t", "k", "row", "j"]) (sc := defScope s__law_spans) (by decide +kernel)) rfl (fun _ _ _ _ _ => (p_name (i := 16) sc__law_spans.nd rfl (.inl rfl))) (fun _ _ _ _ _ => ts_nil) (fun _ _ _ _ _ => (x_callB c_len rfl T.z_len bt_len (x_cons (x_var (pv 16)) x_nil))))) x_nil)) (nomark _))))) (z_one (s_ret x_bl)) z_nil)
    (z_cons (s_set (i := 8) sc__law_spans.nd rfl (.inl rfl) (x_callB (c_max rfl hr) rfl T.z_max bt_max (x_cons (x_ofN (n_comp (own := [("t", 14)]) rfl sc__law_spans.nd (i_range2 rfl T.z_range (x_cons (x_un u_neg x_int) (x_cons x_int x_nil))) (blkOk_by (N := ["box", "spans", "worths", "i", "first", "n", "rows", "taken", "deep", "ends", "last", "free", "top", "due", "t", "k", "row", "j"]) (sc := defScope s__law_spans) (by decide +kernel)) rfl (fun _ _ _ _ _ => (p_name (i := 14) sc__law_spans.nd rfl (.inr rfl))) (fun _ _ _ _ _ => ts_nil) (fun _ _ _ _ _ => (x_callB c_len rfl T.z_len bt_len (x_cons (x_ofN (n_comp (own := [("first", 4), ("last", 10)]) rfl sc__law_spans.nd (i_any (x_var (pv 1))) (blkOk_by (by kernel_rfl)) rfl (fun _ _ _ _ _ => (p_tup rfl (p_cons (p_name (i := 4) sc__law_spans.nd rfl (.inl rfl)) (p_cons (p_name (i := 10) sc__law_spans.nd rfl (.inl rfl)) p_nil)))) (fun _ _ _ _ _ => (ts_one (y_chain o_le o_lt (x_var (pv 4)) (x_var (pv 14)) (x_var (pv 10))))) (fun _ _ _ _ _ => x_int))) x_nil))))) x_nil)))
    (z_cons (s_set (i := 9) sc__law_spans.nd rfl (.inr rfl) (x_new (n_lst x_nil)))
    (z_cons (s_for PassesOwn.never rfl (i_any (x_callB (c_sortedA hr rfl) rfl T.z_sorted bt_sorted (x_cons (x_var (pv 1)) x_nil))) (gp_ok (p_tup rfl (p_cons (p_name (i := 4) sc__law_spans.nd rfl (.inr rfl)) (p_cons (p_name (i := 10) sc__law_spans.nd rfl (.inl rfl)) p_nil))) ⟨[4, 10], by decide⟩)
      (z_cons (s_setC (i := 11) (own := [("k", 15)]) rfl sc__law_spans.nd rfl rfl (sw_true rfl rfl rfl (by decide +kernel)) (i_range1 rfl T.z_range (x_cons (x_callB c_len rfl T.z_len bt_len (x_cons (x_var (pv 9)) x_nil)) x_nil)) (blkOk_by (N := ["box", "spans", "worths", "i", "first", "n", "rows", "taken", "deep", "ends", "last", "free", "top", "due", "t", "k", "row", "j"]) (sc := defScope s__law_spans) (by decide +kernel)) rfl (fun _ _ _ _ _ => (p_name (i := 15) sc__law_spans.nd rfl (.inl rfl))) (fun _ _ _ _ _ => (ts_one (y_cmp o_le (x_ix (x_var (pv 9)) (x_var (pv 15))) (x_var (pv 4)) (nomark _)))) (fun _ _ _ _ _ => (x_var (pv 15))))
      (z_one (s_if (y_cmp (o_eq hr) (x_var (pv 11)) (x_ofN (n_lst x_nil)) (nomark _)) (z_one (s_expr (x_bm PySem.F.slot_list_append PySem.F.type_list_append m_append (x_var (pv 9)) (x_cons (x_var (pv 10)) x_nil)))) (z_one (s_asg (x_var (pv 10)) (g_sub (x_var (pv 9)) (x_ix (x_var (pv 11)) x_int) set_ok)))))))
    (z_cons (s_if (PW.pt (w_or (y_cmp (o_ne hr) (x_callO (ok_fewest_telescopes T B) (hr.mono (by decide)) hgd rfl (x_cons (x_var (pv 1)) x_nil) (la_cons la_nil)) (x_var (pv 8)) (nomark _)) (w_or1 (y_cmp (o_ne hr) (x_callB c_len rfl T.z_len bt_len (x_cons (x_var (pv 9)) x_nil)) (x_var (pv 8)) (nomark _))))) (z_one (s_ret x_bl)) z_nil)
    (z_cons (s_set (i := 12) sc__law_spans.nd rfl (.inr rfl) (x_callB (c_max rfl hr) rfl T.z_max bt_max (x_cons (x_ofN (n_comp (own := [("row", 16)]) rfl sc__law_spans.nd (i_any (x_var (pv 6))) (blkOk_by (N := ["box", "spans", "worths", "i", "first", "n", "rows", "taken", "deep", "ends", "last", "free", "top", "due", "t", "k", "row", "j"]) (sc := defScope s__law_spans) (by decide +kernel)) rfl (fun _ _ _ _ _ => (p_name (i := 16) sc__law_spans.nd rfl (.inl rfl))) (fun _ _ _ _ _ => ts_nil) (fun _ _ _ _ _ => (x_callB (c_sum rfl) rfl T.z_sum bt_sum (x_cons (x_ofN (n_comp (own := [("i", 3)]) rfl sc__law_spans.nd (i_any (x_var (pv 16))) (blkOk_by (by kernel_rfl)) rfl (fun _ _ _ _ _ => (p_name (i := 3) sc__law_spans.nd rfl (.inl rfl))) (fun _ _ _ _ _ => ts_nil) (fun _ _ _ _ _ => (x_ix (x_var (pv 2)) (x_var (pv 3)))))) x_nil))))) x_nil)))
    (z_cons (s_set (i := 13) sc__law_spans.nd rfl (.inl rfl) (x_callB (c_min rfl hr) rfl T.z_min bt_min (x_cons (x_ofN (n_comp (own := [("row", 16)]) rfl sc__law_spans.nd (i_any (x_var (pv 6))) (blkOk_by (N := ["box", "spans", "worths", "i", "first", "n", "rows", "taken", "deep", "ends", "last", "free", "top", "due", "t", "k", "row", "j"]) (sc := defScope s__law_spans) (by decide +kernel)) rfl (fun _ _ _ _ _ => (p_name (i := 16) sc__law_spans.nd rfl (.inl rfl))) (fun _ _ _ _ _ => (ts_one (y_cmp (o_eq hr) (x_callB (c_sum rfl) rfl T.z_sum bt_sum (x_cons (x_ofN (n_comp (own := [("i", 3)]) rfl sc__law_spans.nd (i_any (x_var (pv 16))) (blkOk_by (by kernel_rfl)) rfl (fun _ _ _ _ _ => (p_name (i := 3) sc__law_spans.nd rfl (.inl rfl))) (fun _ _ _ _ _ => ts_nil) (fun _ _ _ _ _ => (x_ix (x_var (pv 2)) (x_var (pv 3)))))) x_nil)) (x_var (pv 12)) (nomark _)))) (fun _ _ _ _ _ => (x_var (pv 16))))) x_nil)))
    (z_one (s_ret (x_cmp (o_eq hr) (x_callB (c_repr hgd hr) rfl T.z_repr bt_repr (x_cons (x_callO (ok_most_worth_apart T B) (hr.mono (by decide)) hgd rfl (x_cons (x_var (pv 1)) (x_cons (x_var (pv 2)) x_nil)) (la_cons (la_cons la_nil))) x_nil)) (x_callB (c_repr hgd hr) rfl T.z_repr bt_repr (x_cons (x_tup (x_cons (x_var (pv 12)) (x_cons (x_var (pv 13)) x_nil))) x_nil)) (nomark _)))))))))))))))))))
/-! law(script): slots script 0, box 1 -/
def b_law : SF := (sSeq (sAsg (eAp m__law_stream (aCons (eVar 0) (aCons (eC (.int 0)) aNil))) (gNm 1)) (sRet (eOf (tAndF (tOf (eAp m__law_loads (aCons (eVar 1) aNil))) (tOf (eAp m__law_spans (aCons (eVar 1) aNil)))))))
def m_law : Fn := bodyF 2 b_law
theorem sc_law : FnScope ["script", "box"] ["script"] (defScope s_law) := ⟨rfl, rfl, rfl, by decide +kernel, rfl, by decide +kernel, by decide +kernel⟩
theorem ok_law (T : Txt K mg C) (B : Tb base mg C) : Okd (zt C) P w K mg base 15 "law" ["script"] m_law := by
  refine okd (k := 14) T.d_law sc_law rfl fun f cdv A outer s H E hgd hr => ?_
  exact (z_cons (s_set (i := 1) sc_law.nd rfl (.inl rfl) (x_callO (ok__law_stream T B) (hr.mono (by decide)) hgd rfl (x_cons (x_var (pv 0)) (x_cons x_int x_nil)) (la_cons (la_cons la_nil))))
    (z_one (s_ret (x_and (x_eOf (x_callO (ok__law_loads T B) (hr.mono (by decide)) hgd rfl (x_cons (x_var (pv 1)) x_nil) (la_cons la_nil))) (x_and1 (x_eOf (x_callO (ok__law_spans T B) (hr.mono (by decide)) hgd rfl (x_cons (x_var (pv 1)) x_nil) (la_cons la_nil))))))))
end
theorem end_ {P : Program} {w : World} {K : PySem.W.Frag} {mg : Str → Option Value} {fa : Addr} {h : Heap} {C : Cd} (X : K.In h) (T : Txt K mg C) (TA : TabsAt K h (cst C)) (hmg : mg "law" = some (.ref fa)) :
    ∃ (K : PySem.W.Frag) (fd : FuncData) (cs : List (Addr × Addr × Str)), K.In h ∧ TabsAt K h cs ∧ (∀ (s : Shared) (u : Value), BindsTo s fd ⟨[u], []⟩ [("script", u)]) ∧ ∀ base : Heap, K.In base → base.Ns mainGlobals mg → (∀ p ∈ cs, LamX.TabB base mg p.1 p.2.1) → FnG P w K mg base 15 fa fd ["script"] (spF (tabT cs) K 1 m_law) :=
  endO X T.d_law TA (fun base TB => ok_law (base := base) T ⟨TB (C.c_most_from, C.P_most_from, lq "most_from") (by simp [cst]), TB (C.c_most_apart, C.P_most_apart, lq "most_apart") (by simp [cst]), TB (C.c__law_spans, C.P__law_spans, lq "_law_spans") (by simp [cst])⟩) hmg
theorem fin {P : Program} {w : World} {K0 : PySem.W.Frag} {mg : Str → Option Value} {fa : Addr} {h : Heap} {c_most_from P_most_from : Addr} {oc_most_from : Value} {od_most_from : Option Addr} {vs_most_from : Array Value} {os_most_from : Array (Option Value)} {c_most_apart P_most_apart : Addr} {oc_most_apart : Value} {od_most_apart : Option Addr} {vs_most_apart : Array Value} {os_most_apart : Array (Option Value)} {c__law_spans P__law_spans : Addr} {oc__law_spans : Value} {od__law_spans : Option Addr} {vs__law_spans : Array Value} {os__law_spans : Array (Option Value)} (X : K0.In h) (hmg : mg "law" = some (.ref fa))
    (d_most_from : HasCode (cutK K0 [P_most_from, P_most_apart, P__law_spans]) mg "most_from" "most_from" s_most_from ["spans", "worths", "some"] c_most_from) (lc_most_from : K0.lookup c_most_from = some ⟨oc_most_from, od_most_from, .fields vs_most_from, os_most_from⟩) (hp_most_from : (vs_most_from[11]? : Option Value) = some (.ref P_most_from)) (hd_most_from : PySem.W.codeHdIn K0 c_most_from P_most_from = true) (tT_most_from : h.get? P_most_from = some { cls := .none, data := .fields #[] })
    (d_most_apart : HasCode (cutK K0 [P_most_from, P_most_apart, P__law_spans]) mg "most_apart" "most_apart" s_most_apart ["spans"] c_most_apart) (lc_most_apart : K0.lookup c_most_apart = some ⟨oc_most_apart, od_most_apart, .fields vs_most_apart, os_most_apart⟩) (hp_most_apart : (vs_most_apart[11]? : Option Value) = some (.ref P_most_apart)) (hd_most_apart : PySem.W.codeHdIn K0 c_most_apart P_most_apart = true) (tT_most_apart : h.get? P_most_apart = some { cls := .none, data := .fields #[] })
    (d__law_spans : HasCode (cutK K0 [P_most_from, P_most_apart, P__law_spans]) mg "_law_spans" "_law_spans" s__law_spans ["box"] c__law_spans) (lc__law_spans : K0.lookup c__law_spans = some ⟨oc__law_spans, od__law_spans, .fields vs__law_spans, os__law_spans⟩) (hp__law_spans : (vs__law_spans[11]? : Option Value) = some (.ref P__law_spans)) (hd__law_spans : PySem.W.codeHdIn K0 c__law_spans P__law_spans = true) (tT__law_spans : h.get? P__law_spans = some { cls := .none, data := .fields #[] })
    (nd : ([P_most_from, P_most_apart, P__law_spans] : List Addr).Nodup)
    (d__law_cell : HasDef (cutK K0 [P_most_from, P_most_apart, P__law_spans]) mg "_law_cell" "_law_cell" s__law_cell ["script", "k"])
    (d__law_stream : HasDef (cutK K0 [P_most_from, P_most_apart, P__law_spans]) mg "_law_stream" "_law_stream" s__law_stream ["script", "k"])
    (d__law_turn : HasDef (cutK K0 [P_most_from, P_most_apart, P__law_spans]) mg "_law_turn" "_law_turn" s__law_turn ["m", "lengths"])
    (d__law_least : HasDef (cutK K0 [P_most_from, P_most_apart, P__law_spans]) mg "_law_least" "_law_least" s__law_least ["m", "lengths"])
    (d__law_lowest : HasDef (cutK K0 [P_most_from, P_most_apart, P__law_spans]) mg "_law_lowest" "_law_lowest" s__law_lowest ["n", "d"])
    (d__law_draw : HasDef (cutK K0 [P_most_from, P_most_apart, P__law_spans]) mg "_law_draw" "_law_draw" s__law_draw ["box", "many"])
    (d__law_more : HasDef (cutK K0 [P_most_from, P_most_apart, P__law_spans]) mg "_law_more" "_law_more" s__law_more ["one", "two"])
    (d_is_integer : HasDef (cutK K0 [P_most_from, P_most_apart, P__law_spans]) mg "is_integer" "is_integer" s_is_integer ["thing"])
    (d_is_between : HasDef (cutK K0 [P_most_from, P_most_apart, P__law_spans]) mg "is_between" "is_between" s_is_between ["thing", "low", "high"])
    (d_check_jobs_on : HasDef (cutK K0 [P_most_from, P_most_apart, P__law_spans]) mg "check_jobs_on" "check_jobs_on" s_check_jobs_on ["m", "lengths"])
    (d_least_load : HasDef (cutK K0 [P_most_from, P_most_apart, P__law_spans]) mg "least_load" "least_load" s_least_load ["m", "lengths"])
    (d_in_turn : HasDef (cutK K0 [P_most_from, P_most_apart, P__law_spans]) mg "in_turn" "in_turn" s_in_turn ["m", "lengths"])
    (d_common : HasDef (cutK K0 [P_most_from, P_most_apart, P__law_spans]) mg "common" "common" s_common ["one", "other"])
    (d_fraction : HasDef (cutK K0 [P_most_from, P_most_apart, P__law_spans]) mg "fraction" "fraction" s_fraction ["n", "d"])
    (d_least_parted : HasDef (cutK K0 [P_most_from, P_most_apart, P__law_spans]) mg "least_parted" "least_parted" s_least_parted ["m", "lengths"])
    (d__law_loads : HasDef (cutK K0 [P_most_from, P_most_apart, P__law_spans]) mg "_law_loads" "_law_loads" s__law_loads ["box"])
    (d_span_holds : HasDef (cutK K0 [P_most_from, P_most_apart, P__law_spans]) mg "span_holds" "span_holds" s_span_holds ["span"])
    (d_check_spans : HasDef (cutK K0 [P_most_from, P_most_apart, P__law_spans]) mg "check_spans" "check_spans" s_check_spans ["spans"])
    (d_fewest_telescopes : HasDef (cutK K0 [P_most_from, P_most_apart, P__law_spans]) mg "fewest_telescopes" "fewest_telescopes" s_fewest_telescopes ["spans"])
    (d_are_apart : HasDef (cutK K0 [P_most_from, P_most_apart, P__law_spans]) mg "are_apart" "are_apart" s_are_apart ["one", "other"])
    (d_most_worth_apart : HasDef (cutK K0 [P_most_from, P_most_apart, P__law_spans]) mg "most_worth_apart" "most_worth_apart" s_most_worth_apart ["spans", "worths"])
    (d__law_meet : HasDef (cutK K0 [P_most_from, P_most_apart, P__law_spans]) mg "_law_meet" "_law_meet" s__law_meet ["one", "two"])
    (d_law : HasDef (cutK K0 [P_most_from, P_most_apart, P__law_spans]) mg "law" "law" s_law ["script"])
    (k_MOST_JOBS : ∃ t, mg "MOST_JOBS" = some (.int 10 t))
    (k_MOST_LONG : ∃ t, mg "MOST_LONG" = some (.int 1000 t))
    (k_MOST_NUMBER : ∃ t, mg "MOST_NUMBER" = some (.int 1000 t))
    (k_MOST_SPANS : ∃ t, mg "MOST_SPANS" = some (.int 20 t))
    (k_MOST_TELESCOPES : ∃ t, mg "MOST_TELESCOPES" = some (.int 4 t))
    (z_abs : mg "abs" = none)
    (z_all : mg "all" = none)
    (z_any : mg "any" = none)
    (z_bool : mg "bool" = none)
    (z_int : mg "int" = none)
    (z_isinstance : mg "isinstance" = none)
    (z_len : mg "len" = none)
    (z_list : mg "list" = none)
    (z_max : mg "max" = none)
    (z_min : mg "min" = none)
    (z_range : mg "range" = none)
    (z_repr : mg "repr" = none)
    (z_sorted : mg "sorted" = none)
    (z_sum : mg "sum" = none)
    (z_tuple : mg "tuple" = none) :
    ∃ (K : PySem.W.Frag) (fd : FuncData) (cs : List (Addr × Addr × Str)), K.In h ∧ TabsAt K h cs ∧ (∀ (s : Shared) (u : Value), BindsTo s fd ⟨[u], []⟩ [("script", u)]) ∧ ∀ base : Heap, K.In base → base.Ns mainGlobals mg → (∀ p ∈ cs, LamX.TabB base mg p.1 p.2.1) → FnG P w K mg base 15 fa fd ["script"] (spF (tabT cs) K 1 m_law) := by
  have nd2 : ((cst ⟨c_most_from, P_most_from, c_most_apart, P_most_apart, c__law_spans, P__law_spans⟩).map fun p => p.2.1).Nodup := nd
  refine end_ (C := ⟨c_most_from, P_most_from, c_most_apart, P_most_apart, c__law_spans, P__law_spans⟩) (cutK_In X) ⟨d__law_cell, d__law_stream, d__law_turn, d__law_least, d__law_lowest, d__law_draw, d__law_more, d_is_integer, d_is_between, d_check_jobs_on, d_least_load, d_in_turn, d_common, d_fraction, d_least_parted, d__law_loads, d_span_holds, d_check_spans, d_fewest_telescopes, d_most_from, (by simp [zt]), (tab_uniq (zt ⟨c_most_from, P_most_from, c_most_apart, P_most_apart, c__law_spans, P__law_spans⟩) nd (by simp [zt])), d_are_apart, d_most_worth_apart, d_most_apart, (by simp [zt]), (tab_uniq (zt ⟨c_most_from, P_most_from, c_most_apart, P_most_apart, c__law_spans, P__law_spans⟩) nd (by simp [zt])), d__law_meet, d__law_spans, (by simp [zt]), (tab_uniq (zt ⟨c_most_from, P_most_from, c_most_apart, P_most_apart, c__law_spans, P__law_spans⟩) nd (by simp [zt])), d_law, k_MOST_JOBS, k_MOST_LONG, k_MOST_NUMBER, k_MOST_SPANS, k_MOST_TELESCOPES, z_abs, z_all, z_any, z_bool, z_int, z_isinstance, z_len, z_list, z_max, z_min, z_range, z_repr, z_sorted, z_sum, z_tuple⟩ ⟨?_, ?_, ?_, nd2⟩ hmg
  · intro p hp; simp only [cst, List.mem_cons, List.not_mem_nil, or_false] at hp; rcases hp with rfl | rfl | rfl
    · exact tT_most_from
    · exact tT_most_apart
    · exact tT__law_spans
  · intro p hp; refine cutK_none ?_; simp only [cst, List.mem_cons, List.not_mem_nil, or_false] at hp; rcases hp with rfl | rfl | rfl <;> simp
  · intro p hp; simp only [cst, List.mem_cons, List.not_mem_nil, or_false] at hp; rcases hp with rfl | rfl | rfl
    · exact PySem.W.codeHd_of_K X hd_most_from
    · exact PySem.W.codeHd_of_K X hd_most_apart
    · exact PySem.W.codeHd_of_K X hd__law_spans
end L36

set_option Elab.async false
set_option linter.all false
set_option maxRecDepth 100000
namespace L36
open PySem PySem.Spec PyProof.Rows L2 Ev Qa
section
variable {m : M} {n d : Int} {x y : Rat}
theorem fuel_ok {k : Nat} (h : 2 * k + 1 ≤ 999999) : 2 * k + 1 ≤ 999999 := h
theorem pmd_nat {a b : Nat} (h : 0 < b) : pMod (.val (.int (a : Int))) (.val (.int (b : Int))) m = some (.val (.int ((a % b : Nat) : Int)), m) := by
  rw [pmd_ii (by omega)]
  push_cast
  rfl
theorem common_ok {b : Nat} (hp : 0 < b) (hb : b < 2 ^ 4000) : m_common [.val (.int n), .val (.int b)] m = some (.val (.int (Int.gcd n b : Nat)), m) := by
  have h := gcd_loop (c := c_common2) (body := w_common1) (m := m) (fun a b => [some (.val (.int a)), some (.val (.int b))])
    (fun a b => by simp [c_common2])
    (fun a b h => by simp only [w_common1, ev_par, ev_cons, ev_nil, ev_varS, ev_var0, ev_bin, ob_some, pmd_nat h, List.set_cons_succ, List.set_cons_zero]) 4000 999999 b (n % (b : Int)).toNat
    (by have := Int.emod_lt_of_pos n (show (0 : Int) < b by omega); have := Int.emod_nonneg n (show (b : Int) ≠ 0 by omega); omega) (by decide)
  have hn := Int.emod_nonneg n (show (b : Int) ≠ 0 by omega)
  have e1 : (((n % (b : Int)).toNat : Nat) : Int) = n % (b : Int) := by omega
  have hw : wloop c_common2 w_common1 fuel [some (.val (.int n)), some (.val (.int b))] m = some (.nx [some (.val (.int (Nat.gcd b (n % (b : Int)).toNat : Nat))), some (.val (.int 0))] m) := by
    have f : fuel = 999999 + 1 := rfl
    rw [f]
    unfold wloop
    have hp' : (0 : Int) < (b : Int) := by omega
    simp only [c_common2, ev_tOf, ev_bin, ev_varS, ev_var0, ev_c, ob_some, pgt_ii, ev_asB, hp', decide_true, if_true, w_common1, ev_par, ev_cons, ev_nil, pmd_ii hp', List.set_cons_succ, List.set_cons_zero, ev_aft_nx]
    simp only [e1] at h
    exact h
  have e2 : Nat.gcd b (n % (b : Int)).toNat = Int.gcd n b := by
    have e3 : Int.gcd n b = Int.gcd (b : Int) (n % (b : Int)) := by
      rw [Int.gcd_comm n]
      rw [Int.emod_def, Int.gcd_sub_mul_left_right]
    rw [e3]
    unfold Int.gcd
    congr 1
    omega
  rw [e2] at hw
  simp only [m_common, bodyF, b_common, List.map_cons, List.map_nil, List.length_cons, List.length_nil, Nat.reduceAdd, Nat.reduceSub, List.replicate, List.append_nil, ev_seq, hw, ob_some, ev_then_nx]
  simp [leave]
theorem fraction_ok (hd : 0 < d) (hd2 : Sz 4000 d) : m_fraction [.val (.int n), .val (.int d)] m = some (.val (encQ ((n : Rat) / (d : Rat))), m) := by
  obtain ⟨b, rfl⟩ : ∃ b : Nat, d = b := ⟨d.toNat, by omega⟩
  have hb : 0 < b := by omega
  have h1 := common_ok (m := m) (n := n) hb (by unfold Sz at hd2; omega)
  obtain ⟨e1, e2⟩ := low_num n b hd
  have hg : (0 : Int) < ((Int.gcd n b : Nat) : Int) := by
    have : 0 < Int.gcd n b := Int.gcd_pos_of_ne_zero_right n (by omega)
    omega
  have hg2 : Sz 4000 ((Int.gcd n b : Nat) : Int) := by
    unfold Sz at *
    have : Int.gcd n b ≤ b := Nat.le_of_dvd hb (by
      have := Int.gcd_dvd_right n b
      exact_mod_cast this)
    omega
  simp only [m_fraction, bodyF, b_fraction, List.map_cons, List.map_nil, List.length_cons, List.length_nil, Nat.reduceAdd, Nat.reduceSub, List.replicate, List.cons_append, List.nil_append, ev_seq, ev_asg, ev_ap, ev_cons, ev_nil, ev_varS, ev_var0, ob_some, h1, ev_gNm, List.set_cons_succ, List.set_cons_zero, ev_then_nx, ev_ret, ev_bin,
    pdv_sz hg hg2 (by decide), ev_pTup, ev_valsC, ev_vals0]
  rw [e1, e2]
  simp [leave, encQ]
theorem sz_mul2 {i j : Int} (a : Sz 1000 i) (b : Sz 1000 j) : Sz 4000 (i * j) := (a.mul b).up (by decide)
theorem sz_cross {x y : Rat} (a : SmQ x) (b : SmQ y) : Sz 4000 (x.num * y.den + y.num * x.den) := ((a.num.mul b.den).add (b.num.mul a.den)).up (by decide)
theorem mulQ {k l : Int} (a : Sz 1000 k) (b : Sz 1000 l) : pMul (.val (.int k)) (.val (.int l)) m = some (.val (.int (k * l)), m) := pm_sz a b (by decide)
theorem den_mul_pos (x y : Rat) : (0 : Int) < (x.den : Int) * (y.den : Int) := Int.mul_pos (den_pos x) (den_pos y)
theorem SmQ.neg (a : SmQ x) : SmQ (-x) := ⟨a.num.neg, a.den⟩
theorem more_ok (a : SmQ x) (b : SmQ y) : m__law_more [.val (encQ x), .val (encQ y)] m = some (.val (.bool (decide (y < x))), m) := by
  simp only [m__law_more, bodyF, b__law_more, List.map_cons, List.map_nil, List.length_cons, List.length_nil, Nat.reduceAdd, Nat.reduceSub, List.replicate, List.append_nil, ev_ret, ev_ap, ev_cons, ev_nil, ev_bin, ev_varS, ev_var0, ev_c, ob_some, encQ, pix_t, atI_0, atI_1, mulQ a.num b.den, mulQ b.num a.den, pgt_ii]
  simp [leave, Rat.lt_iff]
theorem lowest_ok (hd : 0 < d) (hd2 : Sz 4000 d) : m__law_lowest [.val (.int n), .val (.int d)] m = some (.val (encQ ((n : Rat) / (d : Rat))), m) := by
  obtain ⟨b, rfl⟩ : ∃ b : Nat, d = b := ⟨d.toNat, by omega⟩
  have hb : 0 < b := by omega
  have hb2 : b < 2 ^ 4000 := by unfold Sz at hd2; omega
  have h := gcd_loop (c := c__law_lowest2) (body := w__law_lowest1) (m := m) (fun u v => [some (.val (.int n)), some (.val (.int b)), some (.val (.int u)), some (.val (.int v))])
    (fun a b => by simp [c__law_lowest2])
    (fun u v h => by simp only [w__law_lowest1, ev_par, ev_cons, ev_nil, ev_varS, ev_var0, ev_bin, ob_some, pmd_nat h, List.set_cons_succ, List.set_cons_zero]) 4000 fuel n.natAbs b hb2 (by decide)
  obtain ⟨e1, e2⟩ := low_num n b hd
  have hg0 : Nat.gcd n.natAbs b = Int.gcd n b := rfl
  have hg : (0 : Int) < ((Int.gcd n b : Nat) : Int) := by
    have : 0 < Int.gcd n b := Int.gcd_pos_of_ne_zero_right n (by omega)
    omega
  have hg2 : Sz 4000 ((Int.gcd n b : Nat) : Int) := by
    unfold Sz
    have : Int.gcd n b ≤ b := Nat.le_of_dvd hb (by
      have := Int.gcd_dvd_right n b
      exact_mod_cast this)
    omega
  have a1 : (if n < 0 then -n else n) = ((n.natAbs : Nat) : Int) := by omega
  have a2 : (if ((b : Nat) : Int) < 0 then -((b : Nat) : Int) else ((b : Nat) : Int)) = ((b : Nat) : Int) := by omega
  simp only [m__law_lowest, bodyF, b__law_lowest, List.map_cons, List.map_nil, List.length_cons, List.length_nil, Nat.reduceAdd, Nat.reduceSub, List.replicate, List.cons_append, List.nil_append, ev_seq, ev_par, ev_ap, ev_cons, ev_nil, ev_varS, ev_var0, ob_some, pabs_i, a1, a2, List.set_cons_succ, List.set_cons_zero, ev_then_nx, h, hg0]
  simp only [ev_asg, ev_eIf, ev_tOf, ev_bin, ev_varS, ev_var0, ev_c, ob_some, pgt_ii, ev_asB, hd, decide_true, if_true, ev_gNm, List.set_cons_succ, List.set_cons_zero, ev_then_nx, ev_ret, ev_ap, ev_cons, ev_nil, pdv_sz hg hg2 (by decide), ev_pTup, ev_valsC, ev_vals0]
  rw [e1, e2]
  simp [leave, encQ]
end
end L36

set_option Elab.async false
set_option linter.all false
set_option maxRecDepth 100000
namespace L36
open PySem PySem.Spec PyProof.Rows L2 Ev Qa
def Bx (rest : M) (m : M) : Prop := ∃ a b : Int, m = .lst [.int a, .int b] :: rest ∧ 0 ≤ a ∧ 0 ≤ b ∧ b < 4294967296
theorem draw {rest m : M} {k : Int} (h : Bx rest m) (hk : 0 < k) (hk2 : k < 1000000) : ∃ d m', m__law_draw [.ref 0, .val (.int k)] m = some (.val (.int d), m') ∧ 0 ≤ d ∧ d < k ∧ Bx rest m' := by
  obtain ⟨a, b, rfl, ha, hb, hb2⟩ := h
  have e1 : ∀ (x y : Int) (i : Int), pIdx (.ref 0) (.val (.int i)) (.lst [.int x, .int y] :: rest) = (atI [PyData.int x, .int y] i).bind fun d => some (.val d, .lst [.int x, .int y] :: rest) := fun x y i => pix_r rfl
  have e2 : ∀ (x y : Int) (i z : Int), pSet (.ref 0) (.val (.int i)) (.val (.int z)) (.lst [.int x, .int y] :: rest) = (ixN 2 i).bind fun j => some (.lst ([PyData.int x, .int y].set j (.int z)) :: rest) := fun x y i z => pset_r (m := .lst [.int x, .int y] :: rest) (k := 0) (ds := [.int x, .int y]) rfl
  by_cases h0 : 0 < a
  · refine ⟨a % k, .lst [.int (a / k), .int b] :: rest, ?_, Int.emod_nonneg _ (by omega), Int.emod_lt_of_pos _ hk, _, _, rfl, Int.ediv_nonneg ha (by omega), hb, hb2⟩
    simp [m__law_draw, bodyF, b__law_draw, e1, e2, h0, pmd_ii hk, pdv_ii hk (show k < 18446744073709551616 by omega), show ixN 2 (0 : Int) = some 0 from rfl, leave]
  · have hm : 0 ≤ (b * 48271 + 12345) % 2147483647 := Int.emod_nonneg _ (by decide)
    have hm2 : (b * 48271 + 12345) % 2147483647 < 2147483647 := Int.emod_lt_of_pos _ (by decide)
    refine ⟨((b * 48271 + 12345) % 2147483647) / 64 % k, .lst [.int a, .int ((b * 48271 + 12345) % 2147483647)] :: rest, ?_, Int.emod_nonneg _ (by omega), Int.emod_lt_of_pos _ hk, _, _, rfl, ha, hm, by omega⟩
    simp [m__law_draw, bodyF, b__law_draw, e1, e2, h0, pmd_ii hk, pmd_ii, pdv_ii, pm_ii (i := b) (j := 48271) (by omega) (by decide), show ixN 2 (1 : Int) = some 1 from rfl, leave]
/-- the same, natural -/
theorem drawN {rest m : M} {k : Nat} (h : Bx rest m) (hk : 0 < k) (hk2 : k < 1000000) : ∃ (d : Nat) (m' : M), m__law_draw [.ref 0, .val (.int (k : Int))] m = some (.val (.int (d : Int)), m') ∧ d < k ∧ Bx rest m' := by
  obtain ⟨d, m', h1, h2, h3, h4⟩ := draw h (k := (k : Int)) (by omega) (by omega)
  refine ⟨d.toNat, m', ?_, by omega, h4⟩
  rw [h1]
  have : ((d.toNat : Nat) : Int) = d := by omega
  rw [this]
section
variable {m : M}
@[simp] theorem is_int_i {i : Int} : m_is_integer [.val (.int i)] m = some (.val (.bool true), m) := by
  simp [m_is_integer, bodyF, b_is_integer, isA, leave]
@[simp] theorem is_bet_i {i lo hi : Int} : m_is_between [.val (.int i), .val (.int lo), .val (.int hi)] m = some (.val (.bool (decide (lo ≤ i ∧ i ≤ hi))), m) := by
  by_cases h : lo ≤ i <;> simp [m_is_between, bodyF, b_is_between, leave, h]
end
/-! the store's end -/
section
variable {m : M} {a b c : Ob} {l : M}
theorem g0 : (m ++ a :: l)[m.length]? = some a := by simp
theorem g1 : (m ++ a :: b :: l)[m.length + 1]? = some b := by
  rw [List.getElem?_append_right (by omega)]
  simp
theorem s0 {x : Ob} : (m ++ a :: l).set m.length x = m ++ x :: l := by
  induction m with
  | nil => rfl
  | cons y m ih => exact congrArg (y :: ·) ih
theorem s1 {x : Ob} : (m ++ a :: b :: l).set (m.length + 1) x = m ++ a :: x :: l := by
  induction m with
  | nil => rfl
  | cons y m ih => exact congrArg (y :: ·) ih
theorem l1 : (m ++ [a]).length = m.length + 1 := by simp
theorem tk {l : M} : (m ++ l).take m.length = m := by simp
end
end L36

set_option Elab.async false
set_option linter.all false
set_option maxRecDepth 100000
namespace L36
open PySem PySem.Spec PyProof.Rows L2 Ev Qa Ld
/-- jobs -/
structure Jb (n : Nat) (ls : List Nat) : Prop where
  n1 : 1 ≤ n
  n3 : n ≤ 4
  l1 : 1 ≤ ls.length
  l10 : ls.length ≤ 10
  ge : ∀ l ∈ ls, 1 ≤ l
  le : ∀ l ∈ ls, l ≤ 1000
section
variable {m : M} {n : Nat} {ls : List Nat}
theorem check_jobs_ok (J : Jb n ls) : m_check_jobs_on [.val (.int (n : Int)), .val (encT ls)] m = some (.val .none, m) := by
  have hc : ∀ e0 e1, clpL (.nm 2) tTrue e_check_jobs_on1 [e0, e1, none] (ls.map fun a : Nat => PyData.int a) m = some (ls.map fun _ => .bool true, m) := fun e0 e1 =>
    clpL_all (fun a : Nat => PyData.int a) (fun _ => .bool true) ls fun a ha => ⟨_, rfl, by
      have h1 := J.ge a ha
      have h2 := J.le a ha
      have d1 : (1 : Int) ≤ (a : Int) := by omega
      have d2 : (a : Int) ≤ 1000 := by omega
      simp [e_check_jobs_on1, d1, d2]⟩
  have hl : (ls.map fun a : Nat => PyData.int a).length ≤ 16777216 := by
    rw [List.length_map]
    have := J.l10
    omega
  have h1 : (1 : Int) ≤ ls.length := by have := J.l1; omega
  have h2 : (ls.length : Int) ≤ 10 := by have := J.l10; omega
  have h3 : (1 : Int) ≤ n := by have := J.n1; omega
  have h4 : (n : Int) ≤ 4 := by have := J.n3; omega
  simp [m_check_jobs_on, bodyF, b_check_jobs_on, encT, encI, isA, runC_iL hl, wipeE, hc, pall_l ls fun _ => true, h1, h2, h3, h4]
/-- the telescopes in turn -/
def fnd : List Nat → List Nat → List Nat
  | v, [] => []
  | v, l :: ls => v.idxOf (mn v) :: fnd (stp v l) ls
theorem fnd_len : ∀ (ls v : List Nat), (fnd v ls).length = ls.length
  | [], _ => rfl
  | l :: ls, v => by simp [fnd, fnd_len ls]
theorem at_mn {v : List Nat} (h : v ≠ []) : v[v.idxOf (mn v)]? = some (mn v) := by
  have hi := List.idxOf_lt_length_of_mem (mn_mem h)
  rw [List.getElem?_eq_getElem hi, List.getElem_idxOf hi]
theorem idx_lt {v : List Nat} (h : v ≠ []) : v.idxOf (mn v) < v.length := List.idxOf_lt_length_of_mem (mn_mem h)
theorem fnd_lt : ∀ (ls v : List Nat), v ≠ [] → ∀ i ∈ fnd v ls, i < v.length
  | [], _, _, i, h => by cases h
  | l :: ls, v, hv, i, h => by
    rcases List.mem_cons.mp h with q | q
    · rw [q]; exact idx_lt hv
    · have := fnd_lt ls (stp v l) (stp_ne hv l) i q
      rwa [stp_len] at this
theorem lturn_step {v f : List Nat} {l : Nat} {e0 e1 e5 : Option R} (hv : v ≠ []) (hf : f.length < 16777216) : l__law_turn1 [e0, e1, some (.ref m.length), some (.ref (m.length + 1)), some (.val (.int (l : Int))), e5] (m ++ [.lst (encI v), .lst (encI f)]) =
    some (.nx [e0, e1, some (.ref m.length), some (.ref (m.length + 1)), some (.val (.int (l : Int))), some (.val (.int ((v.idxOf (mn v) : Nat) : Int)))] (m ++ [.lst (encI (stp v l)), .lst (encI (f ++ [v.idxOf (mn v)]))])) := by
  have gv : (m ++ [Ob.lst (encI v), .lst (encI f)])[m.length]? = some (.lst (encI v)) := g0
  have a0 := asL_r gv
  have p1 : pMin [.ref m.length] (m ++ [Ob.lst (encI v), .lst (encI f)]) = some (.val (.int ((mn v : Nat) : Int)), m ++ [Ob.lst (encI v), .lst (encI f)]) := pmin_N (asLT_r gv) hv
  have p2 := pidx_N gv (mn_mem hv)
  have p3 := pix_rN gv (at_mn hv)
  have p4 := pset_rN (a := mn v + l) gv (idx_lt hv)
  rw [s0] at p4
  have gf : (m ++ [Ob.lst (encI (stp v l)), .lst (encI f)])[m.length + 1]? = some (.lst (encI f)) := g1
  have p5 := papp_r (d := .int ((v.idxOf (mn v) : Nat) : Int)) gf (by rw [encI_len]; exact hf)
  rw [s1] at p5
  have e5 : encI f ++ [PyData.int ((v.idxOf (mn v) : Nat) : Int)] = encI (f ++ [v.idxOf (mn v)]) := by unfold encI; simp
  rw [e5] at p5
  have a5 := asL_r gf
  have e4 : v.set (v.idxOf (mn v)) (mn v + l) = stp v l := rfl
  rw [e4, Int.natCast_add] at p4
  simp only [l__law_turn1, ev_seq, ev_asg, ev_par, ev_if, ev_ret, ev_retN, ev_expr, ev_bin, ev_un, ev_ap, ev_cons, ev_nil, ev_varS, ev_var0, ev_c, ob_some, ev_gNm, ev_tOf, ev_asB, ev_asI, ev_tNot, ev_tAnd, ev_tOr, ev_eOf, ev_eIf, ev_chain, List.set_cons_succ, List.set_cons_zero, ev_then_nx, ev_then_rt, ev_next, ev_pTup, ev_valsC, ev_vals0, ev_eL, ev_bm, ev_aug, pix_t, pix_l, pixq0, pixq1, atI_0, atI_1, atI_2, pp_ii, ps_ii, pa_ii, plt_ii, ple_ii, pgt_ii, pge_ii, peq_ii, pne_ii, pneg_i, List.length_cons, List.length_nil, Nat.reduceAdd, Nat.reduceSub, Nat.reduceLeDiff, sz, if_true, Bool.false_eq_true, if_false, Bool.not_true, Bool.not_false, leave_v, List.take_length, plen_t, plen_l, ptup_l, ptup_t, pint_i, pis_n, pis_i, pis_t, pisnt_n, pisnt_i, pisnt_t, Int.cast_ofNat_Int, ne_eq, not_true_eq_false, not_false_eq_true, decide_true, decide_false, ev_sub, a0, p1, p2, p3, p4, p5, a5]
theorem lturn_loop {e0 e1 : Option R} : ∀ (ls v f : List Nat) (e4 e5 : Option R), v ≠ [] → f.length + ls.length < 16777216 → ∃ e4' e5', loopL (gNm 4) l__law_turn1 (encI ls) [e0, e1, some (.ref m.length), some (.ref (m.length + 1)), e4, e5] (m ++ [.lst (encI v), .lst (encI f)]) =
    some (.nx [e0, e1, some (.ref m.length), some (.ref (m.length + 1)), e4', e5'] (m ++ [.lst (encI (runT v ls)), .lst (encI (f ++ fnd v ls))]))
  | [], v, f, e4, e5, hv, hl => ⟨e4, e5, by simp [encI, fnd, runT]⟩
  | l :: ls, v, f, e4, e5, hv, hl => by
    rw [List.length_cons] at hl
    obtain ⟨e4', e5', h⟩ := lturn_loop (e0 := e0) (e1 := e1) ls (stp v l) (f ++ [v.idxOf (mn v)]) (some (.val (.int (l : Int)))) (some (.val (.int ((v.idxOf (mn v) : Nat) : Int)))) (stp_ne hv l) (by simp; omega)
    refine ⟨e4', e5', ?_⟩
    have e : encI (l :: ls) = .int (l : Int) :: encI ls := rfl
    have hs := lturn_step (m := m) (v := v) (f := f) (l := l) (e0 := e0) (e1 := e1) (e5 := e5) hv (by omega)
    rw [e, step_nx (env1 := [e0, e1, some (.ref m.length), some (.ref (m.length + 1)), some (.val (.int (l : Int))), e5]) rfl hs, h]
    simp [fnd, runT]
theorem rp_ne {n : Nat} (h : 1 ≤ n) : List.replicate n 0 ≠ [] := by simp; omega
theorem runT_len : ∀ (ls v : List Nat), (runT v ls).length = v.length
  | [], v => rfl
  | l :: ls, v => by
    show (runT (stp v l) ls).length = _
    rw [runT_len ls, stp_len]
theorem runT_ne {ls v : List Nat} (h : v ≠ []) : runT v ls ≠ [] := fun z => by
  have := runT_len ls v
  rw [z] at this
  exact h (List.length_eq_zero_iff.mp this.symm)
theorem law_turn_ok {r : R} (hr : an1 r m = iL (encI ls) m) (hr2 : an1 r (m ++ [.lst (encI (List.replicate n 0)), .lst (encI [])]) = iL (encI ls) (m ++ [.lst (encI (List.replicate n 0)), .lst (encI [])])) (h1 : 1 ≤ n) (h2 : n ≤ 4) (hl : ls.length ≤ 10) :
    m__law_turn [.val (.int (n : Int)), r] m = some (.val (.tuple [.list (encI (fnd (List.replicate n 0) ls)), .int ((mx (runT (List.replicate n 0) ls) : Nat) : Int)]), m) := by
  obtain ⟨e4, e5, h⟩ := lturn_loop (m := m) (e0 := some (.val (.int (n : Int)))) (e1 := some r) ls (List.replicate n 0) [] none none (rp_ne h1) (by simp; omega)
  rw [List.nil_append] at h
  have gv : (m ++ [Ob.lst (encI (runT (List.replicate n 0) ls)), .lst (encI (fnd (List.replicate n 0) ls))])[m.length]? = some (.lst (encI (runT (List.replicate n 0) ls))) := g0
  have gf : (m ++ [Ob.lst (encI (runT (List.replicate n 0) ls)), .lst (encI (fnd (List.replicate n 0) ls))])[m.length + 1]? = some (.lst (encI (fnd (List.replicate n 0) ls))) := g1
  have p1 : pMax [.ref m.length] (m ++ [Ob.lst (encI (runT (List.replicate n 0) ls)), .lst (encI (fnd (List.replicate n 0) ls))]) = some (.val (.int ((mx (runT (List.replicate n 0) ls) : Nat) : Int)), m ++ [Ob.lst (encI (runT (List.replicate n 0) ls)), .lst (encI (fnd (List.replicate n 0) ls))]) := pmax_N (asLT_r gv) (runT_ne (rp_ne h1))
  have z : rp [.int 0] (.val (.int (n : Int))) m = some (encI (List.replicate n 0), m) := rp_zeros (by omega)
  have lv : ∀ d : D, leave m.length (.tp [.inr (m.length + 1), .inl d]) (m ++ [Ob.lst (encI (runT (List.replicate n 0) ls)), .lst (encI (fnd (List.replicate n 0) ls))]) = some (.val (.tuple [.list (encI (fnd (List.replicate n 0) ls)), d]), m) := fun d => by
    simp only [leave, freezeT, gf, ob_some, show ¬ (m.length + 1 < m.length) by omega, if_false, tk]
  have tI : ∀ (i : Nat) (d : D) (mm : M), pTupR [.ref i, .val d] mm = some (.tp [.inr i, .inl d], mm) := fun i d mm => by
    simp [pTupR, toIs, toI]
  have e0 : encI ([] : List Nat) = [] := rfl
  rw [e0] at hr2 h
  simp only [m__law_turn, bodyF, List.length_cons, List.length_nil, Nat.reduceAdd, Nat.reduceSub, List.map_cons, List.map_nil, List.replicate, List.cons_append, List.nil_append, List.append_nil, b__law_turn, ev_seq, ev_asg, ev_par, ev_if, ev_ret, ev_retN, ev_expr, ev_bin, ev_un, ev_ap, ev_cons, ev_nil, ev_varS, ev_var0, ev_c, ob_some, ev_gNm, ev_tOf, ev_asB, ev_asI, ev_tNot, ev_tAnd, ev_tOr, ev_eOf, ev_eIf, ev_chain, List.set_cons_succ, List.set_cons_zero, ev_then_nx, ev_then_rt, ev_next, ev_pTup, ev_valsC, ev_vals0, ev_eL, ev_bm, ev_aug, pix_t, pix_l, pixq0, pixq1, atI_0, atI_1, atI_2, pp_ii, ps_ii, pa_ii, plt_ii, ple_ii, pgt_ii, pge_ii, peq_ii, pne_ii, pneg_i, List.length_cons, List.length_nil, Nat.reduceAdd, Nat.reduceSub, Nat.reduceLeDiff, sz, if_true, Bool.false_eq_true, if_false, Bool.not_true, Bool.not_false, leave_v, List.take_length, plen_t, plen_l, ptup_l, ptup_t, pint_i, pis_n, pis_i, pis_t, pisnt_n, pisnt_i, pisnt_t, Int.cast_ofNat_Int, ne_eq, not_true_eq_false, not_false_eq_true, decide_true, decide_false, ev_eNew, ev_rep, ev_nLst, z, l1, List.append_assoc, it_an, ev_for]
  rw [hr2, run_iL, h]
  simp only [ev_asg, ev_par, ev_if, ev_ret, ev_retN, ev_expr, ev_bin, ev_un, ev_ap, ev_cons, ev_nil, ev_varS, ev_var0, ev_c, ob_some, ev_gNm, ev_tOf, ev_asB, ev_asI, ev_tNot, ev_tAnd, ev_tOr, ev_eOf, ev_eIf, ev_chain, List.set_cons_succ, List.set_cons_zero, ev_then_nx, ev_then_rt, ev_next, ev_pTup, ev_valsC, ev_vals0, ev_eL, ev_bm, ev_aug, pix_t, pix_l, pixq0, pixq1, atI_0, atI_1, atI_2, pp_ii, ps_ii, pa_ii, plt_ii, ple_ii, pgt_ii, pge_ii, peq_ii, pne_ii, pneg_i, List.length_cons, List.length_nil, Nat.reduceAdd, Nat.reduceSub, Nat.reduceLeDiff, sz, if_true, Bool.false_eq_true, if_false, Bool.not_true, Bool.not_false, leave_v, List.take_length, plen_t, plen_l, ptup_l, ptup_t, pint_i, pis_n, pis_i, pis_t, pisnt_n, pisnt_i, pisnt_t, Int.cast_ofNat_Int, ne_eq, not_true_eq_false, not_false_eq_true, decide_true, decide_false, p1, tI, lv]
end
end L36

set_option Elab.async false
set_option linter.all false
set_option maxRecDepth 100000
namespace L36
open PySem PySem.Spec PyProof.Rows L2 Ev Qa Ld
section
variable {m : M} {n : Nat} {ls : List Nat}
theorem at_last {α : Type} {xs : List α} {x : α} : L2.atI (xs ++ [x]) (-1) = some x := by
  have e : ixN (xs ++ [x]).length (-1) = some xs.length := by
    unfold ixN
    rw [List.length_append, List.length_singleton]
    simp
    omega
  unfold L2.atI
  rw [e]
  simp
theorem iturn_step {v f : List Nat} {l : Nat} {e0 e1 : Option R} (hv : v ≠ []) (hf : f.length < 16777216) : l_in_turn1 [e0, e1, some (.ref m.length), some (.ref (m.length + 1)), some (.val (.int (l : Int)))] (m ++ [.lst (encI v), .lst (encI f)]) =
    some (.nx [e0, e1, some (.ref m.length), some (.ref (m.length + 1)), some (.val (.int (l : Int)))] (m ++ [.lst (encI (stp v l)), .lst (encI (f ++ [v.idxOf (mn v)]))])) := by
  have gv : (m ++ [Ob.lst (encI v), .lst (encI f)])[m.length]? = some (.lst (encI v)) := g0
  have a0 := asL_r gv
  have p1 : pMin [.ref m.length] (m ++ [Ob.lst (encI v), .lst (encI f)]) = some (.val (.int ((mn v : Nat) : Int)), m ++ [Ob.lst (encI v), .lst (encI f)]) := pmin_N (asLT_r gv) hv
  have p2 := pidx_N gv (mn_mem hv)
  have gf : (m ++ [Ob.lst (encI v), .lst (encI f)])[m.length + 1]? = some (.lst (encI f)) := g1
  have p5 := papp_r (d := .int ((v.idxOf (mn v) : Nat) : Int)) gf (by rw [encI_len]; exact hf)
  rw [s1] at p5
  have e5 : encI f ++ [PyData.int ((v.idxOf (mn v) : Nat) : Int)] = encI (f ++ [v.idxOf (mn v)]) := by unfold encI; simp
  have gf2 : (m ++ [Ob.lst (encI v), .lst (encI f ++ [PyData.int ((v.idxOf (mn v) : Nat) : Int)])])[m.length + 1]? = some (.lst (encI f ++ [PyData.int ((v.idxOf (mn v) : Nat) : Int)])) := g1
  have p6 : pIdx (.ref (m.length + 1)) (.val (.int (-1))) (m ++ [Ob.lst (encI v), .lst (encI f ++ [PyData.int ((v.idxOf (mn v) : Nat) : Int)])]) = some (.val (.int ((v.idxOf (mn v) : Nat) : Int)), m ++ [Ob.lst (encI v), .lst (encI f ++ [PyData.int ((v.idxOf (mn v) : Nat) : Int)])]) := by
    rw [pix_r gf2, at_last]
    rfl
  rw [e5] at p5 p6
  have gv2 : (m ++ [Ob.lst (encI v), .lst (encI (f ++ [v.idxOf (mn v)]))])[m.length]? = some (.lst (encI v)) := g0
  have p3 := pix_rN gv2 (at_mn hv)
  have p4 := pset_rN (a := mn v + l) gv2 (idx_lt hv)
  rw [s0] at p4
  have a5 := asL_r gf
  have e4 : v.set (v.idxOf (mn v)) (mn v + l) = stp v l := rfl
  rw [e4, Int.natCast_add] at p4
  simp only [l_in_turn1, ev_seq, ev_asg, ev_par, ev_if, ev_ret, ev_retN, ev_expr, ev_bin, ev_un, ev_ap, ev_cons, ev_nil, ev_varS, ev_var0, ev_c, ob_some, ev_gNm, ev_tOf, ev_asB, ev_asI, ev_tNot, ev_tAnd, ev_tOr, ev_eOf, ev_eIf, ev_chain, List.set_cons_succ, List.set_cons_zero, ev_then_nx, ev_then_rt, ev_next, ev_pTup, ev_valsC, ev_vals0, ev_eL, ev_bm, ev_aug, pix_t, pix_l, pixq0, pixq1, atI_0, atI_1, atI_2, pp_ii, ps_ii, pa_ii, plt_ii, ple_ii, pgt_ii, pge_ii, peq_ii, pne_ii, pneg_i, List.length_cons, List.length_nil, Nat.reduceAdd, Nat.reduceSub, Nat.reduceLeDiff, sz, if_true, Bool.false_eq_true, if_false, Bool.not_true, Bool.not_false, leave_v, List.take_length, plen_t, plen_l, ptup_l, ptup_t, pint_i, pis_n, pis_i, pis_t, pisnt_n, pisnt_i, pisnt_t, Int.cast_ofNat_Int, ne_eq, not_true_eq_false, not_false_eq_true, decide_true, decide_false, ev_augS, a0, p1, p2, p3, p4, p5, p6, a5]
theorem iturn_loop {e0 e1 : Option R} : ∀ (ls v f : List Nat) (e4 : Option R), v ≠ [] → f.length + ls.length < 16777216 → ∃ e4', loopL (gNm 4) l_in_turn1 (encI ls) [e0, e1, some (.ref m.length), some (.ref (m.length + 1)), e4] (m ++ [.lst (encI v), .lst (encI f)]) =
    some (.nx [e0, e1, some (.ref m.length), some (.ref (m.length + 1)), e4'] (m ++ [.lst (encI (runT v ls)), .lst (encI (f ++ fnd v ls))]))
  | [], v, f, e4, hv, hl => ⟨e4, by simp [encI, fnd, runT]⟩
  | l :: ls, v, f, e4, hv, hl => by
    rw [List.length_cons] at hl
    obtain ⟨e4', h⟩ := iturn_loop (e0 := e0) (e1 := e1) ls (stp v l) (f ++ [v.idxOf (mn v)]) (some (.val (.int (l : Int)))) (stp_ne hv l) (by simp; omega)
    refine ⟨e4', ?_⟩
    have e : encI (l :: ls) = .int (l : Int) :: encI ls := rfl
    have hs := iturn_step (m := m) (v := v) (f := f) (l := l) (e0 := e0) (e1 := e1) hv (by omega)
    rw [e, step_nx (env1 := [e0, e1, some (.ref m.length), some (.ref (m.length + 1)), some (.val (.int (l : Int)))]) rfl hs, h]
    simp [fnd, runT]
theorem in_turn_ok (J : Jb n ls) : m_in_turn [.val (.int (n : Int)), .val (encT ls)] m = some (.val (encT (fnd (List.replicate n 0) ls)), m) := by
  have h1 := J.n1
  have h2 := J.n3
  have hl := J.l10
  obtain ⟨e4, h⟩ := iturn_loop (m := m) (e0 := some (.val (.int (n : Int)))) (e1 := some (.val (encT ls))) ls (List.replicate n 0) [] none (rp_ne h1) (by simp; omega)
  rw [List.nil_append] at h
  have gf : (m ++ [Ob.lst (encI (runT (List.replicate n 0) ls)), .lst (encI (fnd (List.replicate n 0) ls))])[m.length + 1]? = some (.lst (encI (fnd (List.replicate n 0) ls))) := g1
  have z : rp [.int 0] (.val (.int (n : Int))) m = some (encI (List.replicate n 0), m) := rp_zeros (by omega)
  have e0 : encI ([] : List Nat) = [] := rfl
  have eT : encT ls = .tuple (encI ls) := rfl
  rw [e0] at h
  have c := check_jobs_ok (m := m) J
  rw [eT] at c h
  simp only [m_in_turn, bodyF, List.length_cons, List.length_nil, Nat.reduceAdd, Nat.reduceSub, List.map_cons, List.map_nil, List.replicate, List.cons_append, List.nil_append, List.append_nil, b_in_turn, ev_seq, ev_asg, ev_par, ev_if, ev_ret, ev_retN, ev_expr, ev_bin, ev_un, ev_ap, ev_cons, ev_nil, ev_varS, ev_var0, ev_c, ob_some, ev_gNm, ev_tOf, ev_asB, ev_asI, ev_tNot, ev_tAnd, ev_tOr, ev_eOf, ev_eIf, ev_chain, List.set_cons_succ, List.set_cons_zero, ev_then_nx, ev_then_rt, ev_next, ev_pTup, ev_valsC, ev_vals0, ev_eL, ev_bm, ev_aug, pix_t, pix_l, pixq0, pixq1, atI_0, atI_1, atI_2, pp_ii, ps_ii, pa_ii, plt_ii, ple_ii, pgt_ii, pge_ii, peq_ii, pne_ii, pneg_i, List.length_cons, List.length_nil, Nat.reduceAdd, Nat.reduceSub, Nat.reduceLeDiff, sz, if_true, Bool.false_eq_true, if_false, Bool.not_true, Bool.not_false, leave_v, List.take_length, plen_t, plen_l, ptup_l, ptup_t, pint_i, pis_n, pis_i, pis_t, pisnt_n, pisnt_i, pisnt_t, Int.cast_ofNat_Int, ne_eq, not_true_eq_false, not_false_eq_true, decide_true, decide_false, ev_eNew, ev_rep, ev_nLst, z, l1, List.append_assoc, it_an, ev_for, c, eT]
  rw [an1_t, run_iL, h]
  simp only [ev_asg, ev_par, ev_if, ev_ret, ev_retN, ev_expr, ev_bin, ev_un, ev_ap, ev_cons, ev_nil, ev_varS, ev_var0, ev_c, ob_some, ev_gNm, ev_tOf, ev_asB, ev_asI, ev_tNot, ev_tAnd, ev_tOr, ev_eOf, ev_eIf, ev_chain, List.set_cons_succ, List.set_cons_zero, ev_then_nx, ev_then_rt, ev_next, ev_pTup, ev_valsC, ev_vals0, ev_eL, ev_bm, ev_aug, pix_t, pix_l, pixq0, pixq1, atI_0, atI_1, atI_2, pp_ii, ps_ii, pa_ii, plt_ii, ple_ii, pgt_ii, pge_ii, peq_ii, pne_ii, pneg_i, List.length_cons, List.length_nil, Nat.reduceAdd, Nat.reduceSub, Nat.reduceLeDiff, sz, if_true, Bool.false_eq_true, if_false, Bool.not_true, Bool.not_false, leave_v, List.take_length, plen_t, plen_l, ptup_l, ptup_t, pint_i, pis_n, pis_i, pis_t, pisnt_n, pisnt_i, pisnt_t, Int.cast_ofNat_Int, ne_eq, not_true_eq_false, not_false_eq_true, decide_true, decide_false, ptup_r gf, tk]
  rfl
/-! the least loads -/
theorem encI_app (a b : List Nat) : encI (a ++ b) = encI a ++ encI b := by unfold encI; simp
theorem add_enc {v : List Nat} {k l : Nat} (h : k < v.length) : (encI (v.take k) ++ [PyData.int (((v.getD k 0 : Nat) : Int) + (l : Int))]) ++ encI (v.drop (k + 1)) = encI (addAt v k l) := by
  have e : addAt v k l = v.take k ++ (v.getD k 0 + l) :: v.drop (k + 1) := by
    unfold addAt
    rw [List.set_eq_take_append_cons_drop, if_pos h]
  rw [e, encI_app]
  show _ = encI (v.take k) ++ (PyData.int ((v.getD k 0 + l : Nat) : Int) :: encI (v.drop (k + 1)))
  rw [Int.natCast_add, List.append_assoc]
  rfl
theorem addAt_len (v : List Nat) (k l : Nat) : (addAt v k l).length = v.length := by unfold addAt; rw [List.length_set]
theorem least1 {e0 e1 e2 : Option R} {j k l : Nat} {v : List Nat} {ks : List (List Nat)} (hm : m[j]? = some (.dct true false (kT ks))) (hk : k < v.length) (hv : v.length ≤ 100) (hl : ks.length < 16777216) :
    l__law_least1 [e0, e1, e2, some (.val (.int (l : Int))), some (.ref j), some (.val (encT v)), some (.val (.int (k : Int)))] m =
    some (.nx [e0, e1, e2, some (.val (.int (l : Int))), some (.ref j), some (.val (encT v)), some (.val (.int (k : Int)))] (m.set j (.dct true false (kT (insT ks (srt (addAt v k l))))))) := by
  have ix : pIdx (.val (encT v)) (.val (.int (k : Int))) m = some (.val (.int ((v.getD k 0 : Nat) : Int)), m) := pix_T (getD_some hk)
  have k1 : ((k : Int) + 1) = ((k + 1 : Nat) : Int) := by omega
  have eT : encT v = .tuple (encI v) := rfl
  have s1 : sl1 (.val (encT v)) none (some (k : Int)) m = some (.val (.tuple (encI (v.take k))), m) := by
    rw [eT, sl1_t, cut_take, encI_take]
  have s2 : sl1 (.val (encT v)) (some ((k : Int) + 1)) none m = some (.val (.tuple (encI (v.drop (k + 1)))), m) := by
    rw [eT, k1, sl1_t, cut_drop, encI_drop]
  have t1 : (encI (v.take k)).length ≤ 100 := by rw [encI_len, List.length_take]; omega
  have t2 : (encI (v.drop (k + 1))).length ≤ 100 := by rw [encI_len, List.length_drop]; omega
  have p1 := pp_tt (m := m) (ds := encI (v.take k)) (es := [PyData.int (((v.getD k 0 : Nat) : Int) + (l : Int))]) (by simp; omega)
  have p2 := pp_tt (m := m) (ds := encI (v.take k) ++ [PyData.int (((v.getD k 0 : Nat) : Int) + (l : Int))]) (es := encI (v.drop (k + 1))) (by simp; omega)
  rw [add_enc hk] at p2
  have p3 := psort_N (m := m) (r := .val (.tuple (encI (addAt v k l)))) (l := addAt v k l) rfl (by rw [addAt_len]; omega)
  have p4 := dset_T (w := srt (addAt v k l)) hm hl
  have eT2 : PyData.tuple (encI (srt (addAt v k l))) = encT (srt (addAt v k l)) := rfl
  simp only [l__law_least1, ev_asg, ev_par, ev_if, ev_ret, ev_retN, ev_expr, ev_bin, ev_un, ev_ap, ev_cons, ev_nil, ev_varS, ev_var0, ev_c, ob_some, ev_gNm, ev_tOf, ev_asB, ev_asI, ev_tNot, ev_tAnd, ev_tOr, ev_eOf, ev_eIf, ev_chain, List.set_cons_succ, List.set_cons_zero, ev_then_nx, ev_then_rt, ev_next, ev_pTup, ev_valsC, ev_vals0, ev_eL, ev_bm, ev_aug, pix_t, pix_l, pixq0, pixq1, atI_0, atI_1, atI_2, pp_ii, ps_ii, pa_ii, plt_ii, ple_ii, pgt_ii, pge_ii, peq_ii, pne_ii, pneg_i, List.length_cons, List.length_nil, Nat.reduceAdd, Nat.reduceSub, Nat.reduceLeDiff, sz, if_true, Bool.false_eq_true, if_false, Bool.not_true, Bool.not_false, leave_v, List.take_length, plen_t, plen_l, ptup_l, ptup_t, pint_i, pis_n, pis_i, pis_t, pisnt_n, pisnt_i, pisnt_t, Int.cast_ofNat_Int, ne_eq, not_true_eq_false, not_false_eq_true, decide_true, decide_false, ev_sub, ev_sl, ev_oNone, ev_oSome, ix, s1, s2, p1, p2, p3, eT2, p4]
def insK (v : List Nat) (l : Nat) (ks : List (List Nat)) (rs : List Nat) : List (List Nat) := rs.foldl (fun ks k => insT ks (srt (addAt v k l))) ks
theorem insK_mem {v : List Nat} {l : Nat} {u : List Nat} : ∀ (rs : List Nat) (ks : List (List Nat)), u ∈ insK v l ks rs ↔ u ∈ ks ∨ ∃ k ∈ rs, u = srt (addAt v k l)
  | [], ks => by simp [insK]
  | k :: rs, ks => by
    show u ∈ insK v l (insT ks (srt (addAt v k l))) rs ↔ _
    rw [insK_mem rs, insT_mem]
    simp only [List.mem_cons, exists_eq_or_imp]
    constructor
    · rintro ((h | h) | h)
      · exact .inl h
      · exact .inr (.inl h)
      · exact .inr (.inr h)
    · rintro (h | h | h)
      · exact .inl (.inl h)
      · exact .inl (.inr h)
      · exact .inr h
theorem insK_len {v : List Nat} {l : Nat} : ∀ (rs : List Nat) (ks : List (List Nat)), (insK v l ks rs).length ≤ ks.length + rs.length
  | [], ks => by simp [insK]
  | k :: rs, ks => by
    show (insK v l (insT ks (srt (addAt v k l))) rs).length ≤ _
    have h1 := insK_len (v := v) (l := l) rs (insT ks (srt (addAt v k l)))
    have h2 := insT_len ks (srt (addAt v k l))
    rw [List.length_cons]
    omega
theorem get_set {j : Nat} {a b : Ob} (h : m[j]? = some a) : (m.set j b)[j]? = some b := by
  have := (List.getElem?_eq_some_iff.mp h).1
  rw [List.getElem?_set_self this]
theorem least2 {e0 e1 e2 : Option R} {j l : Nat} {v : List Nat} (hv : v.length ≤ 100) : ∀ (rs : List Nat) (m : M) (ks : List (List Nat)) (e6 : Option R), m[j]? = some (.dct true false (kT ks)) → (∀ k ∈ rs, k < v.length) → ks.length + rs.length < 16777216 →
    ∃ e6', loopL (gNm 6) l__law_least1 (rs.map fun k : Nat => PyData.int k) [e0, e1, e2, some (.val (.int (l : Int))), some (.ref j), some (.val (encT v)), e6] m =
    some (.nx [e0, e1, e2, some (.val (.int (l : Int))), some (.ref j), some (.val (encT v)), e6'] (m.set j (.dct true false (kT (insK v l ks rs)))))
  | [], m, ks, e6, hm, _, _ => ⟨e6, by
    show some _ = _
    have : m.set j (.dct true false (kT (insK v l ks []))) = m := by
      refine List.ext_getElem? fun i => ?_
      by_cases h : i = j
      · subst h
        rw [get_set hm, hm]
        rfl
      · rw [List.getElem?_set_ne (fun z => h z.symm)]
    rw [this]⟩
  | k :: rs, m, ks, e6, hm, hr, hl => by
    rw [List.length_cons] at hl
    have hs := least1 (e0 := e0) (e1 := e1) (e2 := e2) (l := l) hm (hr k (by simp)) hv (by omega)
    have h2 := insT_len ks (srt (addAt v k l))
    obtain ⟨e6', h⟩ := least2 (e0 := e0) (e1 := e1) (e2 := e2) (l := l) hv rs (m.set j (.dct true false (kT (insT ks (srt (addAt v k l)))))) (insT ks (srt (addAt v k l))) (some (.val (.int (k : Int)))) (get_set hm) (fun i hi => hr i (List.mem_cons_of_mem _ hi)) (by omega)
    refine ⟨e6', ?_⟩
    rw [List.map_cons, step_nx (env1 := [e0, e1, e2, some (.val (.int (l : Int))), some (.ref j), some (.val (encT v)), some (.val (.int (k : Int)))]) rfl hs, h, List.set_set]
    rfl
def insA (n l : Nat) (ks : List (List Nat)) (vs : List (List Nat)) : List (List Nat) := vs.foldl (fun ks v => insK v l ks (List.range n)) ks
theorem insA_mem {n l : Nat} {u : List Nat} : ∀ (vs ks : List (List Nat)), u ∈ insA n l ks vs ↔ u ∈ ks ∨ ∃ v ∈ vs, ∃ k, k < n ∧ u = srt (addAt v k l)
  | [], ks => by simp [insA]
  | v :: vs, ks => by
    show u ∈ insA n l (insK v l ks (List.range n)) vs ↔ _
    rw [insA_mem vs, insK_mem]
    simp only [List.mem_cons, exists_eq_or_imp, List.mem_range]
    constructor
    · rintro ((h | h) | h)
      · exact .inl h
      · exact .inr (.inl h)
      · exact .inr (.inr h)
    · rintro (h | h | h)
      · exact .inl (.inl h)
      · exact .inl (.inr h)
      · exact .inr h
theorem insA_len {n l : Nat} : ∀ (vs ks : List (List Nat)), (insA n l ks vs).length ≤ ks.length + vs.length * n
  | [], ks => by simp [insA]
  | v :: vs, ks => by
    show (insA n l (insK v l ks (List.range n)) vs).length ≤ _
    have h1 := insA_len (n := n) (l := l) vs (insK v l ks (List.range n))
    have h2 := insK_len (v := v) (l := l) (List.range n) ks
    rw [List.length_range] at h2
    rw [List.length_cons, Nat.succ_mul]
    omega
theorem least3 {e1 e2 : Option R} {n j l : Nat} (hn : n ≤ 100) : ∀ (vs : List (List Nat)) (m : M) (ks : List (List Nat)) (e5 e6 : Option R), m[j]? = some (.dct true false (kT ks)) → (∀ v ∈ vs, v.length = n) → ks.length + vs.length * n < 16777216 →
    ∃ e5' e6', loopL (gNm 5) l__law_least2 (vs.map encT) [some (.val (.int (n : Int))), e1, e2, some (.val (.int (l : Int))), some (.ref j), e5, e6] m =
    some (.nx [some (.val (.int (n : Int))), e1, e2, some (.val (.int (l : Int))), some (.ref j), e5', e6'] (m.set j (.dct true false (kT (insA n l ks vs)))))
  | [], m, ks, e5, e6, hm, _, _ => ⟨e5, e6, by
    show some _ = _
    have : m.set j (.dct true false (kT (insA n l ks []))) = m := by
      refine List.ext_getElem? fun i => ?_
      by_cases h : i = j
      · subst h
        rw [get_set hm, hm]
        rfl
      · rw [List.getElem?_set_ne (fun z => h z.symm)]
    rw [this]⟩
  | v :: vs, m, ks, e5, e6, hm, hr, hl => by
    rw [List.length_cons, Nat.succ_mul] at hl
    have hv := hr v (by simp)
    obtain ⟨e62, hs⟩ := least2 (e0 := some (.val (.int (n : Int)))) (e1 := e1) (e2 := e2) (l := l) (v := v) (by omega) (List.range n) m ks e6 hm (fun k hk => by rw [hv]; exact List.mem_range.mp hk) (by rw [List.length_range]; omega)
    have hb : l__law_least2 [some (.val (.int (n : Int))), e1, e2, some (.val (.int (l : Int))), some (.ref j), some (.val (encT v)), e6] m = some (.nx [some (.val (.int (n : Int))), e1, e2, some (.val (.int (l : Int))), some (.ref j), some (.val (encT v)), e62] (m.set j (.dct true false (kT (insK v l ks (List.range n)))))) := by
      simp only [l__law_least2, ev_for, it_rg1, ev_asg, ev_par, ev_if, ev_ret, ev_retN, ev_expr, ev_bin, ev_un, ev_ap, ev_cons, ev_nil, ev_varS, ev_var0, ev_c, ob_some, ev_gNm, ev_tOf, ev_asB, ev_asI, ev_tNot, ev_tAnd, ev_tOr, ev_eOf, ev_eIf, ev_chain, List.set_cons_succ, List.set_cons_zero, ev_then_nx, ev_then_rt, ev_next, ev_pTup, ev_valsC, ev_vals0, ev_eL, ev_bm, ev_aug, pix_t, pix_l, pixq0, pixq1, atI_0, atI_1, atI_2, pp_ii, ps_ii, pa_ii, plt_ii, ple_ii, pgt_ii, pge_ii, peq_ii, pne_ii, pneg_i, List.length_cons, List.length_nil, Nat.reduceAdd, Nat.reduceSub, Nat.reduceLeDiff, sz, if_true, Bool.false_eq_true, if_false, Bool.not_true, Bool.not_false, leave_v, List.take_length, plen_t, plen_l, ptup_l, ptup_t, pint_i, pis_n, pis_i, pis_t, pisnt_n, pisnt_i, pisnt_t, Int.cast_ofNat_Int, ne_eq, not_true_eq_false, not_false_eq_true, decide_true, decide_false, rg1_nat (m := m) (n := n) (by omega), run_iL]
      exact hs
    have h2 := insK_len (v := v) (l := l) (List.range n) ks
    rw [List.length_range] at h2
    obtain ⟨e5', e6', h⟩ := least3 (e1 := e1) (e2 := e2) (n := n) (l := l) hn vs (m.set j (.dct true false (kT (insK v l ks (List.range n))))) (insK v l ks (List.range n)) (some (.val (encT v))) e62 (get_set hm) (fun i hi => hr i (List.mem_cons_of_mem _ hi)) (by omega)
    refine ⟨e5', e6', ?_⟩
    rw [List.map_cons, step_nx (env1 := [some (.val (.int (n : Int))), e1, e2, some (.val (.int (l : Int))), some (.ref j), some (.val (encT v)), e6]) rfl hb, h, List.set_set]
    rfl
end
end L36

set_option Elab.async false
set_option linter.all false
set_option maxRecDepth 100000
namespace L36
open PySem PySem.Spec PyProof.Rows L2 Ev Qa Ld
section
variable {m : M} {n : Nat} {ls : List Nat}
theorem _root_.Ld.Keys.lens {n : Nat} {js : List Nat} {ks : List (List Nat)} (h : Keys n js ks) : ∀ v ∈ ks, v.length = n := fun v hv => ((h v).mp hv).len
theorem lleast_loop {e1 : Option R} {n : Nat} (hn0 : 1 ≤ n) (hn : n ≤ 4) : ∀ (ls js : List Nat) (m : M) (ks : List (List Nat)) (e3 e4 e5 e6 : Option R), Keys n js ks → ks.length ≤ 4 ^ js.length → js.length + ls.length ≤ 10 →
    ∃ e3' e4' e5' e6' m' ks', loopL (gNm 3) l__law_least3 (encI ls) [some (.val (.int (n : Int))), e1, some (.val (.list (ks.map encT))), e3, e4, e5, e6] m =
    some (.nx [some (.val (.int (n : Int))), e1, some (.val (.list (ks'.map encT))), e3', e4', e5', e6'] m') ∧ m'.take m.length = m ∧ Keys n (ls.reverse ++ js) ks' ∧ ks'.length ≤ 4 ^ (js.length + ls.length)
  | [], js, m, ks, e3, e4, e5, e6, K, hl, _ => ⟨e3, e4, e5, e6, m, ks, rfl, by simp, K, hl⟩
  | l :: ls, js, m, ks, e3, e4, e5, e6, K, hl, hj => by
    rw [List.length_cons] at hj
    have pw : 4 ^ js.length ≤ 4 ^ 10 := Nat.pow_le_pow_right (by decide) (by omega)
    have pw2 : (4 : Nat) ^ 10 = 1048576 := by decide
    have k4 : ks.length * n ≤ ks.length * 4 := Nat.mul_le_mul_left _ hn
    have gd : (m ++ [Ob.dct true false []])[m.length]? = some (.dct true false (kT [])) := g0
    obtain ⟨e5', e6', hs⟩ := least3 (e1 := e1) (e2 := some (.val (.list (ks.map encT)))) (l := l) (by omega) ks (m ++ [Ob.dct true false []]) [] e5 e6 gd K.lens (by simp; omega)
    rw [s0] at hs
    have hA : Keys n (l :: js) (insA n l [] ks) := keys_step K fun u => by rw [insA_mem]; simp
    have hAl := insA_len (n := n) (l := l) ks []
    simp only [List.length_nil, Nat.zero_add] at hAl
    have gk : asK (.ref m.length) (m ++ [Ob.dct true false (kT (insA n l [] ks))]) = some ((insA n l [] ks).map encT) := by
      show ((m ++ [Ob.dct true false (kT (insA n l [] ks))])[m.length]?).bind _ = _
      rw [g0, ob_some]
      show some ((kT (insA n l [] ks)).map Prod.fst) = _
      rw [kT_keys]
    obtain ⟨ks2, p1, p2⟩ := psort_T gk (fun u hu => by
      have := hA.lens u hu
      intro z
      rw [z] at this
      simp at this
      omega) (by omega)
    have hb : l__law_least3 [some (.val (.int (n : Int))), e1, some (.val (.list (ks.map encT))), some (.val (.int (l : Int))), e4, e5, e6] m = some (.nx [some (.val (.int (n : Int))), e1, some (.val (.list (ks2.map encT))), some (.val (.int (l : Int))), some (.ref m.length), e5', e6'] (m ++ [Ob.dct true false (kT (insA n l [] ks))])) := by
      simp only [l__law_least3, ev_seq, ev_asg, ev_par, ev_if, ev_ret, ev_retN, ev_expr, ev_bin, ev_un, ev_ap, ev_cons, ev_nil, ev_varS, ev_var0, ev_c, ob_some, ev_gNm, ev_tOf, ev_asB, ev_asI, ev_tNot, ev_tAnd, ev_tOr, ev_eOf, ev_eIf, ev_chain, List.set_cons_succ, List.set_cons_zero, ev_then_nx, ev_then_rt, ev_next, ev_pTup, ev_valsC, ev_vals0, ev_eL, ev_bm, ev_aug, pix_t, pix_l, pixq0, pixq1, atI_0, atI_1, atI_2, pp_ii, ps_ii, pa_ii, plt_ii, ple_ii, pgt_ii, pge_ii, peq_ii, pne_ii, pneg_i, List.length_cons, List.length_nil, Nat.reduceAdd, Nat.reduceSub, Nat.reduceLeDiff, sz, if_true, Bool.false_eq_true, if_false, Bool.not_true, Bool.not_false, leave_v, List.take_length, plen_t, plen_l, ptup_l, ptup_t, pint_i, pis_n, pis_i, pis_t, pisnt_n, pisnt_i, pisnt_t, Int.cast_ofNat_Int, ne_eq, not_true_eq_false, not_false_eq_true, decide_true, decide_false, ev_dnew, ev_for, it_an, an1_l, run_iL]
      rw [hs]
      simp only [ev_asg, ev_par, ev_if, ev_ret, ev_retN, ev_expr, ev_bin, ev_un, ev_ap, ev_cons, ev_nil, ev_varS, ev_var0, ev_c, ob_some, ev_gNm, ev_tOf, ev_asB, ev_asI, ev_tNot, ev_tAnd, ev_tOr, ev_eOf, ev_eIf, ev_chain, List.set_cons_succ, List.set_cons_zero, ev_then_nx, ev_then_rt, ev_next, ev_pTup, ev_valsC, ev_vals0, ev_eL, ev_bm, ev_aug, pix_t, pix_l, pixq0, pixq1, atI_0, atI_1, atI_2, pp_ii, ps_ii, pa_ii, plt_ii, ple_ii, pgt_ii, pge_ii, peq_ii, pne_ii, pneg_i, List.length_cons, List.length_nil, Nat.reduceAdd, Nat.reduceSub, Nat.reduceLeDiff, sz, if_true, Bool.false_eq_true, if_false, Bool.not_true, Bool.not_false, leave_v, List.take_length, plen_t, plen_l, ptup_l, ptup_t, pint_i, pis_n, pis_i, pis_t, pisnt_n, pisnt_i, pisnt_t, Int.cast_ofNat_Int, ne_eq, not_true_eq_false, not_false_eq_true, decide_true, decide_false, p2]
    have hl2 : ks2.length ≤ 4 ^ (l :: js).length := by
      rw [p1.length_eq, List.length_cons, Nat.pow_succ]
      omega
    obtain ⟨f3, f4, f5, f6, m', ks', q1, q2, q3, q4⟩ := lleast_loop (e1 := e1) hn0 hn ls (l :: js) (m ++ [Ob.dct true false (kT (insA n l [] ks))]) ks2 (some (.val (.int (l : Int)))) (some (.ref m.length)) e5' e6' (hA.perm p1) hl2 (by rw [List.length_cons]; omega)
    refine ⟨f3, f4, f5, f6, m', ks', ?_, ?_, ?_, ?_⟩
    · have e : encI (l :: ls) = .int (l : Int) :: encI ls := rfl
      rw [e, step_nx (env1 := [some (.val (.int (n : Int))), e1, some (.val (.list (ks.map encT))), some (.val (.int (l : Int))), e4, e5, e6]) rfl hb]
      exact q1
    · have := congrArg (List.take m.length) q2
      rw [List.take_take, tk, l1, Nat.min_eq_left (by omega)] at this
      exact this
    · simpa using q3
    · rw [List.length_cons] at q4 ⊢
      have : js.length + 1 + ls.length = js.length + (ls.length + 1) := by omega
      rw [this] at q4
      exact q4
theorem law_least_ok (J : Jb n ls) : ∃ T, Lst n ls.reverse T ∧ m__law_least [.val (.int (n : Int)), .val (encT ls)] m = some (.val (.int ((T : Nat) : Int)), m) := by
  have h1 := J.n1
  have h2 := J.n3
  have hl := J.l10
  obtain ⟨f3, f4, f5, f6, m', ks, q1, q2, q3, q4⟩ := lleast_loop (e1 := some (.val (encT ls))) h1 h2 ls [] m [List.replicate n 0] none none none none (keys_nil n) (by simp) (by simpa using hl)
  rw [List.append_nil] at q3
  have K := keys_least h1 q3
  refine ⟨_, K, ?_⟩
  have ne : ks.map lst ≠ [] := by have := Keys.ne h1 q3; simpa using this
  have hc : ∀ e0 e1 e2 e3 e4 e6, clpL (.nm 5) tTrue e__law_least4 [e0, e1, e2, e3, e4, none, e6] (ks.map encT) m' = some (ks.map fun u => .int ((lst u : Nat) : Int), m') := fun e0 e1 e2 e3 e4 e6 =>
    clpL_all encT (fun u => .int ((lst u : Nat) : Int)) ks fun u hu => ⟨_, rfl, by
      have r := (q3 u).mp hu
      have nu : u ≠ [] := fun z => by
        have := r.len
        rw [z] at this
        simp at this
        omega
      have p : pMax [.val (encT u)] m' = some (.val (.int ((mx u : Nat) : Int)), m') := pmax_N rfl nu
      rw [mx_lst r.sorted nu] at p
      simp [e__law_least4, p]⟩
  have hlen : (ks.map encT).length ≤ 16777216 := by
    rw [List.length_map]
    have pw : 4 ^ (([] : List Nat).length + ls.length) ≤ 4 ^ 10 := Nat.pow_le_pow_right (by decide) (by simp; omega)
    have pw2 : (4 : Nat) ^ 10 = 1048576 := by decide
    simp only [List.length_nil] at pw q4
    omega
  have em : (ks.map fun u => PyData.int ((lst u : Nat) : Int)) = encI (ks.map lst) := by unfold encI; rw [List.map_map]; rfl
  have p : pMin [.val (.list (encI (ks.map lst)))] m' = some (.val (.int ((mn (ks.map lst) : Nat) : Int)), m') := pmin_N rfl ne
  have z := prepA_0 (m := m) h1 (by omega : n ≤ 1000)
  have eT : encT ls = .tuple (encI ls) := rfl
  rw [eT] at q1
  simp only [List.map_cons, List.map_nil] at q1
  simp only [m__law_least, bodyF, List.length_cons, List.length_nil, Nat.reduceAdd, Nat.reduceSub, List.map_cons, List.map_nil, List.replicate, List.cons_append, List.nil_append, List.append_nil, b__law_least, ev_seq, ev_asg, ev_par, ev_if, ev_ret, ev_retN, ev_expr, ev_bin, ev_un, ev_ap, ev_cons, ev_nil, ev_varS, ev_var0, ev_c, ob_some, ev_gNm, ev_tOf, ev_asB, ev_asI, ev_tNot, ev_tAnd, ev_tOr, ev_eOf, ev_eIf, ev_chain, List.set_cons_succ, List.set_cons_zero, ev_then_nx, ev_then_rt, ev_next, ev_pTup, ev_valsC, ev_vals0, ev_eL, ev_bm, ev_aug, pix_t, pix_l, pixq0, pixq1, atI_0, atI_1, atI_2, pp_ii, ps_ii, pa_ii, plt_ii, ple_ii, pgt_ii, pge_ii, peq_ii, pne_ii, pneg_i, List.length_cons, List.length_nil, Nat.reduceAdd, Nat.reduceSub, Nat.reduceLeDiff, sz, if_true, Bool.false_eq_true, if_false, Bool.not_true, Bool.not_false, leave_v, List.take_length, plen_t, plen_l, ptup_l, ptup_t, pint_i, pis_n, pis_i, pis_t, pisnt_n, pisnt_i, pisnt_t, Int.cast_ofNat_Int, ne_eq, not_true_eq_false, not_false_eq_true, decide_true, decide_false, ev_nLst, z, ev_for, it_an, an1_t, eT, run_iL]
  rw [q1]
  simp only [ev_asg, ev_par, ev_if, ev_ret, ev_retN, ev_expr, ev_bin, ev_un, ev_ap, ev_cons, ev_nil, ev_varS, ev_var0, ev_c, ob_some, ev_gNm, ev_tOf, ev_asB, ev_asI, ev_tNot, ev_tAnd, ev_tOr, ev_eOf, ev_eIf, ev_chain, List.set_cons_succ, List.set_cons_zero, ev_then_nx, ev_then_rt, ev_next, ev_pTup, ev_valsC, ev_vals0, ev_eL, ev_bm, ev_aug, pix_t, pix_l, pixq0, pixq1, atI_0, atI_1, atI_2, pp_ii, ps_ii, pa_ii, plt_ii, ple_ii, pgt_ii, pge_ii, peq_ii, pne_ii, pneg_i, List.length_cons, List.length_nil, Nat.reduceAdd, Nat.reduceSub, Nat.reduceLeDiff, sz, if_true, Bool.false_eq_true, if_false, Bool.not_true, Bool.not_false, leave_v, List.take_length, plen_t, plen_l, ptup_l, ptup_t, pint_i, pis_n, pis_i, pis_t, pisnt_n, pisnt_i, pisnt_t, Int.cast_ofNat_Int, ne_eq, not_true_eq_false, not_false_eq_true, decide_true, decide_false, ev_comp, it_an, an1_l, runC_iL hlen, wipeE, List.foldl, hc, em, p, q2]
theorem least_load_loop {e1 : Option R} {n : Nat} (hn0 : 1 ≤ n) (hn : n ≤ 4) : ∀ (ls js : List Nat) (m : M) (j : Nat) (ks : List (List Nat)) (e3 e4 e5 e6 : Option R), m[j]? = some (.dct true false (kT ks)) → Keys n js ks → ks.length ≤ 4 ^ js.length → js.length + ls.length ≤ 10 →
    ∃ e3' e4' e5' e6' m' j' ks', loopL (gNm 3) l_least_load3 (encI ls) [some (.val (.int (n : Int))), e1, some (.ref j), e3, e4, e5, e6] m =
    some (.nx [some (.val (.int (n : Int))), e1, some (.ref j'), e3', e4', e5', e6'] m') ∧ m'.take m.length = m ∧ m'[j']? = some (.dct true false (kT ks')) ∧ Keys n (ls.reverse ++ js) ks' ∧ ks'.length ≤ 4 ^ (js.length + ls.length)
  | [], js, m, j, ks, e3, e4, e5, e6, hm, K, hl, _ => ⟨e3, e4, e5, e6, m, j, ks, rfl, by simp, hm, K, hl⟩
  | l :: ls, js, m, j, ks, e3, e4, e5, e6, hm, K, hl, hj => by
    rw [List.length_cons] at hj
    have pw : 4 ^ js.length ≤ 4 ^ 10 := Nat.pow_le_pow_right (by decide) (by omega)
    have pw2 : (4 : Nat) ^ 10 = 1048576 := by decide
    have k4 : ks.length * n ≤ ks.length * 4 := Nat.mul_le_mul_left _ hn
    have jl : j < m.length := (List.getElem?_eq_some_iff.mp hm).1
    have gj : ∀ x : Ob, (m ++ [x])[j]? = some (.dct true false (kT ks)) := fun x => by rw [List.getElem?_append_left jl]; exact hm
    have sj : ∀ x y : Ob, (m ++ [x]).set j y = m.set j y ++ [x] := fun x y => by rw [List.set_append_left _ _ jl]
    have hlk : ∀ x : Ob, (m.set j x).length = m.length := fun x => by rw [List.length_set]
    have gd : (m.set j (.dct true true (kT ks)) ++ [Ob.dct true false []])[m.length]? = some (.dct true false (kT [])) := by rw [← hlk (.dct true true (kT ks))]; exact g0
    obtain ⟨e5', e6', hs⟩ := least3 (e1 := e1) (e2 := some (.ref j)) (l := l) (by omega) ks (m.set j (.dct true true (kT ks)) ++ [Ob.dct true false []]) [] e5 e6 gd K.lens (by simp; omega)
    have hset : (m.set j (.dct true true (kT ks)) ++ [Ob.dct true false []]).set m.length (.dct true false (kT (insA n l [] ks))) = m.set j (.dct true true (kT ks)) ++ [Ob.dct true false (kT (insA n l [] ks))] := by
      rw [← hlk (.dct true true (kT ks))]
      exact s0
    rw [hset] at hs
    have hA : Keys n (l :: js) (insA n l [] ks) := keys_step K fun u => by rw [insA_mem]; simp
    have hAl := insA_len (n := n) (l := l) ks []
    simp only [List.length_nil, Nat.zero_add] at hAl
    have gl : (m.set j (.dct true true (kT ks)) ++ [Ob.dct true false []])[j]? = some (.dct true true (kT ks)) := by
      rw [List.getElem?_append_left (by rw [hlk]; exact jl)]
      exact get_set hm
    have gl2 : (m.set j (.dct true true (kT ks)) ++ [Ob.dct true false (kT (insA n l [] ks))])[j]? = some (.dct true true (kT ks)) := by
      rw [List.getElem?_append_left (by rw [hlk]; exact jl)]
      exact get_set hm
    have back : (m.set j (.dct true true (kT ks)) ++ [Ob.dct true false (kT (insA n l [] ks))]).set j (.dct true false (kT ks)) = m ++ [Ob.dct true false (kT (insA n l [] ks))] := by
      rw [List.set_append_left _ _ (by rw [hlk]; exact jl), List.set_set]
      congr 1
      refine List.ext_getElem? fun i => ?_
      by_cases h : i = j
      · subst h
        rw [get_set hm, hm]
      · rw [List.getElem?_set_ne (fun z => h z.symm)]
    have el2 : l_least_load2 = l__law_least2 := rfl
    have hb : l_least_load3 [some (.val (.int (n : Int))), e1, some (.ref j), some (.val (.int (l : Int))), e4, e5, e6] m = some (.nx [some (.val (.int (n : Int))), e1, some (.ref m.length), some (.val (.int (l : Int))), some (.ref m.length), e5', e6'] (m ++ [Ob.dct true false (kT (insA n l [] ks))])) := by
      have lk : sLockF 2 (sFor (itDict (eVar 2)) (gNm 5) l_least_load2) [some (.val (.int (n : Int))), e1, some (.ref j), some (.val (.int (l : Int))), some (.ref m.length), e5, e6] (m ++ [Ob.dct true false []]) = some (.nx [some (.val (.int (n : Int))), e1, some (.ref j), some (.val (.int (l : Int))), some (.ref m.length), e5', e6'] (m ++ [Ob.dct true false (kT (insA n l [] ks))])) := by
        unfold sLockF
        simp only [List.getElem?_cons_succ, List.getElem?_cons_zero, gj, sj, ev_for, it_dict, ev_asg, ev_par, ev_if, ev_ret, ev_retN, ev_expr, ev_bin, ev_un, ev_ap, ev_cons, ev_nil, ev_varS, ev_var0, ev_c, ob_some, ev_gNm, ev_tOf, ev_asB, ev_asI, ev_tNot, ev_tAnd, ev_tOr, ev_eOf, ev_eIf, ev_chain, List.set_cons_succ, List.set_cons_zero, ev_then_nx, ev_then_rt, ev_next, ev_pTup, ev_valsC, ev_vals0, ev_eL, ev_bm, ev_aug, pix_t, pix_l, pixq0, pixq1, atI_0, atI_1, atI_2, pp_ii, ps_ii, pa_ii, plt_ii, ple_ii, pgt_ii, pge_ii, peq_ii, pne_ii, pneg_i, List.length_cons, List.length_nil, Nat.reduceAdd, Nat.reduceSub, Nat.reduceLeDiff, sz, if_true, Bool.false_eq_true, if_false, Bool.not_true, Bool.not_false, leave_v, List.take_length, plen_t, plen_l, ptup_l, ptup_t, pint_i, pis_n, pis_i, pis_t, pisnt_n, pisnt_i, pisnt_t, Int.cast_ofNat_Int, ne_eq, not_true_eq_false, not_false_eq_true, decide_true, decide_false, gl, kT_keys, run_iL, el2, hs, unlockF, unlockM, gl2, back, Option.map_some]
      simp only [l_least_load3, ev_seq, ev_asg, ev_par, ev_if, ev_ret, ev_retN, ev_expr, ev_bin, ev_un, ev_ap, ev_cons, ev_nil, ev_varS, ev_var0, ev_c, ob_some, ev_gNm, ev_tOf, ev_asB, ev_asI, ev_tNot, ev_tAnd, ev_tOr, ev_eOf, ev_eIf, ev_chain, List.set_cons_succ, List.set_cons_zero, ev_then_nx, ev_then_rt, ev_next, ev_pTup, ev_valsC, ev_vals0, ev_eL, ev_bm, ev_aug, pix_t, pix_l, pixq0, pixq1, atI_0, atI_1, atI_2, pp_ii, ps_ii, pa_ii, plt_ii, ple_ii, pgt_ii, pge_ii, peq_ii, pne_ii, pneg_i, List.length_cons, List.length_nil, Nat.reduceAdd, Nat.reduceSub, Nat.reduceLeDiff, sz, if_true, Bool.false_eq_true, if_false, Bool.not_true, Bool.not_false, leave_v, List.take_length, plen_t, plen_l, ptup_l, ptup_t, pint_i, pis_n, pis_i, pis_t, pisnt_n, pisnt_i, pisnt_t, Int.cast_ofNat_Int, ne_eq, not_true_eq_false, not_false_eq_true, decide_true, decide_false, ev_dnew, lk]
    have hl2 : (insA n l [] ks).length ≤ 4 ^ (l :: js).length := by
      rw [List.length_cons, Nat.pow_succ]
      omega
    obtain ⟨f3, f4, f5, f6, m', j', ks', q1, q2, q5, q3, q4⟩ := least_load_loop (e1 := e1) hn0 hn ls (l :: js) (m ++ [Ob.dct true false (kT (insA n l [] ks))]) m.length (insA n l [] ks) (some (.val (.int (l : Int)))) (some (.ref m.length)) e5' e6' g0 hA hl2 (by rw [List.length_cons]; omega)
    refine ⟨f3, f4, f5, f6, m', j', ks', ?_, ?_, q5, ?_, ?_⟩
    · have e : encI (l :: ls) = .int (l : Int) :: encI ls := rfl
      rw [e, step_nx (env1 := [some (.val (.int (n : Int))), e1, some (.ref j), some (.val (.int (l : Int))), e4, e5, e6]) rfl hb]
      exact q1
    · have := congrArg (List.take m.length) q2
      rw [List.take_take, tk, l1, Nat.min_eq_left (by omega)] at this
      exact this
    · simpa using q3
    · rw [List.length_cons] at q4 ⊢
      have : js.length + 1 + ls.length = js.length + (ls.length + 1) := by omega
      rw [this] at q4
      exact q4
end
end L36

set_option Elab.async false
set_option linter.all false
set_option maxRecDepth 100000
namespace L36
open PySem PySem.Spec PyProof.Rows L2 Ev Qa Ld
section
variable {m : M} {n : Nat} {ls : List Nat}
theorem set_back {j : Nat} {a b : Ob} (h : m[j]? = some a) : (m.set j b).set j a = m := by
  rw [List.set_set]
  refine List.ext_getElem? fun i => ?_
  by_cases e : i = j
  · subst e
    rw [get_set h, h]
  · rw [List.getElem?_set_ne (fun z => e z.symm)]
theorem at_lst {u : List Nat} (h : u ≠ []) : L2.atI (encI u) (-1) = some (.int ((lst u : Nat) : Int)) := by
  have e := List.dropLast_concat_getLast h
  have e2 : lst u = u.getLast h := by
    unfold lst
    rw [List.getLast?_eq_getLast h]
    rfl
  rw [e2]
  conv => lhs; rw [← e, encI_app]
  exact at_last
theorem least_load_ok (J : Jb n ls) : ∃ T, Lst n ls.reverse T ∧ m_least_load [.val (.int (n : Int)), .val (encT ls)] m = some (.val (.int ((T : Nat) : Int)), m) := by
  have h1 := J.n1
  have h2 := J.n3
  have hl := J.l10
  have ek : kT [List.replicate n 0] = [(encT (List.replicate n 0), .bool true)] := rfl
  have gd : (m ++ [Ob.dct true false (kT [List.replicate n 0])])[m.length]? = some (.dct true false (kT [List.replicate n 0])) := g0
  obtain ⟨f3, f4, f5, f6, m', j, ks, q1, q2, q5, q3, q4⟩ := least_load_loop (e1 := some (.val (encT ls))) h1 h2 ls [] (m ++ [Ob.dct true false (kT [List.replicate n 0])]) m.length [List.replicate n 0] none none none none gd (keys_nil n) (by simp) (by simpa using hl)
  rw [List.append_nil] at q3
  have K := keys_least h1 q3
  refine ⟨_, K, ?_⟩
  have ne : ks.map lst ≠ [] := by have := Keys.ne h1 q3; simpa using this
  have tk2 : m'.take m.length = m := by
    have := congrArg (List.take m.length) q2
    rw [List.take_take, tk, l1, Nat.min_eq_left (by omega)] at this
    exact this
  have hc : ∀ e0 e1 e2 e3 e4 e6 m', clpL (.nm 5) tTrue e_least_load4 [e0, e1, e2, e3, e4, none, e6] (ks.map encT) m' = some (ks.map fun u => .int ((lst u : Nat) : Int), m') := fun e0 e1 e2 e3 e4 e6 m' =>
    clpL_all encT (fun u => .int ((lst u : Nat) : Int)) ks fun u hu => ⟨_, rfl, by
      have r := (q3 u).mp hu
      have nu : u ≠ [] := fun z => by
        have := r.len
        rw [z] at this
        simp at this
        omega
      have eT : encT u = .tuple (encI u) := rfl
      simp only [e_least_load4, ev_asg, ev_par, ev_if, ev_ret, ev_retN, ev_expr, ev_bin, ev_un, ev_ap, ev_cons, ev_nil, ev_varS, ev_var0, ev_c, ob_some, ev_gNm, ev_tOf, ev_asB, ev_asI, ev_tNot, ev_tAnd, ev_tOr, ev_eOf, ev_eIf, ev_chain, List.set_cons_succ, List.set_cons_zero, ev_then_nx, ev_then_rt, ev_next, ev_pTup, ev_valsC, ev_vals0, ev_eL, ev_bm, ev_aug, pix_t, pix_l, pixq0, pixq1, atI_0, atI_1, atI_2, pp_ii, ps_ii, pa_ii, plt_ii, ple_ii, pgt_ii, pge_ii, peq_ii, pne_ii, pneg_i, List.length_cons, List.length_nil, Nat.reduceAdd, Nat.reduceSub, Nat.reduceLeDiff, sz, if_true, Bool.false_eq_true, if_false, Bool.not_true, Bool.not_false, leave_v, List.take_length, plen_t, plen_l, ptup_l, ptup_t, pint_i, pis_n, pis_i, pis_t, pisnt_n, pisnt_i, pisnt_t, Int.cast_ofNat_Int, ne_eq, not_true_eq_false, not_false_eq_true, decide_true, decide_false, eT, at_lst nu]⟩
  have hlen : (ks.map encT).length ≤ 16777216 := by
    rw [List.length_map]
    have pw : 4 ^ (([] : List Nat).length + ls.length) ≤ 4 ^ 10 := Nat.pow_le_pow_right (by decide) (by simp; omega)
    have pw2 : (4 : Nat) ^ 10 = 1048576 := by decide
    simp only [List.length_nil] at pw q4
    omega
  have em : (ks.map fun u => PyData.int ((lst u : Nat) : Int)) = encI (ks.map lst) := by unfold encI; rw [List.map_map]; rfl
  have p : pMin [.val (.list (encI (ks.map lst)))] m' = some (.val (.int ((mn (ks.map lst) : Nat) : Int)), m') := pmin_N rfl ne
  have z := prepA_0 (m := m ++ [Ob.dct true false []]) h1 (by omega : n ≤ 1000)
  have eT : encT ls = .tuple (encI ls) := rfl
  have c := check_jobs_ok (m := m) J
  have di : ∀ e1 e2 e3 e4 e5 e6, eDisp1 true (eBin pRepA (eAp pTup (aCons (eC (.int 0)) aNil)) (eVar 0)) (eC (.bool true)) [some (.val (.int (n : Int))), e1, e2, e3, e4, e5, e6] m = some (.ref m.length, m ++ [Ob.dct true false (kT [List.replicate n 0])]) := fun e1 e2 e3 e4 e5 e6 => by
    unfold eDisp1
    simp only [ev_asg, ev_par, ev_if, ev_ret, ev_retN, ev_expr, ev_bin, ev_un, ev_ap, ev_cons, ev_nil, ev_varS, ev_var0, ev_c, ob_some, ev_gNm, ev_tOf, ev_asB, ev_asI, ev_tNot, ev_tAnd, ev_tOr, ev_eOf, ev_eIf, ev_chain, List.set_cons_succ, List.set_cons_zero, ev_then_nx, ev_then_rt, ev_next, ev_pTup, ev_valsC, ev_vals0, ev_eL, ev_bm, ev_aug, pix_t, pix_l, pixq0, pixq1, atI_0, atI_1, atI_2, pp_ii, ps_ii, pa_ii, plt_ii, ple_ii, pgt_ii, pge_ii, peq_ii, pne_ii, pneg_i, List.length_cons, List.length_nil, Nat.reduceAdd, Nat.reduceSub, Nat.reduceLeDiff, sz, if_true, Bool.false_eq_true, if_false, Bool.not_true, Bool.not_false, leave_v, List.take_length, plen_t, plen_l, ptup_l, ptup_t, pint_i, pis_n, pis_i, pis_t, pisnt_n, pisnt_i, pisnt_t, Int.cast_ofNat_Int, ne_eq, not_true_eq_false, not_false_eq_true, decide_true, decide_false, z, keyOk_T]
    rw [g0]
    simp only [if_true, ek]
    rw [s0]
  have lk : ∀ e1 e3 e4 e5 e6, eLockF 2 (eL (nComp (itDict (eVar 2)) (.nm 5) [5] tTrue e_least_load4)) [some (.val (.int (n : Int))), e1, some (.ref j), e3, e4, e5, e6] m' = some (.val (.list (encI (ks.map lst))), m') := fun e1 e3 e4 e5 e6 => by
    have gl := get_set (b := .dct true true (kT ks)) q5
    unfold eLockF
    simp only [List.getElem?_cons_succ, List.getElem?_cons_zero, q5, ev_asg, ev_par, ev_if, ev_ret, ev_retN, ev_expr, ev_bin, ev_un, ev_ap, ev_cons, ev_nil, ev_varS, ev_var0, ev_c, ob_some, ev_gNm, ev_tOf, ev_asB, ev_asI, ev_tNot, ev_tAnd, ev_tOr, ev_eOf, ev_eIf, ev_chain, List.set_cons_succ, List.set_cons_zero, ev_then_nx, ev_then_rt, ev_next, ev_pTup, ev_valsC, ev_vals0, ev_eL, ev_bm, ev_aug, pix_t, pix_l, pixq0, pixq1, atI_0, atI_1, atI_2, pp_ii, ps_ii, pa_ii, plt_ii, ple_ii, pgt_ii, pge_ii, peq_ii, pne_ii, pneg_i, List.length_cons, List.length_nil, Nat.reduceAdd, Nat.reduceSub, Nat.reduceLeDiff, sz, if_true, Bool.false_eq_true, if_false, Bool.not_true, Bool.not_false, leave_v, List.take_length, plen_t, plen_l, ptup_l, ptup_t, pint_i, pis_n, pis_i, pis_t, pisnt_n, pisnt_i, pisnt_t, Int.cast_ofNat_Int, ne_eq, not_true_eq_false, not_false_eq_true, decide_true, decide_false, ev_comp, it_dict, gl, kT_keys, runC_iL hlen, wipeE, List.foldl, hc, em, unlockM, set_back q5, Option.map_some]
  rw [eT] at q1 c
  simp only [m_least_load, bodyF, List.length_cons, List.length_nil, Nat.reduceAdd, Nat.reduceSub, List.map_cons, List.map_nil, List.replicate, List.cons_append, List.nil_append, List.append_nil, b_least_load, ev_seq, ev_asg, ev_par, ev_if, ev_ret, ev_retN, ev_expr, ev_bin, ev_un, ev_ap, ev_cons, ev_nil, ev_varS, ev_var0, ev_c, ob_some, ev_gNm, ev_tOf, ev_asB, ev_asI, ev_tNot, ev_tAnd, ev_tOr, ev_eOf, ev_eIf, ev_chain, List.set_cons_succ, List.set_cons_zero, ev_then_nx, ev_then_rt, ev_next, ev_pTup, ev_valsC, ev_vals0, ev_eL, ev_bm, ev_aug, pix_t, pix_l, pixq0, pixq1, atI_0, atI_1, atI_2, pp_ii, ps_ii, pa_ii, plt_ii, ple_ii, pgt_ii, pge_ii, peq_ii, pne_ii, pneg_i, List.length_cons, List.length_nil, Nat.reduceAdd, Nat.reduceSub, Nat.reduceLeDiff, sz, if_true, Bool.false_eq_true, if_false, Bool.not_true, Bool.not_false, leave_v, List.take_length, plen_t, plen_l, ptup_l, ptup_t, pint_i, pis_n, pis_i, pis_t, pisnt_n, pisnt_i, pisnt_t, Int.cast_ofNat_Int, ne_eq, not_true_eq_false, not_false_eq_true, decide_true, decide_false, eT, c, di, ev_for, it_an, an1_t, run_iL]
  rw [q1]
  simp only [ev_asg, ev_par, ev_if, ev_ret, ev_retN, ev_expr, ev_bin, ev_un, ev_ap, ev_cons, ev_nil, ev_varS, ev_var0, ev_c, ob_some, ev_gNm, ev_tOf, ev_asB, ev_asI, ev_tNot, ev_tAnd, ev_tOr, ev_eOf, ev_eIf, ev_chain, List.set_cons_succ, List.set_cons_zero, ev_then_nx, ev_then_rt, ev_next, ev_pTup, ev_valsC, ev_vals0, ev_eL, ev_bm, ev_aug, pix_t, pix_l, pixq0, pixq1, atI_0, atI_1, atI_2, pp_ii, ps_ii, pa_ii, plt_ii, ple_ii, pgt_ii, pge_ii, peq_ii, pne_ii, pneg_i, List.length_cons, List.length_nil, Nat.reduceAdd, Nat.reduceSub, Nat.reduceLeDiff, sz, if_true, Bool.false_eq_true, if_false, Bool.not_true, Bool.not_false, leave_v, List.take_length, plen_t, plen_l, ptup_l, ptup_t, pint_i, pis_n, pis_i, pis_t, pisnt_n, pisnt_i, pisnt_t, Int.cast_ofNat_Int, ne_eq, not_true_eq_false, not_false_eq_true, decide_true, decide_false, lk, p, tk2]
/-! parted jobs -/
theorem parted_ok (J : Jb n ls) : m_least_parted [.val (.int (n : Int)), .val (encT ls)] m = some (.val (if ls.sum ≤ mx ls * n then .tuple [.int ((mx ls : Nat) : Int), .int 1] else encQ (((ls.sum : Nat) : Int) / ((n : Nat) : Int) : Rat)), m) := by
  have h1 := J.n1
  have h2 := J.n3
  have hl := J.l10
  have ne : ls ≠ [] := fun z => by
    have := J.l1
    rw [z] at this
    simp at this
  have c := check_jobs_ok (m := m) J
  have p : pMax [.val (encT ls)] m = some (.val (.int ((mx ls : Nat) : Int)), m) := pmax_N rfl ne
  have hm := J.le _ (mx_mem ne)
  have pm := pmN (m := m) (a := mx ls) (b := n) (by omega) (by omega)
  have fr := fraction_ok (m := m) (n := ((ls.sum : Nat) : Int)) (d := (n : Int)) (by omega) (by
    unfold Sz
    rw [Int.natAbs_natCast]
    exact Nat.lt_of_lt_of_le (show n < 2 ^ 3 by omega) (Nat.pow_le_pow_right (by decide) (by decide)))
  by_cases g : ls.sum ≤ mx ls * n
  · have g' : ((ls.sum : Nat) : Int) ≤ ((mx ls * n : Nat) : Int) := by omega
    simp only [m_least_parted, bodyF, List.length_cons, List.length_nil, Nat.reduceAdd, Nat.reduceSub, List.map_cons, List.map_nil, List.replicate, List.cons_append, List.nil_append, List.append_nil, b_least_parted, ev_seq, ev_asg, ev_par, ev_if, ev_ret, ev_retN, ev_expr, ev_bin, ev_un, ev_ap, ev_cons, ev_nil, ev_varS, ev_var0, ev_c, ob_some, ev_gNm, ev_tOf, ev_asB, ev_asI, ev_tNot, ev_tAnd, ev_tOr, ev_eOf, ev_eIf, ev_chain, List.set_cons_succ, List.set_cons_zero, ev_then_nx, ev_then_rt, ev_next, ev_pTup, ev_valsC, ev_vals0, ev_eL, ev_bm, ev_aug, pix_t, pix_l, pixq0, pixq1, atI_0, atI_1, atI_2, pp_ii, ps_ii, pa_ii, plt_ii, ple_ii, pgt_ii, pge_ii, peq_ii, pne_ii, pneg_i, List.length_cons, List.length_nil, Nat.reduceAdd, Nat.reduceSub, Nat.reduceLeDiff, sz, if_true, Bool.false_eq_true, if_false, Bool.not_true, Bool.not_false, leave_v, List.take_length, plen_t, plen_l, ptup_l, ptup_t, pint_i, pis_n, pis_i, pis_t, pisnt_n, pisnt_i, pisnt_t, Int.cast_ofNat_Int, ne_eq, not_true_eq_false, not_false_eq_true, decide_true, decide_false, c, p, psum_T, pm, g', g]
  · have g' : ¬ ((ls.sum : Nat) : Int) ≤ ((mx ls * n : Nat) : Int) := by omega
    simp only [m_least_parted, bodyF, List.length_cons, List.length_nil, Nat.reduceAdd, Nat.reduceSub, List.map_cons, List.map_nil, List.replicate, List.cons_append, List.nil_append, List.append_nil, b_least_parted, ev_seq, ev_asg, ev_par, ev_if, ev_ret, ev_retN, ev_expr, ev_bin, ev_un, ev_ap, ev_cons, ev_nil, ev_varS, ev_var0, ev_c, ob_some, ev_gNm, ev_tOf, ev_asB, ev_asI, ev_tNot, ev_tAnd, ev_tOr, ev_eOf, ev_eIf, ev_chain, List.set_cons_succ, List.set_cons_zero, ev_then_nx, ev_then_rt, ev_next, ev_pTup, ev_valsC, ev_vals0, ev_eL, ev_bm, ev_aug, pix_t, pix_l, pixq0, pixq1, atI_0, atI_1, atI_2, pp_ii, ps_ii, pa_ii, plt_ii, ple_ii, pgt_ii, pge_ii, peq_ii, pne_ii, pneg_i, List.length_cons, List.length_nil, Nat.reduceAdd, Nat.reduceSub, Nat.reduceLeDiff, sz, if_true, Bool.false_eq_true, if_false, Bool.not_true, Bool.not_false, leave_v, List.take_length, plen_t, plen_l, ptup_l, ptup_t, pint_i, pis_n, pis_i, pis_t, pisnt_n, pisnt_i, pisnt_t, Int.cast_ofNat_Int, ne_eq, not_true_eq_false, not_false_eq_true, decide_true, decide_false, c, p, psum_T, pm, g', g, fr]
end
end L36

set_option Elab.async false
set_option linter.all false
set_option maxRecDepth 100000
set_option exponentiation.threshold 5000
namespace L36
open PySem PySem.Spec PyProof.Rows L2 Ev Qa Ld
theorem encI_of {P : Nat → Prop} : ∀ {ds : List D}, (∀ d ∈ ds, ∃ a : Nat, d = .int (a : Int) ∧ P a) → ∃ ls : List Nat, ds = encI ls ∧ ∀ a ∈ ls, P a
  | [], _ => ⟨[], rfl, fun a h => by cases h⟩
  | d :: ds, h => by
    obtain ⟨a, rfl, ha⟩ := h d (by simp)
    obtain ⟨ls, rfl, hl⟩ := encI_of (ds := ds) fun e he => h e (List.mem_cons_of_mem _ he)
    refine ⟨a :: ls, rfl, fun b hb => ?_⟩
    rcases List.mem_cons.mp hb with q | q
    · rw [q]; exact ha
    · exact hl b q
section
variable {m rest : M} {n : Nat} {ls : List Nat}
/-- jobs drawn -/
theorem jobs_drawn (h : Bx rest m) : ∃ (k : Nat) (m1 : M), 1 ≤ k ∧ k ≤ 7 ∧ Bx rest m1 ∧ m__law_draw [.ref 0, .val (.int 7)] m = some (.val (.int ((k : Int) - 1)), m1) ∧
    ∀ e1 e2 e3 e4 e5 e6 e7, ∃ (ls : List Nat) (m2 : M), clpL (.nm 7) tTrue e__law_loads1 (wipeE [some (.ref 0), e1, e2, e3, e4, e5, e6, e7] [7]) ((List.range k).map fun j : Nat => PyData.int j) m1 = some (encI ls, m2) ∧ ls.length = k ∧ (∀ l ∈ ls, 1 ≤ l ∧ l ≤ 12) ∧ Bx rest m2 := by
  obtain ⟨d, m1, h1, h2, h3⟩ := drawN h (k := 7) (by decide) (by decide)
  refine ⟨d + 1, m1, by omega, by omega, h3, ?_, fun e1 e2 e3 e4 e5 e6 e7 => ?_⟩
  · have : (((d + 1 : Nat) : Int) - 1) = (d : Int) := by omega
    rw [this]
    exact h1
  · obtain ⟨ds, m2, c1, c2, c3, c4⟩ := clpL_inv (p := .nm 7) (te := e__law_loads1) (env := wipeE [some (.ref 0), e1, e2, e3, e4, e5, e6, e7] [7]) (Bx rest) (fun d => ∃ a : Nat, d = .int (a : Int) ∧ 1 ≤ a ∧ a ≤ 12) ((List.range (d + 1)).map fun j : Nat => PyData.int j) m1 h3 fun x hx m hm => by
      obtain ⟨y, m', y1, y2, y3⟩ := drawN hm (k := 12) (by decide) (by decide)
      have y1' : m__law_draw [.ref 0, .val (.int 12)] m = some (.val (.int (y : Int)), m') := y1
      refine ⟨_, .int (1 + (y : Int)), m', rfl, ?_, ⟨y + 1, by congr 1; omega, by omega, by omega⟩, y3⟩
      simp only [e__law_loads1, wipeE, List.foldl, ev_asg, ev_par, ev_if, ev_ret, ev_retN, ev_expr, ev_bin, ev_un, ev_ap, ev_cons, ev_nil, ev_varS, ev_var0, ev_c, ob_some, ev_gNm, ev_tOf, ev_asB, ev_asI, ev_tNot, ev_tAnd, ev_tOr, ev_eOf, ev_eIf, ev_chain, List.set_cons_succ, List.set_cons_zero, ev_then_nx, ev_then_rt, ev_next, ev_pTup, ev_valsC, ev_vals0, ev_eL, ev_bm, ev_aug, pix_t, pix_l, pixq0, pixq1, atI_0, atI_1, atI_2, pp_ii, ps_ii, pa_ii, plt_ii, ple_ii, pgt_ii, pge_ii, peq_ii, pne_ii, pneg_i, List.length_cons, List.length_nil, Nat.reduceAdd, Nat.reduceSub, Nat.reduceLeDiff, sz, if_true, Bool.false_eq_true, if_false, Bool.not_true, Bool.not_false, leave_v, List.take_length, plen_t, plen_l, ptup_l, ptup_t, pint_i, pis_n, pis_i, pis_t, pisnt_n, pisnt_i, pisnt_t, Int.cast_ofNat_Int, ne_eq, not_true_eq_false, not_false_eq_true, decide_true, decide_false, y1']
    obtain ⟨ls, e1, e2⟩ := encI_of (P := fun a => 1 ≤ a ∧ a ≤ 12) c3
    subst e1
    refine ⟨ls, m2, c1, ?_, e2, c4⟩
    rw [encI_len] at c2
    simpa using c2
def part (n : Nat) (ls : List Nat) : Rat := if ls.sum ≤ mx ls * n then ((mx ls : Nat) : Rat) else (((ls.sum : Nat) : Int) : Rat) / ((n : Nat) : Int)
theorem sum_le {ls : List Nat} {B : Nat} (h : ∀ l ∈ ls, l ≤ B) : ls.sum ≤ ls.length * B := sum_le_mul h
structure Jb3 (n : Nat) (ls : List Nat) : Prop extends Jb n ls where
  l12 : ∀ l ∈ ls, l ≤ 12
theorem quo_facts (J : Jb n ls) : SmQ ((((ls.sum : Nat) : Int) : Rat) / ((n : Nat) : Int)) ∧ (((ls.sum : Nat) : Int) : Rat) / ((n : Nat) : Int) * (n : Rat) = (ls.sum : Rat) := by
  have hn : (n : Rat) ≠ 0 := by
    have := J.n1
    intro z
    have : (n : Rat) = ((0 : Nat) : Rat) := z
    have : n = 0 := by exact_mod_cast this
    omega
  have hp : (0 : Rat) < (n : Rat) := by
    have := J.n1
    have : ((0 : Nat) : Rat) < (n : Rat) := by exact_mod_cast (by omega : 0 < n)
    exact this
  have e : (((ls.sum : Nat) : Int) : Rat) / (((n : Nat) : Int) : Rat) = (ls.sum : Rat) / (n : Rat) := rfl
  have hs : ls.sum ≤ 10000 := Nat.le_trans (sum_le J.le) (by have := J.l10; omega)
  have e2 : (ls.sum : Rat) / (n : Rat) * (n : Rat) = (ls.sum : Rat) := by grind
  have h0 : (0 : Rat) ≤ (ls.sum : Rat) := by
    have : ((0 : Nat) : Rat) ≤ (ls.sum : Rat) := by exact_mod_cast Nat.zero_le _
    exact this
  have h1 : (1 : Rat) ≤ (n : Rat) := by
    have : ((1 : Nat) : Rat) ≤ (n : Rat) := by exact_mod_cast J.n1
    exact this
  have hs' : (ls.sum : Rat) ≤ ((10000 : Nat) : Rat) := by exact_mod_cast hs
  have q0 : (0 : Rat) ≤ (ls.sum : Rat) / (n : Rat) := by
    rw [Rat.div_def]
    exact Rat.mul_nonneg h0 (Rat.le_of_lt (Rat.inv_pos.mpr hp))
  have q1 : (ls.sum : Rat) / (n : Rat) ≤ (ls.sum : Rat) := by
    have : (ls.sum : Rat) / (n : Rat) * 1 ≤ (ls.sum : Rat) / (n : Rat) * (n : Rat) := Rat.mul_le_mul_of_nonneg_left h1 q0
    grind
  refine ⟨?_, by rw [e]; exact e2⟩
  rw [e]
  refine SmQ.of (N := n) (B := 10000) (by have := J.n1; omega) ⟨((ls.sum : Nat) : Int), by rw [e2]; rfl⟩ (by grind) (by grind) ?_ ?_
  · have := J.n3
    exact Nat.lt_of_lt_of_le (show 10000 * n < 2 ^ 20 by omega) (Nat.pow_le_pow_right (by decide) (by decide))
  · have := J.n3
    exact Nat.lt_of_lt_of_le (show n < 2 ^ 20 by omega) (Nat.pow_le_pow_right (by decide) (by decide))
theorem small_nat {a : Nat} (h : a ≤ 1000000) : SmQ ((a : Nat) : Rat) := SmQ.nat (Nat.lt_of_lt_of_le (show a < 2 ^ 20 by omega) (Nat.pow_le_pow_right (by decide) (by decide)))
theorem quo_lt (J : Jb n ls) : (((ls.sum : Nat) : Int) : Rat) / ((n : Nat) : Int) < ((mx ls : Nat) : Rat) ↔ ls.sum < mx ls * n := by
  obtain ⟨_, e⟩ := quo_facts J
  have hp : (0 : Rat) < (n : Rat) := by
    have := J.n1
    have : ((0 : Nat) : Rat) < (n : Rat) := by exact_mod_cast (by omega : 0 < n)
    exact this
  have k := Rat.mul_lt_mul_right (a := (((ls.sum : Nat) : Int) : Rat) / ((n : Nat) : Int)) (b := ((mx ls : Nat) : Rat)) hp
  rw [e] at k
  rw [← k]
  exact_mod_cast Iff.rfl
theorem quo_le {T : Nat} (J : Jb n ls) : (((ls.sum : Nat) : Int) : Rat) / ((n : Nat) : Int) ≤ ((T : Nat) : Rat) ↔ ls.sum ≤ T * n := by
  obtain ⟨_, e⟩ := quo_facts J
  have hp : (0 : Rat) < (n : Rat) := by
    have := J.n1
    have : ((0 : Nat) : Rat) < (n : Rat) := by exact_mod_cast (by omega : 0 < n)
    exact this
  have k := Rat.mul_lt_mul_right (a := ((T : Nat) : Rat)) (b := (((ls.sum : Nat) : Int) : Rat) / ((n : Nat) : Int)) hp
  rw [e] at k
  have e3 : ((T : Nat) : Rat) * (n : Rat) < (ls.sum : Rat) ↔ T * n < ls.sum := by exact_mod_cast Iff.rfl
  rw [e3] at k
  rw [← Rat.not_lt, ← k, Nat.not_lt]
theorem an_l {l : List Nat} {m : M} : an1 (.val (.list (encI l))) m = iL (encI l) m := rfl
/-- what is asked of jobs -/
def tlL : SF := (sSeq (sAsg (eAp m__law_turn (aCons (eVar 1) (aCons (eVar 2) aNil))) (gTp 2 (gsCons (gNm 3) (gsCons (gNm 4) gsNil)))) (sSeq (sAsg (eAp m__law_least (aCons (eVar 1) (aCons (eVar 2) aNil))) (gNm 5)) (sSeq (sIf (tOrF (tOf (eBin pNe (eAp pRepr (aCons (eAp m_in_turn (aCons (eVar 1) (aCons (eVar 2) aNil))) aNil)) (eAp pRepr (aCons (eAp pTupleOf (aCons (eVar 3) aNil)) aNil)))) (tOf (eBin pNe (eAp m_least_load (aCons (eVar 1) (aCons (eVar 2) aNil))) (eVar 5)))) (sRet (eC (.bool false))) sNext) (sSeq (sIf (tOrF (tOf (eBin pGt (eBin pMul (eVar 4) (eVar 1)) (eBin pMul (eBin pSub (eBin pMul (eC (.int 2)) (eVar 1)) (eC (.int 1))) (eVar 5)))) (tOf (eBin pGt (eBin pMul (eBin pMul (eC (.int 3)) (eVar 1)) (eBin pIdx (eAp m__law_turn (aCons (eVar 1) (aCons (eRev (eAp pSortedA (aCons (eVar 2) aNil))) aNil))) (eC (.int 1)))) (eBin pMul (eBin pSub (eBin pMul (eC (.int 4)) (eVar 1)) (eC (.int 1))) (eVar 5))))) (sRet (eC (.bool false))) sNext) (sSeq (sAsg (eAp m__law_lowest (aCons (eAp pSum (aCons (eVar 2) aNil)) (aCons (eVar 1) aNil))) (gNm 6)) (sSeq (sAsg (eIf (tOf (eAp m__law_more (aCons (eAp pTup (aCons (eAp pMax (aCons (eVar 2) aNil)) (aCons (eC (.int 1)) aNil))) (aCons (eVar 6) aNil)))) (eAp pTup (aCons (eAp pMax (aCons (eVar 2) aNil)) (aCons (eC (.int 1)) aNil))) (eVar 6)) (gNm 6)) (sRet (eOf (tAndF (tOf (eBin pEq (eAp pRepr (aCons (eAp m_least_parted (aCons (eVar 1) (aCons (eVar 2) aNil))) aNil)) (eAp pRepr (aCons (eVar 6) aNil)))) (tNotF (tOf (eAp m__law_more (aCons (eVar 6) (aCons (eAp pTup (aCons (eVar 5) (aCons (eC (.int 1)) aNil))) aNil))))))))))))))
theorem loads_ok {e0 e7 : Option R} (J : Jb3 n ls) : tlL
    [e0, some (.val (.int (n : Int))), some (.val (encT ls)), none, none, none, none, e7] m = some (.rt (.val (.bool true)) m) := by
  have J' := J.toJb
  have h1 := J.n1
  have h3 := J.n3
  have hl := J.l10
  have ne : ls ≠ [] := fun z => by
    have := J.l1
    rw [z] at this
    simp at this
  obtain ⟨T, hT, c1⟩ := law_least_ok (m := m) J'
  obtain ⟨T', hT', c2⟩ := least_load_ok (m := m) J'
  obtain rfl := hT.uniq hT'
  have hS : Sched n ls T := hT.sched.perm (List.reverse_perm ls)
  have c3 := law_turn_ok (m := m) (n := n) (ls := ls) (r := .val (encT ls)) rfl rfl h1 h3 hl
  have c4 := in_turn_ok (m := m) J'
  have hp : (srt ls).reverse.Perm ls := (List.reverse_perm _).trans (srt_perm ls)
  have c5 := law_turn_ok (m := m) (n := n) (ls := (srt ls).reverse) (r := .val (.list (encI (srt ls).reverse))) rfl rfl h1 h3 (by rw [hp.length_eq]; exact hl)
  have sr := psort_N (m := m) (r := .val (encT ls)) (l := ls) rfl (by omega)
  have rv : rev1 (.val (.list (encI (srt ls)))) m = some (.val (.list (encI (srt ls).reverse)), m) := by
    rw [rev1_l]
    unfold encI
    rw [← List.map_reverse]
  have b1 := graham_of h1 hS _ (mx_mem (runT_ne (rp_ne h1) (ls := ls)))
  have b2 := lpt_of h1 (hS.perm hp.symm) (by rw [List.pairwise_reverse]; exact srt_sorted ls) _ (mx_mem (runT_ne (rp_ne h1) (ls := (srt ls).reverse)))
  have hsum := hS.sum
  have hmx := hS.each (mx_mem ne)
  have mx12 := J.l12 _ (mx_mem ne)
  have s120 : ls.sum ≤ 120 := Nat.le_trans (sum_le J.l12) (by omega)
  have T120 : T ≤ 120 := by
    obtain ⟨u, hu, e⟩ := hT.at_
    obtain ⟨os, o1, o2, o3⟩ := hu.jobs
    have nu : u ≠ [] := fun z => by
      have := hu.len
      rw [z] at this
      simp at this
      omega
    have := mem_le_sum (lst_mem nu)
    rw [← e]
    have q := psum o3
    rw [← sum_flatten, psum o2, psum (List.reverse_perm ls)] at q
    omega
  generalize hL : mx (runT (List.replicate n 0) ls) = L at *
  generalize hM : mx (runT (List.replicate n 0) (srt ls).reverse) = L2 at *
  have L1k : L ≤ 10000 := by
    have : n * L ≤ 7 * 120 := Nat.le_trans b1 (Nat.mul_le_mul (by omega) T120)
    have : 1 * L ≤ n * L := Nat.mul_le_mul_right _ h1
    omega
  have L2k : L2 ≤ 10000 := by
    have : 3 * n * L2 ≤ 15 * 120 := Nat.le_trans b2 (Nat.mul_le_mul (by omega) T120)
    have : 3 * n * L2 = n * (3 * L2) := by rw [Nat.mul_comm 3 n, Nat.mul_assoc]
    have : 1 * (3 * L2) ≤ n * (3 * L2) := Nat.mul_le_mul_right _ h1
    omega
  have i2 : ((2 * n - 1 : Nat) : Int) = 2 * (n : Int) - 1 := by omega
  have i4 : ((4 * n - 1 : Nat) : Int) = 4 * (n : Int) - 1 := by omega
  have g1 : ¬ ((2 * (n : Int) - 1) * (T : Int) < (L : Int) * (n : Int)) := by
    have : ((n * L : Nat) : Int) ≤ (((2 * n - 1) * T : Nat) : Int) := by exact_mod_cast b1
    rw [Int.natCast_mul, Int.natCast_mul, i2, Int.mul_comm (n : Int)] at this
    omega
  have g2 : ¬ ((4 * (n : Int) - 1) * (T : Int) < 3 * (n : Int) * (L2 : Int)) := by
    have : ((3 * n * L2 : Nat) : Int) ≤ (((4 * n - 1) * T : Nat) : Int) := by exact_mod_cast b2
    simp only [Int.natCast_mul, i4] at this
    have e : ((3 : Nat) : Int) = 3 := rfl
    rw [e] at this
    omega
  have p1 := pm_ii (m := m) (i := (L : Int)) (j := (n : Int)) (by omega) (by omega)
  have p2 := pm_ii (m := m) (i := 2) (j := (n : Int)) (by omega) (by omega)
  have p3 := pm_ii (m := m) (i := 2 * (n : Int) - 1) (j := (T : Int)) (by omega) (by omega)
  have p4 := pm_ii (m := m) (i := 3) (j := (n : Int)) (by omega) (by omega)
  have p5 := pm_ii (m := m) (i := 3 * (n : Int)) (j := (L2 : Int)) (by omega) (by omega)
  have p6 := pm_ii (m := m) (i := 4) (j := (n : Int)) (by omega) (by omega)
  have p7 := pm_ii (m := m) (i := 4 * (n : Int) - 1) (j := (T : Int)) (by omega) (by omega)
  have shf : Sh 1000 1 (encT (fnd (List.replicate n 0) ls)) := (Sh.tup (sh_encI fun a ha => by
    have := fnd_lt ls _ (rp_ne h1) a ha
    rw [List.length_replicate] at this
    omega)).up (by rw [fnd_len]; omega) (by decide)
  have z1 := shf.repr (m := m) (by decide) (by decide)
  have z2 := pNe_shown (m := m) shf.sm
  have eTf : PyData.tuple (encI (fnd (List.replicate n 0) ls)) = encT (fnd (List.replicate n 0) ls) := rfl
  obtain ⟨sq, sqe⟩ := quo_facts J'
  have low := lowest_ok (m := m) (n := ((ls.sum : Nat) : Int)) (d := (n : Int)) (by omega) (by
    unfold Sz
    rw [Int.natAbs_natCast]
    exact Nat.lt_of_lt_of_le (show n < 2 ^ 3 by omega) (Nat.pow_le_pow_right (by decide) (by decide)))
  have pmx : pMax [.val (encT ls)] m = some (.val (.int ((mx ls : Nat) : Int)), m) := pmax_N rfl ne
  have emx : PyData.tuple [.int ((mx ls : Nat) : Int), .int 1] = encQ ((mx ls : Nat) : Rat) := rfl
  have eT1 : PyData.tuple [.int ((T : Nat) : Int), .int 1] = encQ ((T : Nat) : Rat) := rfl
  have mo := more_ok (m := m) (small_nat (a := mx ls) (by omega)) sq
  have lt := quo_lt J'
  have pp := parted_ok (m := m) J'
  have hP : (if ls.sum < mx ls * n then ((mx ls : Nat) : Rat) else (((ls.sum : Nat) : Int) : Rat) / ((n : Nat) : Int)) = part n ls := by
    unfold part
    by_cases c : ls.sum < mx ls * n
    · rw [if_pos c, if_pos (by omega)]
    · rw [if_neg c]
      by_cases d : ls.sum ≤ mx ls * n
      · rw [if_pos d]
        have e1 : (((ls.sum : Nat) : Int) : Rat) / ((n : Nat) : Int) ≤ ((mx ls : Nat) : Rat) := (quo_le J').mpr d
        have e2 := mt lt.mp c
        grind
      · rw [if_neg d]
  have hP2 : (if ls.sum ≤ mx ls * n then PyData.tuple [.int ((mx ls : Nat) : Int), .int 1] else encQ ((((ls.sum : Nat) : Int) : Rat) / ((n : Nat) : Int))) = encQ (part n ls) := by
    unfold part
    split <;> rfl
  rw [hP2] at pp
  have sP : SmQ (part n ls) := by
    unfold part
    split
    · exact small_nat (by omega)
    · exact sq
  have leP : ¬ ((T : Nat) : Rat) < part n ls := by
    unfold part
    split
    · have : ((mx ls : Nat) : Rat) ≤ ((T : Nat) : Rat) := by exact_mod_cast hmx
      grind
    · have := (quo_le (T := T) J').mpr (by rw [Nat.mul_comm]; exact hsum)
      grind
  have mo2 := more_ok (m := m) (small_nat (a := T) (by omega)) sP
  have mo3 := more_ok (m := m) sP (small_nat (a := T) (by omega))
  have shP : Sh 164 1 (encQ (part n ls)) := by
    refine sh_Q (N := n) (B := 120) (by omega) ?_ ?_ ?_ (by omega) (by omega)
    · unfold part
      split
      · exact In.nat _
      · exact ⟨((ls.sum : Nat) : Int), by rw [sqe]; rfl⟩
    · have : (0 : Rat) ≤ part n ls := by
        unfold part
        split
        · have : ((0 : Nat) : Rat) ≤ ((mx ls : Nat) : Rat) := by exact_mod_cast Nat.zero_le _
          exact this
        · rename_i d
          have e2 : ¬ (((ls.sum : Nat) : Int) : Rat) / ((n : Nat) : Int) < ((mx ls : Nat) : Rat) := mt lt.mp (by omega)
          have : ((0 : Nat) : Rat) ≤ ((mx ls : Nat) : Rat) := by exact_mod_cast Nat.zero_le _
          have e3 : ((0 : Nat) : Rat) = 0 := rfl
          grind
      have e3 : ((120 : Nat) : Rat) = 120 := rfl
      grind
    · have h2 : ¬ ((T : Nat) : Rat) < part n ls := leP
      have : ((T : Nat) : Rat) ≤ ((120 : Nat) : Rat) := by exact_mod_cast T120
      grind
  have z3 := shP.repr (m := m) (by decide) (by decide)
  have z4 := pEq_shown (m := m) shP.sm
  have mo1 : m__law_more [.val (.tuple [.int ((mx ls : Nat) : Int), .int 1]), .val (encQ ((((ls.sum : Nat) : Int) : Rat) / ((n : Nat) : Int)))] m = some (.val (.bool (decide (ls.sum < mx ls * n))), m) := by
    rw [emx, mo]
    simp only [lt]
  have mo4 : m__law_more [.val (encQ (part n ls)), .val (.tuple [.int ((T : Nat) : Int), .int 1])] m = some (.val (.bool false), m) := by
    rw [eT1, mo3, decide_eq_false leP]
  have nT : ¬ ((T : Int) ≠ (T : Int)) := by simp
  by_cases cc : ls.sum < mx ls * n
  · rw [if_pos cc] at hP
    rw [hP] at emx
    rw [emx] at mo1
    simp only [tlL, ev_seq, ev_asg, ev_par, ev_if, ev_ret, ev_retN, ev_expr, ev_bin, ev_un, ev_ap, ev_cons, ev_nil, ev_varS, ev_var0, ev_c, ob_some, ev_gNm, ev_tOf, ev_asB, ev_asI, ev_tNot, ev_tAnd, ev_tOr, ev_eOf, ev_eIf, ev_chain, List.set_cons_succ, List.set_cons_zero, ev_then_nx, ev_then_rt, ev_next, ev_pTup, ev_valsC, ev_vals0, ev_eL, ev_bm, ev_aug, pix_t, pix_l, pixq0, pixq1, atI_0, atI_1, atI_2, pp_ii, ps_ii, pa_ii, plt_ii, ple_ii, pgt_ii, pge_ii, peq_ii, pne_ii, pneg_i, List.length_cons, List.length_nil, Nat.reduceAdd, Nat.reduceSub, Nat.reduceLeDiff, sz, if_true, Bool.false_eq_true, if_false, Bool.not_true, Bool.not_false, leave_v, List.take_length, plen_t, plen_l, ptup_l, ptup_t, pint_i, pis_n, pis_i, pis_t, pisnt_n, pisnt_i, pisnt_t, Int.cast_ofNat_Int, ne_eq, not_true_eq_false, not_false_eq_true, decide_true, decide_false, ev_gTp, ev_gsC, ev_gsN, List.map_cons, List.map_nil, c1, c2, c3, c4, c5, ev_rev, sr, rv, p1, p2, p3, p4, p5, p6, p7, g1, g2, z1, z2, eTf, ptup_l, psum_T, low, pmx, mo1, cc, emx, pp, z3, z4, mo4, nT]
  · rw [if_neg cc] at hP
    rw [hP] at mo1 low
    simp only [tlL, ev_seq, ev_asg, ev_par, ev_if, ev_ret, ev_retN, ev_expr, ev_bin, ev_un, ev_ap, ev_cons, ev_nil, ev_varS, ev_var0, ev_c, ob_some, ev_gNm, ev_tOf, ev_asB, ev_asI, ev_tNot, ev_tAnd, ev_tOr, ev_eOf, ev_eIf, ev_chain, List.set_cons_succ, List.set_cons_zero, ev_then_nx, ev_then_rt, ev_next, ev_pTup, ev_valsC, ev_vals0, ev_eL, ev_bm, ev_aug, pix_t, pix_l, pixq0, pixq1, atI_0, atI_1, atI_2, pp_ii, ps_ii, pa_ii, plt_ii, ple_ii, pgt_ii, pge_ii, peq_ii, pne_ii, pneg_i, List.length_cons, List.length_nil, Nat.reduceAdd, Nat.reduceSub, Nat.reduceLeDiff, sz, if_true, Bool.false_eq_true, if_false, Bool.not_true, Bool.not_false, leave_v, List.take_length, plen_t, plen_l, ptup_l, ptup_t, pint_i, pis_n, pis_i, pis_t, pisnt_n, pisnt_i, pisnt_t, Int.cast_ofNat_Int, ne_eq, not_true_eq_false, not_false_eq_true, decide_true, decide_false, ev_gTp, ev_gsC, ev_gsN, List.map_cons, List.map_nil, c1, c2, c3, c4, c5, ev_rev, sr, rv, p1, p2, p3, p4, p5, p6, p7, g1, g2, z1, z2, eTf, ptup_l, psum_T, low, pmx, mo1, cc, pp, z3, z4, mo4, nT]
end
end L36

set_option Elab.async false
set_option linter.all false
set_option maxRecDepth 100000
namespace L36
open PySem PySem.Spec PyProof.Rows L2 Ev Qa Ld
section
variable {m rest : M}
theorem Bx.len {rest m m' : M} (h : Bx rest m) (h' : Bx rest m') : m'.take m.length = m' := by
  obtain ⟨a, b, rfl, _⟩ := h
  obtain ⟨c, d, rfl, _⟩ := h'
  simp
theorem loads_cut : b__law_loads = sSeq (sAsg (eBin pPlus (eC (.int 1)) (eAp m__law_draw (aCons (eVar 0) (aCons (eC (.int 3)) aNil)))) (gNm 1)) (sSeq (sAsg (eAp pTupleOf (aCons (eL (nComp (itRng1 (aCons (eBin pPlus (eC (.int 1)) (eAp m__law_draw (aCons (eVar 0) (aCons (eC (.int 7)) aNil)))) aNil)) (.nm 7) [7] tTrue e__law_loads1)) aNil)) (gNm 2)) tlL) := rfl
theorem loads_true (h : Bx rest m) : ∃ m', m__law_loads [.ref 0] m = some (.val (.bool true), m') ∧ Bx rest m' := by
  obtain ⟨d, m1, a1, a2, a3⟩ := drawN h (k := 3) (by decide) (by decide)
  have a1' : m__law_draw [.ref 0, .val (.int 3)] m = some (.val (.int (d : Int)), m1) := a1
  obtain ⟨k, m2, k1, k7, b1, b2, b3⟩ := jobs_drawn a3
  obtain ⟨ls, m3, c1, c2, c3, c4⟩ := b3 (some (.val (.int ((d + 1 : Nat) : Int)))) none none none none none none
  have J : Jb3 (d + 1) ls := ⟨⟨by omega, by omega, by omega, by omega, fun l hl => (c3 l hl).1, fun l hl => by have := (c3 l hl).2; omega⟩, fun l hl => (c3 l hl).2⟩
  have t := loads_ok (m := m3) (e0 := some (.ref 0)) (e7 := none) J
  have e1 : (1 : Int) + (d : Int) = ((d + 1 : Nat) : Int) := by omega
  have e2 : (1 : Int) + ((k : Int) - 1) = ((k : Nat) : Int) := by omega
  have rg := rg1_nat (m := m2) (n := k) (by omega)
  have hl : ((List.range k).map fun j : Nat => PyData.int j).length ≤ 16777216 := by simp; omega
  have eT : PyData.tuple (encI ls) = encT ls := rfl
  refine ⟨m3, ?_, c4⟩
  simp only [m__law_loads, bodyF, List.length_cons, List.length_nil, Nat.reduceAdd, Nat.reduceSub, List.map_cons, List.map_nil, List.replicate, List.cons_append, List.nil_append, List.append_nil]
  rw [loads_cut]
  simp only [ev_seq, ev_asg, ev_par, ev_if, ev_ret, ev_retN, ev_expr, ev_bin, ev_un, ev_ap, ev_cons, ev_nil, ev_varS, ev_var0, ev_c, ob_some, ev_gNm, ev_tOf, ev_asB, ev_asI, ev_tNot, ev_tAnd, ev_tOr, ev_eOf, ev_eIf, ev_chain, List.set_cons_succ, List.set_cons_zero, ev_then_nx, ev_then_rt, ev_next, ev_pTup, ev_valsC, ev_vals0, ev_eL, ev_bm, ev_aug, pix_t, pix_l, pixq0, pixq1, atI_0, atI_1, atI_2, pp_ii, ps_ii, pa_ii, plt_ii, ple_ii, pgt_ii, pge_ii, peq_ii, pne_ii, pneg_i, List.length_cons, List.length_nil, Nat.reduceAdd, Nat.reduceSub, Nat.reduceLeDiff, sz, if_true, Bool.false_eq_true, if_false, Bool.not_true, Bool.not_false, leave_v, List.take_length, plen_t, plen_l, ptup_l, ptup_t, pint_i, pis_n, pis_i, pis_t, pisnt_n, pisnt_i, pisnt_t, Int.cast_ofNat_Int, ne_eq, not_true_eq_false, not_false_eq_true, decide_true, decide_false, a1', e1, ev_comp, it_rg1, b2, e2, rg, runC_iL hl, c1, eT, t, Bx.len h c4]
end
end L36

set_option Elab.async false
set_option linter.all false
set_option maxRecDepth 100000
namespace L36
open PySem PySem.Spec PyProof.Rows L2 Ev Qa Sp
def encS (s : Sn) : D := .tuple [.int s.1, .int s.2]
/-- spans as drawn -/
structure Sps (sp : List Sn) : Prop where
  l1 : 1 ≤ sp.length
  l7 : sp.length ≤ 7
  ok : ∀ s ∈ sp, -6 ≤ s.1 ∧ s.1 < s.2 ∧ s.2 ≤ 12
def nth (sp : List Sn) (i : Nat) : Sn := sp.getD i (0, 1)
theorem nth_mem {sp : List Sn} {i : Nat} (h : i < sp.length) : sp[i]? = some (nth sp i) ∧ nth sp i ∈ sp := by
  unfold nth
  rw [List.getD, List.getElem?_eq_getElem h]
  exact ⟨rfl, List.getElem_mem h⟩
def fam {sp : List Sn} (H : Sps sp) : Fam := ⟨fun i => (nth sp i).1, fun i => (nth sp i).2, fun i => by
  by_cases h : i < sp.length
  · exact (H.ok _ (nth_mem h).2).2.1
  · unfold nth
    rw [List.getD, List.getElem?_eq_none (by omega)]
    decide⟩
section
variable {m : M} {sp : List Sn} {s r : Sn}
theorem at_sp {i : Nat} (h : i < sp.length) : L2.atI (sp.map encS) (i : Int) = some (encS (nth sp i)) := by
  refine at_nat ?_
  rw [List.getElem?_map, (nth_mem h).1]
  rfl
theorem pix_sp {i : Nat} (h : i < sp.length) : pIdx (.val (.tuple (sp.map encS))) (.val (.int (i : Int))) m = some (.val (encS (nth sp i)), m) := by
  rw [pix_t, at_sp h]
  rfl
theorem pix_s0 : pIdx (.val (encS s)) (.val (.int 0)) m = some (.val (.int s.1), m) := by
  unfold encS
  rw [pix_t, atI_0]
  rfl
theorem pix_s1 : pIdx (.val (encS s)) (.val (.int 1)) m = some (.val (.int s.2), m) := by
  unfold encS
  rw [pix_t, atI_1]
  rfl
theorem apart_ok : m_are_apart [.val (encS s), .val (encS r)] m = some (.val (.bool (decide (s.2 ≤ r.1 ∨ r.2 ≤ s.1))), m) := by
  by_cases c : s.2 ≤ r.1
  · simp only [m_are_apart, bodyF, List.length_cons, List.length_nil, Nat.reduceAdd, Nat.reduceSub, List.map_cons, List.map_nil, List.replicate, List.cons_append, List.nil_append, List.append_nil, b_are_apart, ev_asg, ev_par, ev_if, ev_ret, ev_retN, ev_expr, ev_bin, ev_un, ev_ap, ev_cons, ev_nil, ev_varS, ev_var0, ev_c, ob_some, ev_gNm, ev_tOf, ev_asB, ev_asI, ev_tNot, ev_tAnd, ev_tOr, ev_eOf, ev_eIf, ev_chain, List.set_cons_succ, List.set_cons_zero, ev_then_nx, ev_then_rt, ev_next, ev_pTup, ev_valsC, ev_vals0, ev_eL, ev_bm, ev_aug, pix_t, pix_l, pixq0, pixq1, atI_0, atI_1, atI_2, pp_ii, ps_ii, pa_ii, plt_ii, ple_ii, pgt_ii, pge_ii, peq_ii, pne_ii, pneg_i, List.length_cons, List.length_nil, Nat.reduceAdd, Nat.reduceSub, Nat.reduceLeDiff, sz, if_true, Bool.false_eq_true, if_false, Bool.not_true, Bool.not_false, leave_v, List.take_length, plen_t, plen_l, ptup_l, ptup_t, pint_i, pis_n, pis_i, pis_t, pisnt_n, pisnt_i, pisnt_t, Int.cast_ofNat_Int, ne_eq, not_true_eq_false, not_false_eq_true, decide_true, decide_false, pix_s0, pix_s1, c, true_or]
  · simp only [m_are_apart, bodyF, List.length_cons, List.length_nil, Nat.reduceAdd, Nat.reduceSub, List.map_cons, List.map_nil, List.replicate, List.cons_append, List.nil_append, List.append_nil, b_are_apart, ev_asg, ev_par, ev_if, ev_ret, ev_retN, ev_expr, ev_bin, ev_un, ev_ap, ev_cons, ev_nil, ev_varS, ev_var0, ev_c, ob_some, ev_gNm, ev_tOf, ev_asB, ev_asI, ev_tNot, ev_tAnd, ev_tOr, ev_eOf, ev_eIf, ev_chain, List.set_cons_succ, List.set_cons_zero, ev_then_nx, ev_then_rt, ev_next, ev_pTup, ev_valsC, ev_vals0, ev_eL, ev_bm, ev_aug, pix_t, pix_l, pixq0, pixq1, atI_0, atI_1, atI_2, pp_ii, ps_ii, pa_ii, plt_ii, ple_ii, pgt_ii, pge_ii, peq_ii, pne_ii, pneg_i, List.length_cons, List.length_nil, Nat.reduceAdd, Nat.reduceSub, Nat.reduceLeDiff, sz, if_true, Bool.false_eq_true, if_false, Bool.not_true, Bool.not_false, leave_v, List.take_length, plen_t, plen_l, ptup_l, ptup_t, pint_i, pis_n, pis_i, pis_t, pisnt_n, pisnt_i, pisnt_t, Int.cast_ofNat_Int, ne_eq, not_true_eq_false, not_false_eq_true, decide_true, decide_false, pix_s0, pix_s1, c, false_or]
theorem meet_ok : m__law_meet [.val (encS s), .val (encS r)] m = some (.val (.bool (decide (max s.1 r.1 < min s.2 r.2))), m) := by
  have e1 : (if r.1 > s.1 then r.1 else s.1) = max s.1 r.1 := by
    by_cases c : r.1 > s.1
    · rw [if_pos c]; omega
    · rw [if_neg c]; omega
  have e2 : (if r.2 < s.2 then r.2 else s.2) = min s.2 r.2 := by
    by_cases c : r.2 < s.2
    · rw [if_pos c]; omega
    · rw [if_neg c]; omega
  simp only [m__law_meet, bodyF, List.length_cons, List.length_nil, Nat.reduceAdd, Nat.reduceSub, List.map_cons, List.map_nil, List.replicate, List.cons_append, List.nil_append, List.append_nil, b__law_meet, ev_asg, ev_par, ev_if, ev_ret, ev_retN, ev_expr, ev_bin, ev_un, ev_ap, ev_cons, ev_nil, ev_varS, ev_var0, ev_c, ob_some, ev_gNm, ev_tOf, ev_asB, ev_asI, ev_tNot, ev_tAnd, ev_tOr, ev_eOf, ev_eIf, ev_chain, List.set_cons_succ, List.set_cons_zero, ev_then_nx, ev_then_rt, ev_next, ev_pTup, ev_valsC, ev_vals0, ev_eL, ev_bm, ev_aug, pix_t, pix_l, pixq0, pixq1, atI_0, atI_1, atI_2, pp_ii, ps_ii, pa_ii, plt_ii, ple_ii, pgt_ii, pge_ii, peq_ii, pne_ii, pneg_i, List.length_cons, List.length_nil, Nat.reduceAdd, Nat.reduceSub, Nat.reduceLeDiff, sz, if_true, Bool.false_eq_true, if_false, Bool.not_true, Bool.not_false, leave_v, List.take_length, plen_t, plen_l, ptup_l, ptup_t, pint_i, pis_n, pis_i, pis_t, pisnt_n, pisnt_i, pisnt_t, Int.cast_ofNat_Int, ne_eq, not_true_eq_false, not_false_eq_true, decide_true, decide_false, pix_s0, pix_s1, pmax_ii, pmin_ii, e1, e2]
theorem holds_ok (h : -6 ≤ s.1 ∧ s.1 < s.2 ∧ s.2 ≤ 12) : m_span_holds [.val (encS s)] m = some (.val (.bool true), m) := by
  have b1 : (-1000 : Int) ≤ s.1 ∧ s.1 ≤ 1000 := by omega
  have b2 : (-1000 : Int) ≤ s.2 ∧ s.2 ≤ 1000 := by omega
  have hc : ∀ e0, clpL (.nm 1) tTrue e_span_holds1 [e0, none] [PyData.int s.1, PyData.int s.2] m = some ([.bool true, .bool true], m) := fun e0 => by
    have := clpL_all (p := .nm 1) (te := e_span_holds1) (env := [e0, none]) (m := m) (fun i : Int => PyData.int i) (fun _ => .bool true) [s.1, s.2] fun i hi => ⟨_, rfl, by
      have : -1000 ≤ i ∧ i ≤ 1000 := by
        rcases List.mem_cons.mp hi with q | q
        · rw [q]; exact b1
        · rw [List.mem_singleton.mp q]; exact b2
      simp only [e_span_holds1, ev_asg, ev_par, ev_if, ev_ret, ev_retN, ev_expr, ev_bin, ev_un, ev_ap, ev_cons, ev_nil, ev_varS, ev_var0, ev_c, ob_some, ev_gNm, ev_tOf, ev_asB, ev_asI, ev_tNot, ev_tAnd, ev_tOr, ev_eOf, ev_eIf, ev_chain, List.set_cons_succ, List.set_cons_zero, ev_then_nx, ev_then_rt, ev_next, ev_pTup, ev_valsC, ev_vals0, ev_eL, ev_bm, ev_aug, pix_t, pix_l, pixq0, pixq1, atI_0, atI_1, atI_2, pp_ii, ps_ii, pa_ii, plt_ii, ple_ii, pgt_ii, pge_ii, peq_ii, pne_ii, pneg_i, List.length_cons, List.length_nil, Nat.reduceAdd, Nat.reduceSub, Nat.reduceLeDiff, sz, if_true, Bool.false_eq_true, if_false, Bool.not_true, Bool.not_false, leave_v, List.take_length, plen_t, plen_l, ptup_l, ptup_t, pint_i, pis_n, pis_i, pis_t, pisnt_n, pisnt_i, pisnt_t, Int.cast_ofNat_Int, ne_eq, not_true_eq_false, not_false_eq_true, decide_true, decide_false, is_bet_i, this, and_self]⟩
    exact this
  have hl : [PyData.int s.1, PyData.int s.2].length ≤ 16777216 := by simp
  have pa : pAll [.val (.list [.bool true, .bool true])] m = some (.val (.bool true), m) := rfl
  have eS : encS s = .tuple [.int s.1, .int s.2] := rfl
  simp only [m_span_holds, bodyF, List.length_cons, List.length_nil, Nat.reduceAdd, Nat.reduceSub, List.map_cons, List.map_nil, List.replicate, List.cons_append, List.nil_append, List.append_nil, b_span_holds, ev_asg, ev_par, ev_if, ev_ret, ev_retN, ev_expr, ev_bin, ev_un, ev_ap, ev_cons, ev_nil, ev_varS, ev_var0, ev_c, ob_some, ev_gNm, ev_tOf, ev_asB, ev_asI, ev_tNot, ev_tAnd, ev_tOr, ev_eOf, ev_eIf, ev_chain, List.set_cons_succ, List.set_cons_zero, ev_then_nx, ev_then_rt, ev_next, ev_pTup, ev_valsC, ev_vals0, ev_eL, ev_bm, ev_aug, pix_t, pix_l, pixq0, pixq1, atI_0, atI_1, atI_2, pp_ii, ps_ii, pa_ii, plt_ii, ple_ii, pgt_ii, pge_ii, peq_ii, pne_ii, pneg_i, List.length_cons, List.length_nil, Nat.reduceAdd, Nat.reduceSub, Nat.reduceLeDiff, sz, if_true, Bool.false_eq_true, if_false, Bool.not_true, Bool.not_false, leave_v, List.take_length, plen_t, plen_l, ptup_l, ptup_t, pint_i, pis_n, pis_i, pis_t, pisnt_n, pisnt_i, pisnt_t, Int.cast_ofNat_Int, ne_eq, not_true_eq_false, not_false_eq_true, decide_true, decide_false, ev_comp, it_an, eS, an1_t, runC_iL hl, wipeE, List.foldl, hc, pa, h.2.1]
theorem check_spans_ok (H : Sps sp) : m_check_spans [.val (.tuple (sp.map encS))] m = some (.val .none, m) := by
  have hb : ∀ s ∈ sp, ∀ e0, l_check_spans1 [e0, some (.val (encS s))] m = some (.nx [e0, some (.val (encS s))] m) := fun s hs e0 => by
    have hh := holds_ok (m := m) (H.ok s hs)
    have eS : encS s = .tuple [.int s.1, .int s.2] := rfl
    rw [eS] at hh
    simp only [l_check_spans1, ev_isA, ev_asg, ev_par, ev_if, ev_ret, ev_retN, ev_expr, ev_bin, ev_un, ev_ap, ev_cons, ev_nil, ev_varS, ev_var0, ev_c, ob_some, ev_gNm, ev_tOf, ev_asB, ev_asI, ev_tNot, ev_tAnd, ev_tOr, ev_eOf, ev_eIf, ev_chain, List.set_cons_succ, List.set_cons_zero, ev_then_nx, ev_then_rt, ev_next, ev_pTup, ev_valsC, ev_vals0, ev_eL, ev_bm, ev_aug, pix_t, pix_l, pixq0, pixq1, atI_0, atI_1, atI_2, pp_ii, ps_ii, pa_ii, plt_ii, ple_ii, pgt_ii, pge_ii, peq_ii, pne_ii, pneg_i, List.length_cons, List.length_nil, Nat.reduceAdd, Nat.reduceSub, Nat.reduceLeDiff, sz, if_true, Bool.false_eq_true, if_false, Bool.not_true, Bool.not_false, leave_v, List.take_length, plen_t, plen_l, ptup_l, ptup_t, pint_i, pis_n, pis_i, pis_t, pisnt_n, pisnt_i, pisnt_t, Int.cast_ofNat_Int, ne_eq, not_true_eq_false, not_false_eq_true, decide_true, decide_false, eS, isA, hh]
  have lp : ∀ (l : List Sn) (e0 e1 : Option R), (∀ s ∈ l, s ∈ sp) → ∃ e1', loopL (gNm 1) l_check_spans1 (l.map encS) [e0, e1] m = some (.nx [e0, e1'] m) := fun l => by
    induction l with
    | nil => exact fun e0 e1 _ => ⟨e1, rfl⟩
    | cons s l ih =>
      intro e0 e1 h
      obtain ⟨e1', q⟩ := ih e0 (some (.val (encS s))) fun r hr => h r (List.mem_cons_of_mem _ hr)
      exact ⟨e1', by rw [List.map_cons, step_nx (env1 := [e0, some (.val (encS s))]) rfl (hb s (h s (by simp)) e0), q]⟩
  obtain ⟨e1', q⟩ := lp sp (some (.val (.tuple (sp.map encS)))) none fun s hs => hs
  have h1 : (1 : Int) ≤ sp.length := by have := H.l1; omega
  have h2 : (sp.length : Int) ≤ 20 := by have := H.l7; omega
  simp only [m_check_spans, bodyF, List.length_cons, List.length_nil, Nat.reduceAdd, Nat.reduceSub, List.map_cons, List.map_nil, List.replicate, List.cons_append, List.nil_append, List.append_nil, b_check_spans, ev_seq, ev_isA, ev_asg, ev_par, ev_if, ev_ret, ev_retN, ev_expr, ev_bin, ev_un, ev_ap, ev_cons, ev_nil, ev_varS, ev_var0, ev_c, ob_some, ev_gNm, ev_tOf, ev_asB, ev_asI, ev_tNot, ev_tAnd, ev_tOr, ev_eOf, ev_eIf, ev_chain, List.set_cons_succ, List.set_cons_zero, ev_then_nx, ev_then_rt, ev_next, ev_pTup, ev_valsC, ev_vals0, ev_eL, ev_bm, ev_aug, pix_t, pix_l, pixq0, pixq1, atI_0, atI_1, atI_2, pp_ii, ps_ii, pa_ii, plt_ii, ple_ii, pgt_ii, pge_ii, peq_ii, pne_ii, pneg_i, List.length_cons, List.length_nil, Nat.reduceAdd, Nat.reduceSub, Nat.reduceLeDiff, sz, if_true, Bool.false_eq_true, if_false, Bool.not_true, Bool.not_false, leave_v, List.take_length, plen_t, plen_l, ptup_l, ptup_t, pint_i, pis_n, pis_i, pis_t, pisnt_n, pisnt_i, pisnt_t, Int.cast_ofNat_Int, ne_eq, not_true_eq_false, not_false_eq_true, decide_true, decide_false, isA, List.length_map, h1, h2, ev_for, it_an, an1_t, run_iL, q]
/-- lists of numbers apart from one -/
theorem all_apart {i : Nat} (H : Sps sp) (hi : i < sp.length) {te : EF} {p : Pat} {env : Sl} {l : List Nat} (hte : ∀ j ∈ l, ∃ e, bindP p (.int (j : Int)) env = some e ∧ te e m = some (.val (.bool (decide ((fam H).apart i j))), m)) :
    clpL p tTrue te env (encI l) m = some (l.map fun j => .bool (decide ((fam H).apart i j)), m) := clpL_all (fun a : Nat => PyData.int a) (fun j => .bool (decide ((fam H).apart i j))) l hte
end
end L36

set_option Elab.async false
set_option linter.all false
set_option maxRecDepth 100000
namespace L36
open PySem PySem.Spec PyProof.Rows L2 Ev Qa Sp
/-- all rows -/
def ext (S : Fam) (rows : List (List Nat)) (i : Nat) : List (List Nat) := rows ++ (rows.filter fun R => R.all fun j => decide (S.apart i j)).map fun R => R ++ [i]
def rowsN (S : Fam) (n : Nat) : List (List Nat) := (List.range n).foldl (ext S) [[]]
theorem rowsN_succ (S : Fam) (n : Nat) : rowsN S (n + 1) = ext S (rowsN S n) n := by
  unfold rowsN
  rw [List.range_succ, List.foldl_append]
  rfl
theorem rowsN_mem {S : Fam} : ∀ (n : Nat) (R : List Nat), R ∈ rowsN S n ↔ Row S n R
  | 0, R => by
    show R ∈ [[]] ↔ _
    rw [List.mem_singleton]
    constructor
    · rintro rfl
      exact ⟨List.Pairwise.nil, fun r hr => (by cases hr), List.Pairwise.nil⟩
    · intro h
      cases R with
      | nil => rfl
      | cons r R => exact absurd (h.lt r (by simp)) (by omega)
  | n + 1, R => by
    rw [rowsN_succ]
    unfold ext
    rw [List.mem_append, List.mem_map, rowsN_mem n R]
    constructor
    · rintro (h | ⟨Q, hQ, rfl⟩)
      · exact ⟨h.asc, fun r hr => by have := h.lt r hr; omega, h.ap⟩
      · obtain ⟨h1, h2⟩ := List.mem_filter.mp hQ
        have h := (rowsN_mem n Q).mp h1
        refine ⟨List.pairwise_append.mpr ⟨h.asc, by simp, fun a ha b hb => ?_⟩, fun r hr => ?_, ap_app h.ap (List.pairwise_singleton _ _) fun r hr o ho => ?_⟩
        · rw [List.mem_singleton.mp hb]; exact h.lt a ha
        · rcases List.mem_append.mp hr with q | q
          · have := h.lt r q; omega
          · rw [List.mem_singleton.mp q]; omega
        · rw [List.mem_singleton.mp hr]
          exact of_decide_eq_true (List.all_eq_true.mp h2 o ho)
    · intro h
      by_cases c : ∀ r ∈ R, r < n
      · exact .inl ⟨h.asc, c, h.ap⟩
      · right
        have : ∃ r ∈ R, ¬ r < n := by simpa using c
        obtain ⟨r, hr, hn⟩ := this
        have hrn : r = n := by have := h.lt r hr; omega
        subst hrn
        have ne : R ≠ [] := fun z => by rw [z] at hr; cases hr
        have e := List.dropLast_concat_getLast ne
        have hl : R.getLast ne = r := by
          have h1 := h.lt _ (List.getLast_mem ne)
          rw [← e] at hr
          rcases List.mem_append.mp hr with q | q
          · have asc := h.asc
            rw [← e] at asc
            have := (List.pairwise_append.mp asc).2.2 r q (R.getLast ne) (by simp)
            omega
          · exact (List.mem_singleton.mp q).symm
        rw [hl] at e
        have asc := h.asc
        have ap := h.ap
        unfold Ap at ap
        rw [← e] at asc ap
        have a1 := List.pairwise_append.mp asc
        have a2 := List.pairwise_append.mp ap
        refine ⟨R.dropLast, List.mem_filter.mpr ⟨(rowsN_mem r _).mpr ⟨a1.1, fun q hq => a1.2.2 q hq r (by simp), a2.1⟩, List.all_eq_true.mpr fun o ho => decide_eq_true (Fam.symm (a2.2.2 o ho r (by simp)))⟩, e⟩
theorem ext_len (S : Fam) (rows : List (List Nat)) (i : Nat) : (ext S rows i).length ≤ 2 * rows.length := by
  unfold ext
  have := List.length_filter_le (fun R : List Nat => R.all fun j => decide (S.apart i j)) rows
  rw [List.length_append, List.length_map]
  omega
theorem rowsN_len (S : Fam) : ∀ n, (rowsN S n).length ≤ 2 ^ n
  | 0 => by show 1 ≤ 1; omega
  | n + 1 => by
    have h1 := rowsN_len S n
    have h2 := ext_len S (rowsN S n) n
    rw [rowsN_succ, Nat.pow_succ]
    omega
section
variable {m : M} {sp : List Sn}
theorem not_all {i : Nat} {R : List Nat} {S : Fam} : (!(R.any fun j => decide (max (S.a i) (S.a j) < min (S.b i) (S.b j)))) = R.all fun j => decide (S.apart i j) := by
  induction R with
  | nil => rfl
  | cons j R ih =>
    rw [List.any_cons, List.all_cons, Bool.not_or, ih]
    congr 1
    have := apart_meet (S := S) (i := i) (j := j)
    by_cases c : max (S.a i) (S.a j) < min (S.b i) (S.b j)
    · rw [decide_eq_true c, decide_eq_false (fun z => this.mp z c)]; rfl
    · rw [decide_eq_false c, decide_eq_true (this.mpr c)]; rfl
/-- rows: one number more -/
theorem rows_step (H : Sps sp) {i : Nat} (hi : i < sp.length) {rows : List (List Nat)} (hr : ∀ R ∈ rows, ∀ j ∈ R, j < sp.length) (hl : rows.length ≤ 1000) (hl2 : ∀ R ∈ rows, R.length ≤ 1000) {e0 e2 e4 e5 e7 e8 e9 e10 e11 e12 e13 e14 e15 : Option R} :
    l__law_spans5 [e0, some (.val (.tuple (sp.map encS))), e2, some (.val (.int (i : Int))), e4, e5, some (.val (.list (rows.map encT))), e7, e8, e9, e10, e11, e12, e13, e14, e15, none, none] m =
    some (.nx [e0, some (.val (.tuple (sp.map encS))), e2, some (.val (.int (i : Int))), e4, e5, some (.val (.list ((ext (fam H) rows i).map encT))), e7, e8, e9, e10, e11, e12, e13, e14, e15, none, none] m) := by
  have lr : (rows.map encT).length ≤ 16777216 := by rw [List.length_map]; omega
  have hc : clpL (.nm 16) t__law_spans4 e__law_spans3 [e0, some (.val (.tuple (sp.map encS))), e2, some (.val (.int (i : Int))), e4, e5, some (.val (.list (rows.map encT))), e7, e8, e9, e10, e11, e12, e13, e14, e15, none, none] (rows.map encT) m =
      some ((rows.filter fun R => R.all fun j => decide ((fam H).apart i j)).map fun R => encT (R ++ [i]), m) := by
    refine clpL_map encT (fun R => R.all fun j => decide ((fam H).apart i j)) (fun R => encT (R ++ [i])) rows fun R hR => ⟨_, rfl, ?_, fun _ => ?_⟩
    · have hin : clpL (.nm 17) tTrue e__law_spans2 [e0, some (.val (.tuple (sp.map encS))), e2, some (.val (.int (i : Int))), e4, e5, some (.val (.list (rows.map encT))), e7, e8, e9, e10, e11, e12, e13, e14, e15, some (.val (encT R)), none] (encI R) m = some (R.map fun j => .bool (decide (max ((fam H).a i) ((fam H).a j) < min ((fam H).b i) ((fam H).b j))), m) :=
        clpL_all (fun a : Nat => PyData.int a) (fun j => .bool (decide (max ((fam H).a i) ((fam H).a j) < min ((fam H).b i) ((fam H).b j)))) R fun j hj => ⟨_, rfl, by
          simp only [e__law_spans2, ev_asg, ev_par, ev_if, ev_ret, ev_retN, ev_expr, ev_bin, ev_un, ev_ap, ev_cons, ev_nil, ev_varS, ev_var0, ev_c, ob_some, ev_gNm, ev_tOf, ev_asB, ev_asI, ev_tNot, ev_tAnd, ev_tOr, ev_eOf, ev_eIf, ev_chain, List.set_cons_succ, List.set_cons_zero, ev_then_nx, ev_then_rt, ev_next, ev_pTup, ev_valsC, ev_vals0, ev_eL, ev_bm, ev_aug, pix_t, pix_l, pixq0, pixq1, atI_0, atI_1, atI_2, pp_ii, ps_ii, pa_ii, plt_ii, ple_ii, pgt_ii, pge_ii, peq_ii, pne_ii, pneg_i, List.length_cons, List.length_nil, Nat.reduceAdd, Nat.reduceSub, Nat.reduceLeDiff, sz, if_true, Bool.false_eq_true, if_false, Bool.not_true, Bool.not_false, leave_v, List.take_length, plen_t, plen_l, ptup_l, ptup_t, pint_i, pis_n, pis_i, pis_t, pisnt_n, pisnt_i, pisnt_t, Int.cast_ofNat_Int, ne_eq, not_true_eq_false, not_false_eq_true, decide_true, decide_false, pix_sp hi, pix_sp (hr R hR j hj), meet_ok]
          rfl⟩
      have lR : (encI R).length ≤ 16777216 := by rw [encI_len]; have := hl2 R hR; omega
      have eT : encT R = .tuple (encI R) := rfl
      have pa := pany_l (m := m) R fun j => decide (max ((fam H).a i) ((fam H).a j) < min ((fam H).b i) ((fam H).b j))
      rw [eT] at hin
      show t__law_spans4 [e0, some (.val (.tuple (sp.map encS))), e2, some (.val (.int (i : Int))), e4, e5, some (.val (.list (rows.map encT))), e7, e8, e9, e10, e11, e12, e13, e14, e15, some (.val (encT R)), none] m = _
      simp only [t__law_spans4, ev_asg, ev_par, ev_if, ev_ret, ev_retN, ev_expr, ev_bin, ev_un, ev_ap, ev_cons, ev_nil, ev_varS, ev_var0, ev_c, ob_some, ev_gNm, ev_tOf, ev_asB, ev_asI, ev_tNot, ev_tAnd, ev_tOr, ev_eOf, ev_eIf, ev_chain, List.set_cons_succ, List.set_cons_zero, ev_then_nx, ev_then_rt, ev_next, ev_pTup, ev_valsC, ev_vals0, ev_eL, ev_bm, ev_aug, pix_t, pix_l, pixq0, pixq1, atI_0, atI_1, atI_2, pp_ii, ps_ii, pa_ii, plt_ii, ple_ii, pgt_ii, pge_ii, peq_ii, pne_ii, pneg_i, List.length_cons, List.length_nil, Nat.reduceAdd, Nat.reduceSub, Nat.reduceLeDiff, sz, if_true, Bool.false_eq_true, if_false, Bool.not_true, Bool.not_false, leave_v, List.take_length, plen_t, plen_l, ptup_l, ptup_t, pint_i, pis_n, pis_i, pis_t, pisnt_n, pisnt_i, pisnt_t, Int.cast_ofNat_Int, ne_eq, not_true_eq_false, not_false_eq_true, decide_true, decide_false, ev_comp, it_an, eT, an1_t, runC_iL lR, wipeE, List.foldl, hin, pa, not_all]
    · have eT : encT R = .tuple (encI R) := rfl
      have p := pp_tt (m := m) (ds := encI R) (es := [PyData.int (i : Int)]) (by rw [encI_len]; have := hl2 R hR; simp; omega)
      have ea : encI R ++ [PyData.int (i : Int)] = encI (R ++ [i]) := by rw [encI_app]; rfl
      rw [ea] at p
      show e__law_spans3 [e0, some (.val (.tuple (sp.map encS))), e2, some (.val (.int (i : Int))), e4, e5, some (.val (.list (rows.map encT))), e7, e8, e9, e10, e11, e12, e13, e14, e15, some (.val (encT R)), none] m = _
      simp only [e__law_spans3, ev_asg, ev_par, ev_if, ev_ret, ev_retN, ev_expr, ev_bin, ev_un, ev_ap, ev_cons, ev_nil, ev_varS, ev_var0, ev_c, ob_some, ev_gNm, ev_tOf, ev_asB, ev_asI, ev_tNot, ev_tAnd, ev_tOr, ev_eOf, ev_eIf, ev_chain, List.set_cons_succ, List.set_cons_zero, ev_then_nx, ev_then_rt, ev_next, ev_pTup, ev_valsC, ev_vals0, ev_eL, ev_bm, ev_aug, pix_t, pix_l, pixq0, pixq1, atI_0, atI_1, atI_2, pp_ii, ps_ii, pa_ii, plt_ii, ple_ii, pgt_ii, pge_ii, peq_ii, pne_ii, pneg_i, List.length_cons, List.length_nil, Nat.reduceAdd, Nat.reduceSub, Nat.reduceLeDiff, sz, if_true, Bool.false_eq_true, if_false, Bool.not_true, Bool.not_false, leave_v, List.take_length, plen_t, plen_l, ptup_l, ptup_t, pint_i, pis_n, pis_i, pis_t, pisnt_n, pisnt_i, pisnt_t, Int.cast_ofNat_Int, ne_eq, not_true_eq_false, not_false_eq_true, decide_true, decide_false, eT, p]
      rfl
  have pl := pp_ll (m := m) (ds := rows.map encT) (es := (rows.filter fun R => R.all fun j => decide ((fam H).apart i j)).map fun R => encT (R ++ [i])) (by
    have := List.length_filter_le (fun R : List Nat => R.all fun j => decide ((fam H).apart i j)) rows
    rw [List.length_map, List.length_map]
    omega)
  have ee : (rows.map encT) ++ ((rows.filter fun R => R.all fun j => decide ((fam H).apart i j)).map fun R => encT (R ++ [i])) = (ext (fam H) rows i).map encT := by
    unfold ext
    rw [List.map_append, List.map_map]
    rfl
  rw [ee] at pl
  simp only [l__law_spans5, ev_asg, ev_par, ev_if, ev_ret, ev_retN, ev_expr, ev_bin, ev_un, ev_ap, ev_cons, ev_nil, ev_varS, ev_var0, ev_c, ob_some, ev_gNm, ev_tOf, ev_asB, ev_asI, ev_tNot, ev_tAnd, ev_tOr, ev_eOf, ev_eIf, ev_chain, List.set_cons_succ, List.set_cons_zero, ev_then_nx, ev_then_rt, ev_next, ev_pTup, ev_valsC, ev_vals0, ev_eL, ev_bm, ev_aug, pix_t, pix_l, pixq0, pixq1, atI_0, atI_1, atI_2, pp_ii, ps_ii, pa_ii, plt_ii, ple_ii, pgt_ii, pge_ii, peq_ii, pne_ii, pneg_i, List.length_cons, List.length_nil, Nat.reduceAdd, Nat.reduceSub, Nat.reduceLeDiff, sz, if_true, Bool.false_eq_true, if_false, Bool.not_true, Bool.not_false, leave_v, List.take_length, plen_t, plen_l, ptup_l, ptup_t, pint_i, pis_n, pis_i, pis_t, pisnt_n, pisnt_i, pisnt_t, Int.cast_ofNat_Int, ne_eq, not_true_eq_false, not_false_eq_true, decide_true, decide_false, ev_comp, it_an, an1_l, runC_iL lr, wipeE, List.foldl, hc, pl]
end
end L36

set_option Elab.async false
set_option linter.all false
set_option maxRecDepth 100000
namespace L36
open PySem PySem.Spec PyProof.Rows L2 Ev Qa Sp
section
variable {m : M} {sp : List Sn}
theorem rows_loop (H : Sps sp) {e0 e2 e4 e5 e7 e8 e9 e10 e11 e12 e13 e14 e15 : Option R} : ∀ (k : Nat), k ≤ sp.length → ∀ e3, ∃ e3', loopL (gNm 3) l__law_spans5 ((List.range k).map fun j : Nat => PyData.int j) [e0, some (.val (.tuple (sp.map encS))), e2, e3, e4, e5, some (.val (.list [.tuple []])), e7, e8, e9, e10, e11, e12, e13, e14, e15, none, none] m =
    some (.nx [e0, some (.val (.tuple (sp.map encS))), e2, e3', e4, e5, some (.val (.list ((rowsN (fam H) k).map encT))), e7, e8, e9, e10, e11, e12, e13, e14, e15, none, none] m) := by
  have gen : ∀ (l : List Nat) (rows : List (List Nat)) (e3 : Option R), (∀ i ∈ l, i < sp.length) → (∀ R ∈ rows, ∀ j ∈ R, j < sp.length) → rows.length * 2 ^ l.length ≤ 1000 → (∀ R ∈ rows, R.length + l.length ≤ 1000) → ∃ e3', loopL (gNm 3) l__law_spans5 (l.map fun j : Nat => PyData.int j) [e0, some (.val (.tuple (sp.map encS))), e2, e3, e4, e5, some (.val (.list (rows.map encT))), e7, e8, e9, e10, e11, e12, e13, e14, e15, none, none] m =
    some (.nx [e0, some (.val (.tuple (sp.map encS))), e2, e3', e4, e5, some (.val (.list ((l.foldl (ext (fam H)) rows).map encT))), e7, e8, e9, e10, e11, e12, e13, e14, e15, none, none] m) := by
    intro l
    induction l with
    | nil => exact fun rows e3 _ _ _ _ => ⟨e3, rfl⟩
    | cons i l ih =>
      intro rows e3 h1 h2 h3 h4
      have hp : 1 ≤ 2 ^ l.length := Nat.one_le_two_pow
      rw [List.length_cons, Nat.pow_succ] at h3
      have h5 : rows.length * 1 ≤ rows.length * (2 ^ l.length * 2) := Nat.mul_le_mul_left _ (by omega)
      have hs := rows_step (m := m) H (h1 i (by simp)) h2 (by omega) (fun R hR => by have := h4 R hR; omega) (e0 := e0) (e2 := e2) (e4 := e4) (e5 := e5) (e7 := e7) (e8 := e8) (e9 := e9) (e10 := e10) (e11 := e11) (e12 := e12) (e13 := e13) (e14 := e14) (e15 := e15)
      have el := ext_len (fam H) rows i
      obtain ⟨e3', q⟩ := ih (ext (fam H) rows i) (some (.val (.int (i : Int)))) (fun j hj => h1 j (List.mem_cons_of_mem _ hj)) (fun R hR j hj => by
        unfold ext at hR
        rcases List.mem_append.mp hR with z | z
        · exact h2 R z j hj
        · obtain ⟨Q, hQ, rfl⟩ := List.mem_map.mp z
          rcases List.mem_append.mp hj with y | y
          · exact h2 Q (List.mem_filter.mp hQ).1 j y
          · rw [List.mem_singleton.mp y]; exact h1 i (by simp)) (by
        have : (ext (fam H) rows i).length * 2 ^ l.length ≤ (2 * rows.length) * 2 ^ l.length := Nat.mul_le_mul_right _ el
        have e : (2 * rows.length) * 2 ^ l.length = rows.length * (2 ^ l.length * 2) := by
          rw [Nat.mul_comm 2, Nat.mul_assoc, Nat.mul_comm 2]
        omega) (fun R hR => by
        rw [List.length_cons] at h4
        unfold ext at hR
        rcases List.mem_append.mp hR with z | z
        · have := h4 R z; omega
        · obtain ⟨Q, hQ, rfl⟩ := List.mem_map.mp z
          have := h4 Q (List.mem_filter.mp hQ).1
          rw [List.length_append, List.length_singleton]; omega)
      exact ⟨e3', by rw [List.map_cons, step_nx (env1 := [e0, some (.val (.tuple (sp.map encS))), e2, some (.val (.int (i : Int))), e4, e5, some (.val (.list (rows.map encT))), e7, e8, e9, e10, e11, e12, e13, e14, e15, none, none]) rfl hs]; exact q⟩
  intro k hk e3
  have l7 := H.l7
  obtain ⟨e3', q⟩ := gen (List.range k) [[]] e3 (fun i hi => by have := List.mem_range.mp hi; omega) (fun R hR j hj => by rw [List.mem_singleton.mp hR] at hj; cases hj) (by
    rw [List.length_range]
    have : 2 ^ k ≤ 2 ^ 7 := Nat.pow_le_pow_right (by decide) (by omega)
    have e : (2 : Nat) ^ 7 = 128 := by decide
    show 1 * 2 ^ k ≤ 1000
    omega) (fun R hR => by rw [List.mem_singleton.mp hR, List.length_range]; show 0 + k ≤ 1000; omega)
  exact ⟨e3', q⟩
/-- the numbers, those that end first ahead -/
def byEnd (sp : List Sn) : List Nat := (List.range sp.length).mergeSort fun p q => decide ((nth sp p).2 < (nth sp q).2 ∨ ((nth sp p).2 = (nth sp q).2 ∧ (p : Int) ≤ (q : Int)))
theorem byEnd_perm (sp : List Sn) : (byEnd sp).Perm (List.range sp.length) := List.mergeSort_perm _ _
theorem byEnd_sorted (sp : List Sn) : (byEnd sp).Pairwise fun i j => (nth sp i).2 ≤ (nth sp j).2 := by
  have := List.pairwise_mergeSort (le := fun p q : Nat => decide ((nth sp p).2 < (nth sp q).2 ∨ ((nth sp p).2 = (nth sp q).2 ∧ (p : Int) ≤ (q : Int)))) (fun a b c h1 h2 => by simp at *; omega) (fun a b => by simp; omega) (List.range sp.length)
  exact this.imp fun h => by
    have := of_decide_eq_true h
    omega
theorem byEnd_lt {sp : List Sn} {i : Nat} (h : i ∈ byEnd sp) : i < sp.length := List.mem_range.mp ((byEnd_perm sp).mem_iff.mp h)
theorem sort_ends {k : EF} {bs : List Bool} {env : Sl} {n : Nat} (hn : n = sp.length) (h7 : sp.length ≤ 7) (hk : ∀ i, i < sp.length → keyF k bs env (.int (i : Int)) m = some (.tuple [.int (nth sp i).2, .int (i : Int)], m)) :
    sortKF (keyF k bs env) (rngD 0 (((n : Nat) : Int) - 0).toNat) m = some (.val (.list (encI (byEnd sp))), m) := by
  subst hn
  have e : (((sp.length : Nat) : Int) - 0).toNat = sp.length := by omega
  rw [e]
  have e2 : rngD 0 sp.length = (List.range sp.length).map fun j : Nat => PyData.int j := by
    have := rngD_nat 0 sp.length
    rw [← List.range_eq_range'] at this
    exact this
  rw [e2]
  exact sortKF_ii (fun j : Nat => PyData.int j) (fun i => (nth sp i).2) (fun i => (i : Int)) (List.range sp.length) (fun i hi => hk i (List.mem_range.mp hi)) (by rw [List.length_range]; omega)
/-- the greedy choice of the law -/
theorem ltake_loop (H : Sps sp) {e0 e2 e4 e5 e6 e8 e9 e10 e11 e12 e13 e14 e15 : Option R} : ∀ (l T : List Nat) (e3 : Option R), (∀ i ∈ l, i < sp.length) → (∀ i ∈ T, i < sp.length) → T.length + l.length ≤ 1000 →
    ∃ e3', loopL (gNm 3) l__law_spans8 (encI l) [e0, some (.val (.tuple (sp.map encS))), e2, e3, e4, e5, e6, some (.ref m.length), e8, e9, e10, e11, e12, e13, e14, e15, none, none] (m ++ [.lst (encI T)]) =
    some (.nx [e0, some (.val (.tuple (sp.map encS))), e2, e3', e4, e5, e6, some (.ref m.length), e8, e9, e10, e11, e12, e13, e14, e15, none, none] (m ++ [.lst (encI (tkn (fam H) T l))]))
  | [], T, e3, _, _, _ => ⟨e3, rfl⟩
  | i :: l, T, e3, h1, h2, h3 => by
    rw [List.length_cons] at h3
    have hi := h1 i (by simp)
    have g : (m ++ [Ob.lst (encI T)])[m.length]? = some (.lst (encI T)) := g0
    have lT : (encI T).length ≤ 16777216 := by rw [encI_len]; omega
    have rc : runC (an1 (.ref m.length) (m ++ [Ob.lst (encI T)])) (.nm 17) [17] tTrue e__law_spans7 [e0, some (.val (.tuple (sp.map encS))), e2, some (.val (.int (i : Int))), e4, e5, e6, some (.ref m.length), e8, e9, e10, e11, e12, e13, e14, e15, none, none] = some (T.map fun j => .bool (decide (max ((fam H).a i) ((fam H).a j) < min ((fam H).b i) ((fam H).b j))), m ++ [.lst (encI T)]) :=
      runC_refA (fun a : Nat => PyData.int a) (fun j => .bool (decide (max ((fam H).a i) ((fam H).a j) < min ((fam H).b i) ((fam H).b j)))) T g (by omega) fun j hj => ⟨_, rfl, by
        simp only [wipeE, List.foldl, List.set_cons_succ, List.set_cons_zero, e__law_spans7, ev_asg, ev_par, ev_if, ev_ret, ev_retN, ev_expr, ev_bin, ev_un, ev_ap, ev_cons, ev_nil, ev_varS, ev_var0, ev_c, ob_some, ev_gNm, ev_tOf, ev_asB, ev_asI, ev_tNot, ev_tAnd, ev_tOr, ev_eOf, ev_eIf, ev_chain, List.set_cons_succ, List.set_cons_zero, ev_then_nx, ev_then_rt, ev_next, ev_pTup, ev_valsC, ev_vals0, ev_eL, ev_bm, ev_aug, pix_t, pix_l, pixq0, pixq1, atI_0, atI_1, atI_2, pp_ii, ps_ii, pa_ii, plt_ii, ple_ii, pgt_ii, pge_ii, peq_ii, pne_ii, pneg_i, List.length_cons, List.length_nil, Nat.reduceAdd, Nat.reduceSub, Nat.reduceLeDiff, sz, if_true, Bool.false_eq_true, if_false, Bool.not_true, Bool.not_false, leave_v, List.take_length, plen_t, plen_l, ptup_l, ptup_t, pint_i, pis_n, pis_i, pis_t, pisnt_n, pisnt_i, pisnt_t, Int.cast_ofNat_Int, ne_eq, not_true_eq_false, not_false_eq_true, decide_true, decide_false, pix_sp hi, pix_sp (h2 j hj), meet_ok]
        rfl⟩
    have pa := pany_l (m := m ++ [Ob.lst (encI T)]) T fun j => decide (max ((fam H).a i) ((fam H).a j) < min ((fam H).b i) ((fam H).b j))
    have e : encI (i :: l) = .int (i : Int) :: encI l := rfl
    by_cases c : (T.all fun j => decide ((fam H).apart i j)) = true
    · obtain ⟨e3', q⟩ := ltake_loop H (e0 := e0) (e2 := e2) (e4 := e4) (e5 := e5) (e6 := e6) (e8 := e8) (e9 := e9) (e10 := e10) (e11 := e11) (e12 := e12) (e13 := e13) (e14 := e14) (e15 := e15) l (T ++ [i]) (some (.val (.int (i : Int)))) (fun j hj => h1 j (List.mem_cons_of_mem _ hj)) (fun j hj => by
        rcases List.mem_append.mp hj with z | z
        · exact h2 j z
        · rw [List.mem_singleton.mp z]; exact hi) (by rw [List.length_append, List.length_singleton]; omega)
      have pp := papp_r (d := .int (i : Int)) g (by rw [encI_len]; omega)
      rw [s0] at pp
      have ea : encI T ++ [PyData.int (i : Int)] = encI (T ++ [i]) := by rw [encI_app]; rfl
      rw [ea] at pp
      have hs : l__law_spans8 [e0, some (.val (.tuple (sp.map encS))), e2, some (.val (.int (i : Int))), e4, e5, e6, some (.ref m.length), e8, e9, e10, e11, e12, e13, e14, e15, none, none] (m ++ [.lst (encI T)]) = some (.nx [e0, some (.val (.tuple (sp.map encS))), e2, some (.val (.int (i : Int))), e4, e5, e6, some (.ref m.length), e8, e9, e10, e11, e12, e13, e14, e15, none, none] (m ++ [.lst (encI (T ++ [i]))])) := by
        simp only [l__law_spans8, ev_asg, ev_par, ev_if, ev_ret, ev_retN, ev_expr, ev_bin, ev_un, ev_ap, ev_cons, ev_nil, ev_varS, ev_var0, ev_c, ob_some, ev_gNm, ev_tOf, ev_asB, ev_asI, ev_tNot, ev_tAnd, ev_tOr, ev_eOf, ev_eIf, ev_chain, List.set_cons_succ, List.set_cons_zero, ev_then_nx, ev_then_rt, ev_next, ev_pTup, ev_valsC, ev_vals0, ev_eL, ev_bm, ev_aug, pix_t, pix_l, pixq0, pixq1, atI_0, atI_1, atI_2, pp_ii, ps_ii, pa_ii, plt_ii, ple_ii, pgt_ii, pge_ii, peq_ii, pne_ii, pneg_i, List.length_cons, List.length_nil, Nat.reduceAdd, Nat.reduceSub, Nat.reduceLeDiff, sz, if_true, Bool.false_eq_true, if_false, Bool.not_true, Bool.not_false, leave_v, List.take_length, plen_t, plen_l, ptup_l, ptup_t, pint_i, pis_n, pis_i, pis_t, pisnt_n, pisnt_i, pisnt_t, Int.cast_ofNat_Int, ne_eq, not_true_eq_false, not_false_eq_true, decide_true, decide_false, ev_comp, it_an, rc, pa, not_all, c, asL_r g, pp]
      refine ⟨e3', ?_⟩
      rw [e, step_nx (env1 := [e0, some (.val (.tuple (sp.map encS))), e2, some (.val (.int (i : Int))), e4, e5, e6, some (.ref m.length), e8, e9, e10, e11, e12, e13, e14, e15, none, none]) rfl hs, q, show tkn (fam H) T (i :: l) = tkn (fam H) (T ++ [i]) l from if_pos c]
    · obtain ⟨e3', q⟩ := ltake_loop H (e0 := e0) (e2 := e2) (e4 := e4) (e5 := e5) (e6 := e6) (e8 := e8) (e9 := e9) (e10 := e10) (e11 := e11) (e12 := e12) (e13 := e13) (e14 := e14) (e15 := e15) l T (some (.val (.int (i : Int)))) (fun j hj => h1 j (List.mem_cons_of_mem _ hj)) h2 (by omega)
      have c' : (T.all fun j => decide ((fam H).apart i j)) = false := by simpa using c
      have hs : l__law_spans8 [e0, some (.val (.tuple (sp.map encS))), e2, some (.val (.int (i : Int))), e4, e5, e6, some (.ref m.length), e8, e9, e10, e11, e12, e13, e14, e15, none, none] (m ++ [.lst (encI T)]) = some (.nx [e0, some (.val (.tuple (sp.map encS))), e2, some (.val (.int (i : Int))), e4, e5, e6, some (.ref m.length), e8, e9, e10, e11, e12, e13, e14, e15, none, none] (m ++ [.lst (encI T)])) := by
        simp only [l__law_spans8, ev_asg, ev_par, ev_if, ev_ret, ev_retN, ev_expr, ev_bin, ev_un, ev_ap, ev_cons, ev_nil, ev_varS, ev_var0, ev_c, ob_some, ev_gNm, ev_tOf, ev_asB, ev_asI, ev_tNot, ev_tAnd, ev_tOr, ev_eOf, ev_eIf, ev_chain, List.set_cons_succ, List.set_cons_zero, ev_then_nx, ev_then_rt, ev_next, ev_pTup, ev_valsC, ev_vals0, ev_eL, ev_bm, ev_aug, pix_t, pix_l, pixq0, pixq1, atI_0, atI_1, atI_2, pp_ii, ps_ii, pa_ii, plt_ii, ple_ii, pgt_ii, pge_ii, peq_ii, pne_ii, pneg_i, List.length_cons, List.length_nil, Nat.reduceAdd, Nat.reduceSub, Nat.reduceLeDiff, sz, if_true, Bool.false_eq_true, if_false, Bool.not_true, Bool.not_false, leave_v, List.take_length, plen_t, plen_l, ptup_l, ptup_t, pint_i, pis_n, pis_i, pis_t, pisnt_n, pisnt_i, pisnt_t, Int.cast_ofNat_Int, ne_eq, not_true_eq_false, not_false_eq_true, decide_true, decide_false, ev_comp, it_an, rc, pa, not_all, c']
      refine ⟨e3', ?_⟩
      rw [e, step_nx (env1 := [e0, some (.val (.tuple (sp.map encS))), e2, some (.val (.int (i : Int))), e4, e5, e6, some (.ref m.length), e8, e9, e10, e11, e12, e13, e14, e15, none, none]) rfl hs, q, show tkn (fam H) T (i :: l) = tkn (fam H) T l from if_neg c]
/-- .. of the program -/
theorem mtake_loop (H : Sps sp) : ∀ (l T : List Nat) (e2 : Option R), (∀ i ∈ l, i < sp.length) → (∀ i ∈ T, i < sp.length) → T.length + l.length ≤ 1000 →
    ∃ e2', loopL (gNm 2) l_most_apart3 (encI l) [some (.val (.tuple (sp.map encS))), some (.ref m.length), e2, none] (m ++ [.lst (encI T)]) =
    some (.nx [some (.val (.tuple (sp.map encS))), some (.ref m.length), e2', none] (m ++ [.lst (encI (tkn (fam H) T l))]))
  | [], T, e2, _, _, _ => ⟨e2, rfl⟩
  | i :: l, T, e2, h1, h2, h3 => by
    rw [List.length_cons] at h3
    have hi := h1 i (by simp)
    have g : (m ++ [Ob.lst (encI T)])[m.length]? = some (.lst (encI T)) := g0
    have rc : runC (an1 (.ref m.length) (m ++ [Ob.lst (encI T)])) (.nm 3) [3] tTrue e_most_apart2 [some (.val (.tuple (sp.map encS))), some (.ref m.length), some (.val (.int (i : Int))), none] = some (T.map fun j => .bool (decide ((fam H).apart i j)), m ++ [.lst (encI T)]) :=
      runC_refA (fun a : Nat => PyData.int a) (fun j => .bool (decide ((fam H).apart i j))) T g (by omega) fun j hj => ⟨_, rfl, by
        simp only [wipeE, List.foldl, List.set_cons_succ, List.set_cons_zero, e_most_apart2, ev_asg, ev_par, ev_if, ev_ret, ev_retN, ev_expr, ev_bin, ev_un, ev_ap, ev_cons, ev_nil, ev_varS, ev_var0, ev_c, ob_some, ev_gNm, ev_tOf, ev_asB, ev_asI, ev_tNot, ev_tAnd, ev_tOr, ev_eOf, ev_eIf, ev_chain, List.set_cons_succ, List.set_cons_zero, ev_then_nx, ev_then_rt, ev_next, ev_pTup, ev_valsC, ev_vals0, ev_eL, ev_bm, ev_aug, pix_t, pix_l, pixq0, pixq1, atI_0, atI_1, atI_2, pp_ii, ps_ii, pa_ii, plt_ii, ple_ii, pgt_ii, pge_ii, peq_ii, pne_ii, pneg_i, List.length_cons, List.length_nil, Nat.reduceAdd, Nat.reduceSub, Nat.reduceLeDiff, sz, if_true, Bool.false_eq_true, if_false, Bool.not_true, Bool.not_false, leave_v, List.take_length, plen_t, plen_l, ptup_l, ptup_t, pint_i, pis_n, pis_i, pis_t, pisnt_n, pisnt_i, pisnt_t, Int.cast_ofNat_Int, ne_eq, not_true_eq_false, not_false_eq_true, decide_true, decide_false, pix_sp hi, pix_sp (h2 j hj), apart_ok]
        rfl⟩
    have pa := pall_l (m := m ++ [Ob.lst (encI T)]) T fun j => decide ((fam H).apart i j)
    have e : encI (i :: l) = .int (i : Int) :: encI l := rfl
    by_cases c : (T.all fun j => decide ((fam H).apart i j)) = true
    · obtain ⟨e2', q⟩ := mtake_loop H l (T ++ [i]) (some (.val (.int (i : Int)))) (fun j hj => h1 j (List.mem_cons_of_mem _ hj)) (fun j hj => by
        rcases List.mem_append.mp hj with z | z
        · exact h2 j z
        · rw [List.mem_singleton.mp z]; exact hi) (by rw [List.length_append, List.length_singleton]; omega)
      have pp := papp_r (d := .int (i : Int)) g (by rw [encI_len]; omega)
      rw [s0] at pp
      have ea : encI T ++ [PyData.int (i : Int)] = encI (T ++ [i]) := by rw [encI_app]; rfl
      rw [ea] at pp
      have hs : l_most_apart3 [some (.val (.tuple (sp.map encS))), some (.ref m.length), some (.val (.int (i : Int))), none] (m ++ [.lst (encI T)]) = some (.nx [some (.val (.tuple (sp.map encS))), some (.ref m.length), some (.val (.int (i : Int))), none] (m ++ [.lst (encI (T ++ [i]))])) := by
        simp only [l_most_apart3, ev_asg, ev_par, ev_if, ev_ret, ev_retN, ev_expr, ev_bin, ev_un, ev_ap, ev_cons, ev_nil, ev_varS, ev_var0, ev_c, ob_some, ev_gNm, ev_tOf, ev_asB, ev_asI, ev_tNot, ev_tAnd, ev_tOr, ev_eOf, ev_eIf, ev_chain, List.set_cons_succ, List.set_cons_zero, ev_then_nx, ev_then_rt, ev_next, ev_pTup, ev_valsC, ev_vals0, ev_eL, ev_bm, ev_aug, pix_t, pix_l, pixq0, pixq1, atI_0, atI_1, atI_2, pp_ii, ps_ii, pa_ii, plt_ii, ple_ii, pgt_ii, pge_ii, peq_ii, pne_ii, pneg_i, List.length_cons, List.length_nil, Nat.reduceAdd, Nat.reduceSub, Nat.reduceLeDiff, sz, if_true, Bool.false_eq_true, if_false, Bool.not_true, Bool.not_false, leave_v, List.take_length, plen_t, plen_l, ptup_l, ptup_t, pint_i, pis_n, pis_i, pis_t, pisnt_n, pisnt_i, pisnt_t, Int.cast_ofNat_Int, ne_eq, not_true_eq_false, not_false_eq_true, decide_true, decide_false, ev_comp, it_an, rc, pa, c, asL_r g, pp]
      refine ⟨e2', ?_⟩
      rw [e, step_nx (env1 := [some (.val (.tuple (sp.map encS))), some (.ref m.length), some (.val (.int (i : Int))), none]) rfl hs, q, show tkn (fam H) T (i :: l) = tkn (fam H) (T ++ [i]) l from if_pos c]
    · obtain ⟨e2', q⟩ := mtake_loop H l T (some (.val (.int (i : Int)))) (fun j hj => h1 j (List.mem_cons_of_mem _ hj)) h2 (by omega)
      have c' : (T.all fun j => decide ((fam H).apart i j)) = false := by simpa using c
      have hs : l_most_apart3 [some (.val (.tuple (sp.map encS))), some (.ref m.length), some (.val (.int (i : Int))), none] (m ++ [.lst (encI T)]) = some (.nx [some (.val (.tuple (sp.map encS))), some (.ref m.length), some (.val (.int (i : Int))), none] (m ++ [.lst (encI T)])) := by
        simp only [l_most_apart3, ev_asg, ev_par, ev_if, ev_ret, ev_retN, ev_expr, ev_bin, ev_un, ev_ap, ev_cons, ev_nil, ev_varS, ev_var0, ev_c, ob_some, ev_gNm, ev_tOf, ev_asB, ev_asI, ev_tNot, ev_tAnd, ev_tOr, ev_eOf, ev_eIf, ev_chain, List.set_cons_succ, List.set_cons_zero, ev_then_nx, ev_then_rt, ev_next, ev_pTup, ev_valsC, ev_vals0, ev_eL, ev_bm, ev_aug, pix_t, pix_l, pixq0, pixq1, atI_0, atI_1, atI_2, pp_ii, ps_ii, pa_ii, plt_ii, ple_ii, pgt_ii, pge_ii, peq_ii, pne_ii, pneg_i, List.length_cons, List.length_nil, Nat.reduceAdd, Nat.reduceSub, Nat.reduceLeDiff, sz, if_true, Bool.false_eq_true, if_false, Bool.not_true, Bool.not_false, leave_v, List.take_length, plen_t, plen_l, ptup_l, ptup_t, pint_i, pis_n, pis_i, pis_t, pisnt_n, pisnt_i, pisnt_t, Int.cast_ofNat_Int, ne_eq, not_true_eq_false, not_false_eq_true, decide_true, decide_false, ev_comp, it_an, rc, pa, c']
      refine ⟨e2', ?_⟩
      rw [e, step_nx (env1 := [some (.val (.tuple (sp.map encS))), some (.ref m.length), some (.val (.int (i : Int))), none]) rfl hs, q, show tkn (fam H) T (i :: l) = tkn (fam H) T l from if_neg c]
def grd (sp : List Sn) (H : Sps sp) : List Nat := tkn (fam H) [] (byEnd sp)
theorem byEnd_len (sp : List Sn) : (byEnd sp).length = sp.length := by rw [(byEnd_perm sp).length_eq, List.length_range]
theorem most_apart_ok (H : Sps sp) : m_most_apart [.val (.tuple (sp.map encS))] m = some (.val (encT (srt (grd sp H))), m) := by
  have l7 := H.l7
  obtain ⟨e2, q⟩ := mtake_loop (m := m) H (byEnd sp) [] none (fun i hi => byEnd_lt hi) (fun i hi => (by cases hi)) (by rw [byEnd_len]; show 0 + sp.length ≤ 1000; omega)
  have g : (m ++ [Ob.lst (encI (grd sp H))])[m.length]? = some (.lst (encI (grd sp H))) := g0
  have c := check_spans_ok (m := m) H
  have hk : ∀ M i, i < sp.length → keyF k_most_apart1 [] [some (.val (.tuple (sp.map encS))), some (.ref m.length), none, none] (.int (i : Int)) M = some (.tuple [.int (nth sp i).2, .int (i : Int)], M) := fun M i hi => by
    simp only [keyF, mskL, k_most_apart1, ev_asg, ev_par, ev_if, ev_ret, ev_retN, ev_expr, ev_bin, ev_un, ev_ap, ev_cons, ev_nil, ev_varS, ev_var0, ev_c, ob_some, ev_gNm, ev_tOf, ev_asB, ev_asI, ev_tNot, ev_tAnd, ev_tOr, ev_eOf, ev_eIf, ev_chain, List.set_cons_succ, List.set_cons_zero, ev_then_nx, ev_then_rt, ev_next, ev_pTup, ev_valsC, ev_vals0, ev_eL, ev_bm, ev_aug, pix_t, pix_l, pixq0, pixq1, atI_0, atI_1, atI_2, pp_ii, ps_ii, pa_ii, plt_ii, ple_ii, pgt_ii, pge_ii, peq_ii, pne_ii, pneg_i, List.length_cons, List.length_nil, Nat.reduceAdd, Nat.reduceSub, Nat.reduceLeDiff, sz, if_true, Bool.false_eq_true, if_false, Bool.not_true, Bool.not_false, leave_v, List.take_length, plen_t, plen_l, ptup_l, ptup_t, pint_i, pis_n, pis_i, pis_t, pisnt_n, pisnt_i, pisnt_t, Int.cast_ofNat_Int, ne_eq, not_true_eq_false, not_false_eq_true, decide_true, decide_false, pix_sp hi, pix_s1]
  have ss := sort_ends (m := m ++ [Ob.lst (encI [])]) (sp := sp) (n := sp.length) rfl l7 (hk _)
  have ak : asK (.ref m.length) (m ++ [Ob.lst (encI (grd sp H))]) = some (encI (grd sp H)) := by
    show ((m ++ [Ob.lst (encI (grd sp H))])[m.length]?).bind _ = _
    rw [g]
    rfl
  have gl : (grd sp H).length ≤ 16777216 := by
    have h := (tkn_ap (S := fam H) (byEnd sp) [] List.Pairwise.nil).nodup
    have h2 : ∀ i ∈ grd sp H, i < sp.length := fun i hi => by
      rcases tkn_sub (byEnd sp) [] i hi with z | z
      · cases z
      · exact byEnd_lt z
    have := List.Nodup.length_le_of_subset (l₁ := grd sp H) (l₂ := List.range sp.length) h fun i hi => List.mem_range.mpr (h2 i hi)
    rw [List.length_range] at this
    omega
  have ps := psort_N (m := m ++ [Ob.lst (encI (grd sp H))]) ak gl
  have e0 : encI ([] : List Nat) = [] := rfl
  rw [e0] at q ss
  have rg := rgOk0 (n := sp.length) (by omega)
  have eT : PyData.tuple (encI (srt (grd sp H))) = encT (srt (grd sp H)) := rfl
  have eg : tkn (fam H) [] (byEnd sp) = grd sp H := rfl
  rw [eg] at q
  simp only [m_most_apart, bodyF, List.length_cons, List.length_nil, Nat.reduceAdd, Nat.reduceSub, List.map_cons, List.map_nil, List.replicate, List.cons_append, List.nil_append, List.append_nil, b_most_apart, ev_seq, ev_asg, ev_par, ev_if, ev_ret, ev_retN, ev_expr, ev_bin, ev_un, ev_ap, ev_cons, ev_nil, ev_varS, ev_var0, ev_c, ob_some, ev_gNm, ev_tOf, ev_asB, ev_asI, ev_tNot, ev_tAnd, ev_tOr, ev_eOf, ev_eIf, ev_chain, List.set_cons_succ, List.set_cons_zero, ev_then_nx, ev_then_rt, ev_next, ev_pTup, ev_valsC, ev_vals0, ev_eL, ev_bm, ev_aug, pix_t, pix_l, pixq0, pixq1, atI_0, atI_1, atI_2, pp_ii, ps_ii, pa_ii, plt_ii, ple_ii, pgt_ii, pge_ii, peq_ii, pne_ii, pneg_i, List.length_cons, List.length_nil, Nat.reduceAdd, Nat.reduceSub, Nat.reduceLeDiff, sz, if_true, Bool.false_eq_true, if_false, Bool.not_true, Bool.not_false, leave_v, List.take_length, plen_t, plen_l, ptup_l, ptup_t, pint_i, pis_n, pis_i, pis_t, pisnt_n, pisnt_i, pisnt_t, Int.cast_ofNat_Int, ne_eq, not_true_eq_false, not_false_eq_true, decide_true, decide_false, c, ev_eNew, ev_nLst, ev_for, it_an, ev_sortKR, List.length_map, bds1, rg]
  rw [ss]
  simp only [ev_asg, ev_par, ev_if, ev_ret, ev_retN, ev_expr, ev_bin, ev_un, ev_ap, ev_cons, ev_nil, ev_varS, ev_var0, ev_c, ob_some, ev_gNm, ev_tOf, ev_asB, ev_asI, ev_tNot, ev_tAnd, ev_tOr, ev_eOf, ev_eIf, ev_chain, List.set_cons_succ, List.set_cons_zero, ev_then_nx, ev_then_rt, ev_next, ev_pTup, ev_valsC, ev_vals0, ev_eL, ev_bm, ev_aug, pix_t, pix_l, pixq0, pixq1, atI_0, atI_1, atI_2, pp_ii, ps_ii, pa_ii, plt_ii, ple_ii, pgt_ii, pge_ii, peq_ii, pne_ii, pneg_i, List.length_cons, List.length_nil, Nat.reduceAdd, Nat.reduceSub, Nat.reduceLeDiff, sz, if_true, Bool.false_eq_true, if_false, Bool.not_true, Bool.not_false, leave_v, List.take_length, plen_t, plen_l, ptup_l, ptup_t, pint_i, pis_n, pis_i, pis_t, pisnt_n, pisnt_i, pisnt_t, Int.cast_ofNat_Int, ne_eq, not_true_eq_false, not_false_eq_true, decide_true, decide_false, an1_l, run_iL, q, ps, eT, tk]
end
end L36

set_option Elab.async false
set_option linter.all false
set_option maxRecDepth 100000
namespace L36
open PySem PySem.Spec PyProof.Rows L2 Ev Qa Sp
section
variable {m : M} {sp : List Sn}
theorem chain_at {s : Sn} {t : Int} : (decide (s.1 ≤ t) && decide (t < s.2)) = at_ t s := by
  unfold at_
  by_cases c : s.1 ≤ t <;> by_cases d : t < s.2 <;> simp [c, d]
theorem mx_le {l : List Nat} {B : Nat} (h : ∀ x ∈ l, x ≤ B) : Ld.mx l ≤ B := by
  cases e : l with
  | nil => exact Nat.zero_le _
  | cons a r =>
    rw [← e]
    exact h _ (Ld.mx_mem (by rw [e]; simp))
/-- how many at the moment t -/
theorem count_ok (H : Sps sp) {t : Int} {e0 e2 e3 e4 e5 e6 e7 e8 e9 e10 e11 e12 e13 e15 e16 e17 : Option R} : e__law_spans12 [e0, some (.val (.tuple (sp.map encS))), e2, e3, e4, e5, e6, e7, e8, e9, e10, e11, e12, e13, some (.val (.int t)), e15, e16, e17] m = some (.val (.int ((cnt t sp : Nat) : Int)), m) := by
  have l7 := H.l7
  have hc : clpL (.tp (.cons (.nm 4) (.cons (.nm 10) .nil))) t__law_spans11 e__law_spans10 [e0, some (.val (.tuple (sp.map encS))), e2, e3, none, e5, e6, e7, e8, e9, none, e11, e12, e13, some (.val (.int t)), e15, e16, e17] (sp.map encS) m = some ((sp.filter (at_ t)).map fun _ => .int 1, m) :=
    clpL_map encS (at_ t) (fun _ => .int 1) sp fun s hs => ⟨_, rfl, by
      show t__law_spans11 [e0, some (.val (.tuple (sp.map encS))), e2, e3, some (.val (.int s.1)), e5, e6, e7, e8, e9, some (.val (.int s.2)), e11, e12, e13, some (.val (.int t)), e15, e16, e17] m = _
      rw [← chain_at]
      by_cases c : s.1 ≤ t
      · simp only [t__law_spans11, ev_asg, ev_par, ev_if, ev_ret, ev_retN, ev_expr, ev_bin, ev_un, ev_ap, ev_cons, ev_nil, ev_varS, ev_var0, ev_c, ob_some, ev_gNm, ev_tOf, ev_asB, ev_asI, ev_tNot, ev_tAnd, ev_tOr, ev_eOf, ev_eIf, ev_chain, List.set_cons_succ, List.set_cons_zero, ev_then_nx, ev_then_rt, ev_next, ev_pTup, ev_valsC, ev_vals0, ev_eL, ev_bm, ev_aug, pix_t, pix_l, pixq0, pixq1, atI_0, atI_1, atI_2, pp_ii, ps_ii, pa_ii, plt_ii, ple_ii, pgt_ii, pge_ii, peq_ii, pne_ii, pneg_i, List.length_cons, List.length_nil, Nat.reduceAdd, Nat.reduceSub, Nat.reduceLeDiff, sz, if_true, Bool.false_eq_true, if_false, Bool.not_true, Bool.not_false, leave_v, List.take_length, plen_t, plen_l, ptup_l, ptup_t, pint_i, pis_n, pis_i, pis_t, pisnt_n, pisnt_i, pisnt_t, Int.cast_ofNat_Int, ne_eq, not_true_eq_false, not_false_eq_true, decide_true, decide_false, c, Bool.true_and]
      · simp only [t__law_spans11, ev_asg, ev_par, ev_if, ev_ret, ev_retN, ev_expr, ev_bin, ev_un, ev_ap, ev_cons, ev_nil, ev_varS, ev_var0, ev_c, ob_some, ev_gNm, ev_tOf, ev_asB, ev_asI, ev_tNot, ev_tAnd, ev_tOr, ev_eOf, ev_eIf, ev_chain, List.set_cons_succ, List.set_cons_zero, ev_then_nx, ev_then_rt, ev_next, ev_pTup, ev_valsC, ev_vals0, ev_eL, ev_bm, ev_aug, pix_t, pix_l, pixq0, pixq1, atI_0, atI_1, atI_2, pp_ii, ps_ii, pa_ii, plt_ii, ple_ii, pgt_ii, pge_ii, peq_ii, pne_ii, pneg_i, List.length_cons, List.length_nil, Nat.reduceAdd, Nat.reduceSub, Nat.reduceLeDiff, sz, if_true, Bool.false_eq_true, if_false, Bool.not_true, Bool.not_false, leave_v, List.take_length, plen_t, plen_l, ptup_l, ptup_t, pint_i, pis_n, pis_i, pis_t, pisnt_n, pisnt_i, pisnt_t, Int.cast_ofNat_Int, ne_eq, not_true_eq_false, not_false_eq_true, decide_true, decide_false, c, Bool.false_and], fun _ => rfl⟩
  have hl : (sp.map encS).length ≤ 16777216 := by rw [List.length_map]; omega
  simp only [e__law_spans12, ev_asg, ev_par, ev_if, ev_ret, ev_retN, ev_expr, ev_bin, ev_un, ev_ap, ev_cons, ev_nil, ev_varS, ev_var0, ev_c, ob_some, ev_gNm, ev_tOf, ev_asB, ev_asI, ev_tNot, ev_tAnd, ev_tOr, ev_eOf, ev_eIf, ev_chain, List.set_cons_succ, List.set_cons_zero, ev_then_nx, ev_then_rt, ev_next, ev_pTup, ev_valsC, ev_vals0, ev_eL, ev_bm, ev_aug, pix_t, pix_l, pixq0, pixq1, atI_0, atI_1, atI_2, pp_ii, ps_ii, pa_ii, plt_ii, ple_ii, pgt_ii, pge_ii, peq_ii, pne_ii, pneg_i, List.length_cons, List.length_nil, Nat.reduceAdd, Nat.reduceSub, Nat.reduceLeDiff, sz, if_true, Bool.false_eq_true, if_false, Bool.not_true, Bool.not_false, leave_v, List.take_length, plen_t, plen_l, ptup_l, ptup_t, pint_i, pis_n, pis_i, pis_t, pisnt_n, pisnt_i, pisnt_t, Int.cast_ofNat_Int, ne_eq, not_true_eq_false, not_false_eq_true, decide_true, decide_false, ev_comp, it_an, an1_t, runC_iL hl, wipeE, List.foldl, hc, List.length_map]
  rfl
theorem deep_ok (H : Sps sp) {e0 e2 e3 e4 e5 e6 e7 e8 e9 e10 e11 e12 e13 e15 e16 e17 : Option R} : eAp pMax (aCons (eL (nComp (itRng2 (aCons (eUn pNeg (eC (.int 7))) (aCons (eC (.int 13)) aNil))) (.nm 14) [14] tTrue e__law_spans12)) aNil) [e0, some (.val (.tuple (sp.map encS))), e2, e3, e4, e5, e6, e7, e8, e9, e10, e11, e12, e13, none, e15, e16, e17] m =
    some (.val (.int ((Ld.mx ((List.range 20).map fun j : Nat => cnt (-7 + (j : Int)) sp) : Nat) : Int)), m) := by
  have rg : rg2 [.val (.int (-7)), .val (.int 13)] m = iL (rngD (-7) 20) m := rfl
  have hc : clpL (.nm 14) tTrue e__law_spans12 [e0, some (.val (.tuple (sp.map encS))), e2, e3, e4, e5, e6, e7, e8, e9, e10, e11, e12, e13, none, e15, e16, e17] (rngD (-7) 20) m = some ((List.range 20).map fun j : Nat => .int ((cnt (-7 + (j : Int)) sp : Nat) : Int), m) :=
    clpL_all (fun j : Nat => PyData.int (-7 + (j : Int))) (fun j : Nat => .int ((cnt (-7 + (j : Int)) sp : Nat) : Int)) (List.range 20) fun j _ => ⟨_, rfl, count_ok H⟩
  have hl : (rngD (-7) 20).length ≤ 16777216 := by decide
  have em : ((List.range 20).map fun j : Nat => PyData.int ((cnt (-7 + (j : Int)) sp : Nat) : Int)) = encI ((List.range 20).map fun j : Nat => cnt (-7 + (j : Int)) sp) := by unfold encI; rw [List.map_map]; rfl
  have pm : pMax [.val (.list (encI ((List.range 20).map fun j : Nat => cnt (-7 + (j : Int)) sp)))] m = some (.val (.int ((Ld.mx ((List.range 20).map fun j : Nat => cnt (-7 + (j : Int)) sp) : Nat) : Int)), m) := pmax_N rfl (by simp)
  simp only [ev_asg, ev_par, ev_if, ev_ret, ev_retN, ev_expr, ev_bin, ev_un, ev_ap, ev_cons, ev_nil, ev_varS, ev_var0, ev_c, ob_some, ev_gNm, ev_tOf, ev_asB, ev_asI, ev_tNot, ev_tAnd, ev_tOr, ev_eOf, ev_eIf, ev_chain, List.set_cons_succ, List.set_cons_zero, ev_then_nx, ev_then_rt, ev_next, ev_pTup, ev_valsC, ev_vals0, ev_eL, ev_bm, ev_aug, pix_t, pix_l, pixq0, pixq1, atI_0, atI_1, atI_2, pp_ii, ps_ii, pa_ii, plt_ii, ple_ii, pgt_ii, pge_ii, peq_ii, pne_ii, pneg_i, List.length_cons, List.length_nil, Nat.reduceAdd, Nat.reduceSub, Nat.reduceLeDiff, sz, if_true, Bool.false_eq_true, if_false, Bool.not_true, Bool.not_false, leave_v, List.take_length, plen_t, plen_l, ptup_l, ptup_t, pint_i, pis_n, pis_i, pis_t, pisnt_n, pisnt_i, pisnt_t, Int.cast_ofNat_Int, ne_eq, not_true_eq_false, not_false_eq_true, decide_true, decide_false, ev_comp, it_rg2, rg, runC_iL hl, wipeE, List.foldl, hc, em, pm]
theorem fcount_ok (H : Sps sp) {t : Int} {e2 e3 e4 : Option R} : e_fewest_telescopes3 [some (.val (.tuple (sp.map encS))), some (.val (.int t)), e2, e3, e4] m = some (.val (.int ((cnt t sp : Nat) : Int)), m) := by
  have l7 := H.l7
  have hc : clpL (.tp (.cons (.nm 3) (.cons (.nm 4) .nil))) t_fewest_telescopes2 e_fewest_telescopes1 [some (.val (.tuple (sp.map encS))), some (.val (.int t)), e2, none, none] (sp.map encS) m = some ((sp.filter (at_ t)).map fun _ => .int 1, m) :=
    clpL_map encS (at_ t) (fun _ => .int 1) sp fun s hs => ⟨_, rfl, by
      show t_fewest_telescopes2 [some (.val (.tuple (sp.map encS))), some (.val (.int t)), e2, some (.val (.int s.1)), some (.val (.int s.2))] m = _
      rw [← chain_at]
      by_cases c : s.1 ≤ t
      · simp only [t_fewest_telescopes2, ev_asg, ev_par, ev_if, ev_ret, ev_retN, ev_expr, ev_bin, ev_un, ev_ap, ev_cons, ev_nil, ev_varS, ev_var0, ev_c, ob_some, ev_gNm, ev_tOf, ev_asB, ev_asI, ev_tNot, ev_tAnd, ev_tOr, ev_eOf, ev_eIf, ev_chain, List.set_cons_succ, List.set_cons_zero, ev_then_nx, ev_then_rt, ev_next, ev_pTup, ev_valsC, ev_vals0, ev_eL, ev_bm, ev_aug, pix_t, pix_l, pixq0, pixq1, atI_0, atI_1, atI_2, pp_ii, ps_ii, pa_ii, plt_ii, ple_ii, pgt_ii, pge_ii, peq_ii, pne_ii, pneg_i, List.length_cons, List.length_nil, Nat.reduceAdd, Nat.reduceSub, Nat.reduceLeDiff, sz, if_true, Bool.false_eq_true, if_false, Bool.not_true, Bool.not_false, leave_v, List.take_length, plen_t, plen_l, ptup_l, ptup_t, pint_i, pis_n, pis_i, pis_t, pisnt_n, pisnt_i, pisnt_t, Int.cast_ofNat_Int, ne_eq, not_true_eq_false, not_false_eq_true, decide_true, decide_false, c, Bool.true_and]
      · simp only [t_fewest_telescopes2, ev_asg, ev_par, ev_if, ev_ret, ev_retN, ev_expr, ev_bin, ev_un, ev_ap, ev_cons, ev_nil, ev_varS, ev_var0, ev_c, ob_some, ev_gNm, ev_tOf, ev_asB, ev_asI, ev_tNot, ev_tAnd, ev_tOr, ev_eOf, ev_eIf, ev_chain, List.set_cons_succ, List.set_cons_zero, ev_then_nx, ev_then_rt, ev_next, ev_pTup, ev_valsC, ev_vals0, ev_eL, ev_bm, ev_aug, pix_t, pix_l, pixq0, pixq1, atI_0, atI_1, atI_2, pp_ii, ps_ii, pa_ii, plt_ii, ple_ii, pgt_ii, pge_ii, peq_ii, pne_ii, pneg_i, List.length_cons, List.length_nil, Nat.reduceAdd, Nat.reduceSub, Nat.reduceLeDiff, sz, if_true, Bool.false_eq_true, if_false, Bool.not_true, Bool.not_false, leave_v, List.take_length, plen_t, plen_l, ptup_l, ptup_t, pint_i, pis_n, pis_i, pis_t, pisnt_n, pisnt_i, pisnt_t, Int.cast_ofNat_Int, ne_eq, not_true_eq_false, not_false_eq_true, decide_true, decide_false, c, Bool.false_and], fun _ => rfl⟩
  have hl : (sp.map encS).length ≤ 16777216 := by rw [List.length_map]; omega
  simp only [e_fewest_telescopes3, ev_asg, ev_par, ev_if, ev_ret, ev_retN, ev_expr, ev_bin, ev_un, ev_ap, ev_cons, ev_nil, ev_varS, ev_var0, ev_c, ob_some, ev_gNm, ev_tOf, ev_asB, ev_asI, ev_tNot, ev_tAnd, ev_tOr, ev_eOf, ev_eIf, ev_chain, List.set_cons_succ, List.set_cons_zero, ev_then_nx, ev_then_rt, ev_next, ev_pTup, ev_valsC, ev_vals0, ev_eL, ev_bm, ev_aug, pix_t, pix_l, pixq0, pixq1, atI_0, atI_1, atI_2, pp_ii, ps_ii, pa_ii, plt_ii, ple_ii, pgt_ii, pge_ii, peq_ii, pne_ii, pneg_i, List.length_cons, List.length_nil, Nat.reduceAdd, Nat.reduceSub, Nat.reduceLeDiff, sz, if_true, Bool.false_eq_true, if_false, Bool.not_true, Bool.not_false, leave_v, List.take_length, plen_t, plen_l, ptup_l, ptup_t, pint_i, pis_n, pis_i, pis_t, pisnt_n, pisnt_i, pisnt_t, Int.cast_ofNat_Int, ne_eq, not_true_eq_false, not_false_eq_true, decide_true, decide_false, ev_comp, it_an, an1_t, runC_iL hl, wipeE, List.foldl, hc, List.length_map]
  rfl
theorem fewest_ok (H : Sps sp) : m_fewest_telescopes [.val (.tuple (sp.map encS))] m = some (.val (.int ((Ld.mx (sp.map fun s => cnt s.1 sp) : Nat) : Int)), m) := by
  have l7 := H.l7
  have hc : clpL (.tp (.cons (.nm 1) (.cons (.nm 2) .nil))) tTrue e_fewest_telescopes3 [some (.val (.tuple (sp.map encS))), none, none, none, none] (sp.map encS) m = some (sp.map fun s => .int ((cnt s.1 sp : Nat) : Int), m) :=
    clpL_all encS (fun s => .int ((cnt s.1 sp : Nat) : Int)) sp fun s _ => ⟨_, rfl, fcount_ok H⟩
  have hl : (sp.map encS).length ≤ 16777216 := by rw [List.length_map]; omega
  have em : (sp.map fun s => PyData.int ((cnt s.1 sp : Nat) : Int)) = encI (sp.map fun s => cnt s.1 sp) := by unfold encI; rw [List.map_map]; rfl
  have ne : (sp.map fun s => cnt s.1 sp) ≠ [] := fun z => by
    have := H.l1
    have e := congrArg List.length z
    rw [List.length_map] at e
    simp at e
    rw [e] at this
    simp at this
  have pm : pMax [.val (.list (encI (sp.map fun s => cnt s.1 sp)))] m = some (.val (.int ((Ld.mx (sp.map fun s => cnt s.1 sp) : Nat) : Int)), m) := pmax_N rfl ne
  have c := check_spans_ok (m := m) H
  simp only [m_fewest_telescopes, bodyF, List.length_cons, List.length_nil, Nat.reduceAdd, Nat.reduceSub, List.map_cons, List.map_nil, List.replicate, List.cons_append, List.nil_append, List.append_nil, b_fewest_telescopes, ev_seq, ev_asg, ev_par, ev_if, ev_ret, ev_retN, ev_expr, ev_bin, ev_un, ev_ap, ev_cons, ev_nil, ev_varS, ev_var0, ev_c, ob_some, ev_gNm, ev_tOf, ev_asB, ev_asI, ev_tNot, ev_tAnd, ev_tOr, ev_eOf, ev_eIf, ev_chain, List.set_cons_succ, List.set_cons_zero, ev_then_nx, ev_then_rt, ev_next, ev_pTup, ev_valsC, ev_vals0, ev_eL, ev_bm, ev_aug, pix_t, pix_l, pixq0, pixq1, atI_0, atI_1, atI_2, pp_ii, ps_ii, pa_ii, plt_ii, ple_ii, pgt_ii, pge_ii, peq_ii, pne_ii, pneg_i, List.length_cons, List.length_nil, Nat.reduceAdd, Nat.reduceSub, Nat.reduceLeDiff, sz, if_true, Bool.false_eq_true, if_false, Bool.not_true, Bool.not_false, leave_v, List.take_length, plen_t, plen_l, ptup_l, ptup_t, pint_i, pis_n, pis_i, pis_t, pisnt_n, pisnt_i, pisnt_t, Int.cast_ofNat_Int, ne_eq, not_true_eq_false, not_false_eq_true, decide_true, decide_false, c, ev_comp, it_an, an1_t, runC_iL hl, wipeE, List.foldl, hc, em, pm]
/-! the rows of telescopes -/
def srtS (sp : List Sn) : List Sn := sp.mergeSort fun p q => decide (p.1 < q.1 ∨ (p.1 = q.1 ∧ p.2 ≤ q.2))
theorem srtS_perm (sp : List Sn) : (srtS sp).Perm sp := List.mergeSort_perm _ _
theorem srtS_sorted (sp : List Sn) : (srtS sp).Pairwise fun p q => p.1 ≤ q.1 := by
  have := List.pairwise_mergeSort (le := fun p q : Sn => decide (p.1 < q.1 ∨ (p.1 = q.1 ∧ p.2 ≤ q.2))) (fun a b c h1 h2 => by simp at *; omega) (fun a b => by simp; omega) sp
  exact this.imp fun h => by
    have := of_decide_eq_true h
    omega
theorem sort_sp (h7 : sp.length ≤ 7) : pSortedA [.val (.tuple (sp.map encS))] m = some (.val (.list ((srtS sp).map encS)), m) := by
  rw [psort_r (ds := sp.map encS) rfl (sortable_tup sp (fun s _ => ⟨_, _, rfl⟩) fun a _ b _ => alike_ii _ _ _ _) (small_of fun d hd => by
    obtain ⟨s, _, rfl⟩ := List.mem_map.mp hd
    show 1 ≤ 60
    decide) (by rw [List.length_map]; omega), sortD_map]
  have e : PySem.W.dataLe false encS = fun p q : Sn => decide (p.1 < q.1 ∨ (p.1 = q.1 ∧ p.2 ≤ q.2)) := PySem.W.dataLe_ii (β := Sn) Prod.fst Prod.snd
  rw [e]
  rfl
def encZ (l : List Int) : List D := l.map PyData.int
theorem peq_nil {l : List Nat} : pEq (.val (.list (encI l))) (.val (.list [])) m = some (.val (.bool l.isEmpty), m) := by
  have h1 : SeqAt.shaped (.list ([] : List D)) = true := rfl
  have e : PyData.eqv (.list (encI l)) (.list []) = l.isEmpty := by cases l <;> rfl
  show (if (SeqAt.shaped (.list (encI l)) && SeqAt.shaped (.list [])) = true then some (R.val (.bool (if false then !PyData.eqv (.list (encI l)) (.list []) else PyData.eqv (.list (encI l)) (.list []))), m) else none) = _
  rw [lay_ints, h1, e]
  rfl
theorem ends_step {es : List Int} {s : Sn} (hl : es.length ≤ 1000) {e0 e1 e2 e3 e5 e6 e7 e8 e11 e12 e13 e14 e16 e17 : Option R} : ∃ e11', l__law_spans15 [e0, e1, e2, e3, some (.val (.int s.1)), e5, e6, e7, e8, some (.ref m.length), some (.val (.int s.2)), e11, e12, e13, e14, none, e16, e17] (m ++ [.lst (encZ es)]) =
    some (.nx [e0, e1, e2, e3, some (.val (.int s.1)), e5, e6, e7, e8, some (.ref m.length), some (.val (.int s.2)), e11', e12, e13, e14, none, e16, e17] (m ++ [.lst (encZ (put es s))])) := by
  have g : (m ++ [Ob.lst (encZ es)])[m.length]? = some (.lst (encZ es)) := g0
  have zl : (encZ es).length = es.length := by unfold encZ; rw [List.length_map]
  have pl : pLen [.ref m.length] (m ++ [Ob.lst (encZ es)]) = some (.val (.int ((es.length : Nat) : Int)), m ++ [Ob.lst (encZ es)]) := by rw [plen_r g, zl]
  have rg := rg1_nat (m := m ++ [Ob.lst (encZ es)]) (n := es.length) (by omega)
  have hlr : ((List.range es.length).map fun j : Nat => PyData.int j).length ≤ 16777216 := by rw [List.length_map, List.length_range]; omega
  have hc : clpL (.nm 15) t__law_spans14 e__law_spans13 [e0, e1, e2, e3, some (.val (.int s.1)), e5, e6, e7, e8, some (.ref m.length), some (.val (.int s.2)), e11, e12, e13, e14, none, e16, e17] ((List.range es.length).map fun j : Nat => PyData.int j) (m ++ [.lst (encZ es)]) = some ((free es s.1).map fun j : Nat => PyData.int j, m ++ [.lst (encZ es)]) :=
    clpL_map (fun j : Nat => PyData.int j) (fun k => decide (es.getD k 0 ≤ s.1)) (fun j : Nat => PyData.int j) (List.range es.length) fun k hk => ⟨_, rfl, by
      have hk' := List.mem_range.mp hk
      have ix : pIdx (.ref m.length) (.val (.int (k : Int))) (m ++ [Ob.lst (encZ es)]) = some (.val (.int (es.getD k 0)), m ++ [Ob.lst (encZ es)]) := by
        rw [pix_r g, at_nat (x := .int (es.getD k 0)) (by
          unfold encZ
          rw [List.getElem?_map, List.getD, List.getElem?_eq_getElem hk']
          rfl)]
        rfl
      show t__law_spans14 [e0, e1, e2, e3, some (.val (.int s.1)), e5, e6, e7, e8, some (.ref m.length), some (.val (.int s.2)), e11, e12, e13, e14, some (.val (.int (k : Int))), e16, e17] (m ++ [.lst (encZ es)]) = _
      simp only [t__law_spans14, ev_asg, ev_par, ev_if, ev_ret, ev_retN, ev_expr, ev_bin, ev_un, ev_ap, ev_cons, ev_nil, ev_varS, ev_var0, ev_c, ob_some, ev_gNm, ev_tOf, ev_asB, ev_asI, ev_tNot, ev_tAnd, ev_tOr, ev_eOf, ev_eIf, ev_chain, List.set_cons_succ, List.set_cons_zero, ev_then_nx, ev_then_rt, ev_next, ev_pTup, ev_valsC, ev_vals0, ev_eL, ev_bm, ev_aug, pix_t, pix_l, pixq0, pixq1, atI_0, atI_1, atI_2, pp_ii, ps_ii, pa_ii, plt_ii, ple_ii, pgt_ii, pge_ii, peq_ii, pne_ii, pneg_i, List.length_cons, List.length_nil, Nat.reduceAdd, Nat.reduceSub, Nat.reduceLeDiff, sz, if_true, Bool.false_eq_true, if_false, Bool.not_true, Bool.not_false, leave_v, List.take_length, plen_t, plen_l, ptup_l, ptup_t, pint_i, pis_n, pis_i, pis_t, pisnt_n, pisnt_i, pisnt_t, Int.cast_ofNat_Int, ne_eq, not_true_eq_false, not_false_eq_true, decide_true, decide_false, ix], fun _ => rfl⟩
  have ef : ((free es s.1).map fun j : Nat => PyData.int j) = encI (free es s.1) := rfl
  rw [ef] at hc
  refine ⟨some (.val (.list (encI (free es s.1)))), ?_⟩
  cases hf : free es s.1 with
  | nil =>
    have pp := papp_r (d := .int s.2) g (by rw [zl]; omega)
    rw [s0] at pp
    have ep : put es s = es ++ [s.2] := by unfold put; rw [hf]
    have ea : encZ es ++ [PyData.int s.2] = encZ (put es s) := by rw [ep]; unfold encZ; simp
    rw [ea] at pp
    rw [hf] at hc
    have pq := peq_nil (m := m ++ [Ob.lst (encZ es)]) (l := [])
    simp only [l__law_spans15, ev_seq, ev_asg, ev_par, ev_if, ev_ret, ev_retN, ev_expr, ev_bin, ev_un, ev_ap, ev_cons, ev_nil, ev_varS, ev_var0, ev_c, ob_some, ev_gNm, ev_tOf, ev_asB, ev_asI, ev_tNot, ev_tAnd, ev_tOr, ev_eOf, ev_eIf, ev_chain, List.set_cons_succ, List.set_cons_zero, ev_then_nx, ev_then_rt, ev_next, ev_pTup, ev_valsC, ev_vals0, ev_eL, ev_bm, ev_aug, pix_t, pix_l, pixq0, pixq1, atI_0, atI_1, atI_2, pp_ii, ps_ii, pa_ii, plt_ii, ple_ii, pgt_ii, pge_ii, peq_ii, pne_ii, pneg_i, List.length_cons, List.length_nil, Nat.reduceAdd, Nat.reduceSub, Nat.reduceLeDiff, sz, if_true, Bool.false_eq_true, if_false, Bool.not_true, Bool.not_false, leave_v, List.take_length, plen_t, plen_l, ptup_l, ptup_t, pint_i, pis_n, pis_i, pis_t, pisnt_n, pisnt_i, pisnt_t, Int.cast_ofNat_Int, ne_eq, not_true_eq_false, not_false_eq_true, decide_true, decide_false, ev_comp, it_rg1, pl, rg, runC_iL hlr, wipeE, List.foldl, hc, ev_nLst, pq, List.isEmpty_nil, asL_r g, pp]
  | cons k l =>
    have hk := free_cons hf
    have ep : put es s = es.set k s.2 := by unfold put; rw [hf]
    have ps : pSet (.ref m.length) (.val (.int (k : Int))) (.val (.int s.2)) (m ++ [Ob.lst (encZ es)]) = some (m ++ [.lst (encZ (put es s))]) := by
      rw [pset_r g, ixN_nat (by rw [zl]; exact hk.1), ob_some, s0, ep]
      unfold encZ
      rw [List.map_set]
    rw [hf] at hc
    have pq := peq_nil (m := m ++ [Ob.lst (encZ es)]) (l := k :: l)
    have ec : encI (k :: l) = .int (k : Int) :: encI l := rfl
    rw [ec] at pq hc
    simp only [l__law_spans15, ev_seq, ev_asg, ev_par, ev_if, ev_ret, ev_retN, ev_expr, ev_bin, ev_un, ev_ap, ev_cons, ev_nil, ev_varS, ev_var0, ev_c, ob_some, ev_gNm, ev_tOf, ev_asB, ev_asI, ev_tNot, ev_tAnd, ev_tOr, ev_eOf, ev_eIf, ev_chain, List.set_cons_succ, List.set_cons_zero, ev_then_nx, ev_then_rt, ev_next, ev_pTup, ev_valsC, ev_vals0, ev_eL, ev_bm, ev_aug, pix_t, pix_l, pixq0, pixq1, atI_0, atI_1, atI_2, pp_ii, ps_ii, pa_ii, plt_ii, ple_ii, pgt_ii, pge_ii, peq_ii, pne_ii, pneg_i, List.length_cons, List.length_nil, Nat.reduceAdd, Nat.reduceSub, Nat.reduceLeDiff, sz, if_true, Bool.false_eq_true, if_false, Bool.not_true, Bool.not_false, leave_v, List.take_length, plen_t, plen_l, ptup_l, ptup_t, pint_i, pis_n, pis_i, pis_t, pisnt_n, pisnt_i, pisnt_t, Int.cast_ofNat_Int, ne_eq, not_true_eq_false, not_false_eq_true, decide_true, decide_false, ev_comp, it_rg1, pl, rg, runC_iL hlr, wipeE, List.foldl, hc, ev_nLst, pq, List.isEmpty_cons, ev_sub, ps, ec]
end
end L36

set_option Elab.async false
set_option linter.all false
set_option maxRecDepth 100000
namespace L36
open PySem PySem.Spec PyProof.Rows L2 Ev Qa Sp
section
variable {m : M} {sp : List Sn}
theorem put_len (es : List Int) (s : Sn) : (put es s).length ≤ es.length + 1 := by
  unfold put
  split
  · simp
  · rw [List.length_set]; omega
theorem ends_loop {e0 e1 e2 e3 e5 e6 e7 e8 e12 e13 e14 e16 e17 : Option R} : ∀ (l : List Sn) (es : List Int) (e4 e10 e11 : Option R), es.length + l.length ≤ 1000 → ∃ e4' e10' e11', loopL (gP (.tp (.cons (.nm 4) (.cons (.nm 10) .nil)))) l__law_spans15 (l.map encS) [e0, e1, e2, e3, e4, e5, e6, e7, e8, some (.ref m.length), e10, e11, e12, e13, e14, none, e16, e17] (m ++ [.lst (encZ es)]) =
    some (.nx [e0, e1, e2, e3, e4', e5, e6, e7, e8, some (.ref m.length), e10', e11', e12, e13, e14, none, e16, e17] (m ++ [.lst (encZ (l.foldl put es))]))
  | [], es, e4, e10, e11, _ => ⟨e4, e10, e11, rfl⟩
  | s :: l, es, e4, e10, e11, h => by
    rw [List.length_cons] at h
    obtain ⟨f11, hs⟩ := ends_step (m := m) (es := es) (s := s) (by omega) (e0 := e0) (e1 := e1) (e2 := e2) (e3 := e3) (e5 := e5) (e6 := e6) (e7 := e7) (e8 := e8) (e11 := e11) (e12 := e12) (e13 := e13) (e14 := e14) (e16 := e16) (e17 := e17)
    have pl := put_len es s
    obtain ⟨g4, g10, g11, q⟩ := ends_loop (e0 := e0) (e1 := e1) (e2 := e2) (e3 := e3) (e5 := e5) (e6 := e6) (e7 := e7) (e8 := e8) (e12 := e12) (e13 := e13) (e14 := e14) (e16 := e16) (e17 := e17) l (put es s) (some (.val (.int s.1))) (some (.val (.int s.2))) f11 (by omega)
    exact ⟨g4, g10, g11, by rw [List.map_cons, step_nx (env1 := [e0, e1, e2, e3, some (.val (.int s.1)), e5, e6, e7, e8, some (.ref m.length), some (.val (.int s.2)), e11, e12, e13, e14, none, e16, e17]) rfl hs]; exact q⟩
/-- three ways to the depth -/
theorem depth_eq (H : Sps sp) : Ld.mx ((List.range 20).map fun j : Nat => cnt (-7 + (j : Int)) sp) = ((srtS sp).foldl put []).length ∧ Ld.mx (sp.map fun s => cnt s.1 sp) = ((srtS sp).foldl put []).length := by
  obtain ⟨⟨t, h1⟩, h2⟩ := puts_depth (S := sp) (l := srtS sp) (fun s hs => (H.ok s ((srtS_perm sp).mem_iff.mp hs)).2.1) (srtS_sorted sp) (srtS_perm sp)
  have ne : sp ≠ [] := fun z => by
    have := H.l1
    rw [z] at this
    simp at this
  have pos : 0 < ((srtS sp).foldl put []).length := by
    cases e : sp with
    | nil => exact absurd e ne
    | cons s r =>
      rw [← e]
      have hs : s ∈ sp := by rw [e]; simp
      have a := h2 s.1
      have : 0 < Sp.cnt s.1 sp := by
        unfold Sp.cnt
        refine List.length_pos_iff.mpr fun z => ?_
        have := List.filter_eq_nil_iff.mp z s hs
        have h := H.ok s hs
        exact this (decide_eq_true ⟨Int.le_refl _, h.2.1⟩)
      omega
  obtain ⟨s, hs, h3⟩ := depth_begin (S := sp) (t := t) (by omega)
  have hb := H.ok s hs
  constructor
  · refine Nat.le_antisymm (mx_le fun x hx => ?_) (Nat.le_trans h1 (Nat.le_trans h3 (Ld.le_mx ?_)))
    · obtain ⟨j, _, rfl⟩ := List.mem_map.mp hx
      exact h2 _
    · refine List.mem_map.mpr ⟨(s.1 + 7).toNat, List.mem_range.mpr (by omega), ?_⟩
      have : (-7 : Int) + ((s.1 + 7).toNat : Int) = s.1 := by omega
      rw [this]
  · refine Nat.le_antisymm (mx_le fun x hx => ?_) (Nat.le_trans h1 (Nat.le_trans h3 (Ld.le_mx (List.mem_map.mpr ⟨s, hs, rfl⟩))))
    obtain ⟨r, _, rfl⟩ := List.mem_map.mp hx
    exact h2 _
/-! the most worth from some -/
def wt (ws : List Nat) (i : Nat) : Nat := ws.getD i 0
def encB (e : Int × Nat) : D := .tuple [.int e.1, .int ((e.2 : Nat) : Int)]
theorem mx0_eq (l : List Nat) : Ld.mx (l ++ [0]) = mx0 l := by
  have : ∀ (l : List Nat) (a : Nat), (l ++ [0]).foldl max a = l.foldl max a := fun l => by
    induction l with
    | nil => intro a; show max a 0 = a; omega
    | cons b l ih => intro a; exact ih (max a b)
  cases l with
  | nil => rfl
  | cons a l =>
    unfold Ld.mx mx0
    rw [List.cons_append, List.max?_cons']
    show (l ++ [0]).foldl max a = l.foldl max (max 0 a)
    rw [this, Nat.zero_max]
theorem mfrom_step (H : Sps sp) {ws : List Nat} (hw : ws.length = sp.length) {i : Nat} (hi : i < sp.length) {bs : List (Int × Nat)} (hl : bs.length ≤ 1000) {e2 e5 e6 e7 e8 : Option R} : ∃ e5' e6' e7' e8', l_most_from5 [some (.val (.tuple (sp.map encS))), some (.val (encT ws)), e2, some (.ref m.length), some (.val (.int (i : Int))), e5, e6, e7, e8, none, none, none] (m ++ [.lst (bs.map encB)]) =
    some (.nx [some (.val (.tuple (sp.map encS))), some (.val (encT ws)), e2, some (.ref m.length), some (.val (.int (i : Int))), e5', e6', e7', e8', none, none, none]
      (m ++ [.lst ((bs ++ [((nth sp i).2, max (mx0 (bs.map Prod.snd)) (mx0 ((bs.filter fun e => decide (e.1 ≤ (nth sp i).1)).map Prod.snd) + wt ws i))]).map encB)])) := by
  have g : (m ++ [Ob.lst (bs.map encB)])[m.length]? = some (.lst (bs.map encB)) := g0
  have r1 : ∀ e7 e8, runC (an1 (.ref m.length) (m ++ [Ob.lst (bs.map encB)])) (.tp (.cons (.nm 9) (.cons (.nm 10) .nil))) [9, 10] t_most_from3 e_most_from2 [some (.val (.tuple (sp.map encS))), some (.val (encT ws)), e2, some (.ref m.length), some (.val (.int (i : Int))), some (.val (.int (nth sp i).1)), some (.val (.int (nth sp i).2)), e7, e8, none, none, none] =
      some ((bs.filter fun e => decide (e.1 ≤ (nth sp i).1)).map fun e => .int ((e.2 : Nat) : Int), m ++ [.lst (bs.map encB)]) := fun e7 e8 =>
    runC_ref encB (fun e => decide (e.1 ≤ (nth sp i).1)) (fun e => .int ((e.2 : Nat) : Int)) bs g (by omega) fun e _ => ⟨_, rfl, by
      show t_most_from3 [some (.val (.tuple (sp.map encS))), some (.val (encT ws)), e2, some (.ref m.length), some (.val (.int (i : Int))), some (.val (.int (nth sp i).1)), some (.val (.int (nth sp i).2)), e7, e8, some (.val (.int e.1)), some (.val (.int ((e.2 : Nat) : Int))), none] (m ++ [.lst (bs.map encB)]) = _
      simp only [t_most_from3, ev_asg, ev_par, ev_if, ev_ret, ev_retN, ev_expr, ev_bin, ev_un, ev_ap, ev_cons, ev_nil, ev_varS, ev_var0, ev_c, ob_some, ev_gNm, ev_tOf, ev_asB, ev_asI, ev_tNot, ev_tAnd, ev_tOr, ev_eOf, ev_eIf, ev_chain, List.set_cons_succ, List.set_cons_zero, ev_then_nx, ev_then_rt, ev_next, ev_pTup, ev_valsC, ev_vals0, ev_eL, ev_bm, ev_aug, pix_t, pix_l, pixq0, pixq1, atI_0, atI_1, atI_2, pp_ii, ps_ii, pa_ii, plt_ii, ple_ii, pgt_ii, pge_ii, peq_ii, pne_ii, pneg_i, List.length_cons, List.length_nil, Nat.reduceAdd, Nat.reduceSub, Nat.reduceLeDiff, sz, if_true, Bool.false_eq_true, if_false, Bool.not_true, Bool.not_false, leave_v, List.take_length, plen_t, plen_l, ptup_l, ptup_t, pint_i, pis_n, pis_i, pis_t, pisnt_n, pisnt_i, pisnt_t, Int.cast_ofNat_Int, ne_eq, not_true_eq_false, not_false_eq_true, decide_true, decide_false], fun _ => rfl⟩
  have r2 : ∀ e7 e8, runC (an1 (.ref m.length) (m ++ [Ob.lst (bs.map encB)])) (.tp (.cons (.nm 11) (.cons (.nm 10) .nil))) [11, 10] tTrue e_most_from4 [some (.val (.tuple (sp.map encS))), some (.val (encT ws)), e2, some (.ref m.length), some (.val (.int (i : Int))), some (.val (.int (nth sp i).1)), some (.val (.int (nth sp i).2)), e7, e8, none, none, none] =
      some (bs.map fun e => .int ((e.2 : Nat) : Int), m ++ [.lst (bs.map encB)]) := fun e7 e8 =>
    runC_refA encB (fun e => .int ((e.2 : Nat) : Int)) bs g (by omega) fun e _ => ⟨_, rfl, rfl⟩
  have em : ∀ l : List (Int × Nat), (l.map fun e => PyData.int ((e.2 : Nat) : Int)) = encI (l.map Prod.snd) := fun l => by unfold encI; rw [List.map_map]; rfl
  rw [em] at r1 r2
  have pl : ∀ l : List Nat, l.length ≤ 1000 → pPlus (.val (.list (encI l))) (.val (.list [.int 0])) (m ++ [Ob.lst (bs.map encB)]) = some (.val (.list (encI (l ++ [0]))), m ++ [Ob.lst (bs.map encB)]) := fun l h => by
    rw [pp_ll (by rw [encI_len]; simp; omega)]
    rw [encI_app]
    rfl
  have l1 : (bs.map Prod.snd).length ≤ 1000 := by rw [List.length_map]; exact hl
  have l2 : ((bs.filter fun e => decide (e.1 ≤ (nth sp i).1)).map Prod.snd).length ≤ 1000 := by
    rw [List.length_map]
    exact Nat.le_trans (List.length_filter_le _ _) hl
  have p1 := pl _ l2
  have p2 := pl _ l1
  have q1 : pMax [.val (.list (encI (((bs.filter fun e => decide (e.1 ≤ (nth sp i).1)).map Prod.snd) ++ [0])))] (m ++ [Ob.lst (bs.map encB)]) = some (.val (.int ((mx0 ((bs.filter fun e => decide (e.1 ≤ (nth sp i).1)).map Prod.snd) : Nat) : Int)), m ++ [Ob.lst (bs.map encB)]) := by
    have := pmax_N (m := m ++ [Ob.lst (bs.map encB)]) (r := .val (.list (encI (((bs.filter fun e => decide (e.1 ≤ (nth sp i).1)).map Prod.snd) ++ [0])))) rfl (by simp)
    rw [this]
    have e := mx0_eq ((bs.filter fun e => decide (e.1 ≤ (nth sp i).1)).map Prod.snd)
    unfold Ld.mx at e
    rw [e]
  have q2 : pMax [.val (.list (encI ((bs.map Prod.snd) ++ [0])))] (m ++ [Ob.lst (bs.map encB)]) = some (.val (.int ((mx0 (bs.map Prod.snd) : Nat) : Int)), m ++ [Ob.lst (bs.map encB)]) := by
    have := pmax_N (m := m ++ [Ob.lst (bs.map encB)]) (r := .val (.list (encI ((bs.map Prod.snd) ++ [0])))) rfl (by simp)
    rw [this]
    have e := mx0_eq (bs.map Prod.snd)
    unfold Ld.mx at e
    rw [e]
  generalize hu : mx0 ((bs.filter fun e => decide (e.1 ≤ (nth sp i).1)).map Prod.snd) = u at *
  generalize hv : mx0 (bs.map Prod.snd) = v at *
  have ix : pIdx (.val (encT ws)) (.val (.int (i : Int))) (m ++ [Ob.lst (bs.map encB)]) = some (.val (.int ((wt ws i : Nat) : Int)), m ++ [Ob.lst (bs.map encB)]) := pix_T (getD_some (by rw [hw]; exact hi))
  have pm : (if ((u : Int) + (wt ws i : Int)) > (v : Int) then ((u : Int) + (wt ws i : Int)) else (v : Int)) = ((max v (u + wt ws i) : Nat) : Int) := by
    split <;> omega
  have pp := papp_r (d := .tuple [.int (nth sp i).2, .int ((max v (u + wt ws i) : Nat) : Int)]) g (by rw [List.length_map]; omega)
  rw [s0] at pp
  have ea : bs.map encB ++ [PyData.tuple [.int (nth sp i).2, .int ((max v (u + wt ws i) : Nat) : Int)]] = (bs ++ [((nth sp i).2, max v (u + wt ws i))]).map encB := by rw [List.map_append]; rfl
  rw [ea] at pp
  have eS : encS (nth sp i) = .tuple [.int (nth sp i).1, .int (nth sp i).2] := rfl
  have ig : ∀ (d : D) (env : Sl) (mm : M), gTp 2 (gsCons (gNm 5) (gsCons (gNm 6) gsNil)) (.val (.tuple [.int (nth sp i).1, .int (nth sp i).2])) env mm = some ((env.set 5 (some (.val (.int (nth sp i).1)))).set 6 (some (.val (.int (nth sp i).2))), mm) := fun d env mm => rfl
  refine ⟨some (.val (.int (nth sp i).1)), some (.val (.int (nth sp i).2)), some (.val (.int ((u : Nat) : Int))), some (.val (.int ((v : Nat) : Int))), ?_⟩
  simp only [l_most_from5, ev_seq, ev_asg, ev_par, ev_if, ev_ret, ev_retN, ev_expr, ev_bin, ev_un, ev_ap, ev_cons, ev_nil, ev_varS, ev_var0, ev_c, ob_some, ev_gNm, ev_tOf, ev_asB, ev_asI, ev_tNot, ev_tAnd, ev_tOr, ev_eOf, ev_eIf, ev_chain, List.set_cons_succ, List.set_cons_zero, ev_then_nx, ev_then_rt, ev_next, ev_pTup, ev_valsC, ev_vals0, ev_eL, ev_bm, ev_aug, pix_t, pix_l, pixq0, pixq1, atI_0, atI_1, atI_2, pp_ii, ps_ii, pa_ii, plt_ii, ple_ii, pgt_ii, pge_ii, peq_ii, pne_ii, pneg_i, List.length_cons, List.length_nil, Nat.reduceAdd, Nat.reduceSub, Nat.reduceLeDiff, sz, if_true, Bool.false_eq_true, if_false, Bool.not_true, Bool.not_false, leave_v, List.take_length, plen_t, plen_l, ptup_l, ptup_t, pint_i, pis_n, pis_i, pis_t, pisnt_n, pisnt_i, pisnt_t, Int.cast_ofNat_Int, ne_eq, not_true_eq_false, not_false_eq_true, decide_true, decide_false, pix_sp hi, eS, ig .none, ev_comp, it_an, r1, r2, ev_nLst, p1, p2, q1, q2, ix, pmax_ii, pm, asL_r g, pp]
end
end L36

set_option Elab.async false
set_option linter.all false
set_option maxRecDepth 100000
namespace L36
open PySem PySem.Spec PyProof.Rows L2 Ev Qa Sp
section
variable {m : M} {sp : List Sn} {ws : List Nat}
theorem mfrom_loop (H : Sps sp) (hw : ws.length = sp.length) {e2 : Option R} : ∀ (l P : List Nat) (bs : List (Int × Nat)) (e4 e5 e6 e7 e8 : Option R), Bst (fam H) (wt ws) P bs → (∀ i ∈ l, i < sp.length) → (∀ p ∈ P, ∀ i ∈ l, (nth sp p).2 ≤ (nth sp i).2) → l.Pairwise (fun i j => (nth sp i).2 ≤ (nth sp j).2) → bs.length + l.length ≤ 1000 →
    ∃ e4' e5' e6' e7' e8' bs', loopL (gNm 4) l_most_from5 (encI l) [some (.val (.tuple (sp.map encS))), some (.val (encT ws)), e2, some (.ref m.length), e4, e5, e6, e7, e8, none, none, none] (m ++ [.lst (bs.map encB)]) =
    some (.nx [some (.val (.tuple (sp.map encS))), some (.val (encT ws)), e2, some (.ref m.length), e4', e5', e6', e7', e8', none, none, none] (m ++ [.lst (bs'.map encB)])) ∧ Bst (fam H) (wt ws) (P ++ l) bs'
  | [], P, bs, e4, e5, e6, e7, e8, B, _, _, _, _ => ⟨e4, e5, e6, e7, e8, bs, rfl, by rw [List.append_nil]; exact B⟩
  | i :: l, P, bs, e4, e5, e6, e7, e8, B, h1, h2, h3, h4 => by
    rw [List.length_cons] at h4
    rw [List.pairwise_cons] at h3
    obtain ⟨f5, f6, f7, f8, hs⟩ := mfrom_step (m := m) H hw (h1 i (by simp)) (bs := bs) (by omega) (e2 := e2) (e5 := e5) (e6 := e6) (e7 := e7) (e8 := e8)
    have B' := B.step (i := i) fun p hp => h2 p hp i (by simp)
    obtain ⟨g4, g5, g6, g7, g8, bs', q1, q2⟩ := mfrom_loop H hw (e2 := e2) l (P ++ [i]) _ (some (.val (.int (i : Int)))) f5 f6 f7 f8 B' (fun j hj => h1 j (List.mem_cons_of_mem _ hj)) (fun p hp j hj => by
      rcases List.mem_append.mp hp with z | z
      · exact h2 p z j (List.mem_cons_of_mem _ hj)
      · rw [List.mem_singleton.mp z]; exact h3.1 j hj) h3.2 (by rw [List.length_append, List.length_singleton]; omega)
    refine ⟨g4, g5, g6, g7, g8, bs', ?_, by rw [List.append_assoc] at q2; exact q2⟩
    have e : encI (i :: l) = .int (i : Int) :: encI l := rfl
    rw [e, step_nx (env1 := [some (.val (.tuple (sp.map encS))), some (.val (encT ws)), e2, some (.ref m.length), some (.val (.int (i : Int))), e5, e6, e7, e8, none, none, none]) rfl hs]
    exact q1
theorem sortK_ev {bs : List Bool} {fb : EF} {fa : AF} {env : Sl} : eSortK bs fb fa env m = (lst1 fa env m).bind fun x => (asLT x.1 x.2).bind fun ds => sortKF (keyF fb bs env) ds x.2 := rfl
theorem most_from_ok (H : Sps sp) (hw : ws.length = sp.length) {l : List Nat} (hl : ∀ i ∈ l, i < sp.length) (hlen : l.length ≤ 1000) : ∃ v, IsOpt (fam H) (wt ws) l v ∧ m_most_from [.val (.tuple (sp.map encS)), .val (encT ws), .val (.list (encI l))] m = some (.val (.int ((v : Nat) : Int)), m) := by
  let ord := l.mergeSort fun a b => decide ((nth sp a).2 ≤ (nth sp b).2)
  have op : ord.Perm l := List.mergeSort_perm _ _
  have os : ord.Pairwise fun i j => (nth sp i).2 ≤ (nth sp j).2 := by
    have := List.pairwise_mergeSort (le := fun a b : Nat => decide ((nth sp a).2 ≤ (nth sp b).2)) (fun a b c h1 h2 => by simp at *; omega) (fun a b => by simp; omega) l
    exact this.imp fun h => of_decide_eq_true h
  have hk : ∀ M e3 e4 e5 e6 e7 e8 e9 e10 e11 i, i < sp.length → keyF k_most_from1 [] [some (.val (.tuple (sp.map encS))), some (.val (encT ws)), some (.val (.list (encI l))), e3, e4, e5, e6, e7, e8, e9, e10, e11] (.int (i : Int)) M = some (.int (nth sp i).2, M) := fun M e3 e4 e5 e6 e7 e8 e9 e10 e11 i hi => by
    simp only [keyF, mskL, k_most_from1, ev_asg, ev_par, ev_if, ev_ret, ev_retN, ev_expr, ev_bin, ev_un, ev_ap, ev_cons, ev_nil, ev_varS, ev_var0, ev_c, ob_some, ev_gNm, ev_tOf, ev_asB, ev_asI, ev_tNot, ev_tAnd, ev_tOr, ev_eOf, ev_eIf, ev_chain, List.set_cons_succ, List.set_cons_zero, ev_then_nx, ev_then_rt, ev_next, ev_pTup, ev_valsC, ev_vals0, ev_eL, ev_bm, ev_aug, pix_t, pix_l, pixq0, pixq1, atI_0, atI_1, atI_2, pp_ii, ps_ii, pa_ii, plt_ii, ple_ii, pgt_ii, pge_ii, peq_ii, pne_ii, pneg_i, List.length_cons, List.length_nil, Nat.reduceAdd, Nat.reduceSub, Nat.reduceLeDiff, sz, if_true, Bool.false_eq_true, if_false, Bool.not_true, Bool.not_false, leave_v, List.take_length, plen_t, plen_l, ptup_l, ptup_t, pint_i, pis_n, pis_i, pis_t, pisnt_n, pisnt_i, pisnt_t, Int.cast_ofNat_Int, ne_eq, not_true_eq_false, not_false_eq_true, decide_true, decide_false, pix_sp hi, pix_s1]
  have ss : ∀ M e3 e4 e5 e6 e7 e8 e9 e10 e11, sortKF (keyF k_most_from1 [] [some (.val (.tuple (sp.map encS))), some (.val (encT ws)), some (.val (.list (encI l))), e3, e4, e5, e6, e7, e8, e9, e10, e11]) (encI l) M = some (.val (.list (encI ord)), M) := fun M e3 e4 e5 e6 e7 e8 e9 e10 e11 => by
    have := sortKF_map (fk := keyF k_most_from1 [] [some (.val (.tuple (sp.map encS))), some (.val (encT ws)), some (.val (.list (encI l))), e3, e4, e5, e6, e7, e8, e9, e10, e11]) (m := M) (fun a : Nat => PyData.int a) (fun a : Nat => PyData.int (nth sp a).2) l (fun a ha => hk _ _ _ _ _ _ _ _ _ _ _ (hl a ha)) (sortable_of fun d hd => by
      obtain ⟨a, _, rfl⟩ := List.mem_map.mp hd
      exact ⟨_, rfl⟩) (fun a _ => Nat.zero_le _) (by omega)
    have e : (fun a b => PySem.W.dataLe false (fun a : Nat => PyData.int (nth sp a).2) a b) = fun a b : Nat => decide ((nth sp a).2 ≤ (nth sp b).2) := PySem.W.dataLe_int (β := Nat) fun a => (nth sp a).2
    rw [e] at this
    exact this
  obtain ⟨g4, g5, g6, g7, g8, bs, q1, q2⟩ := mfrom_loop (m := m) H hw (e2 := some (.val (.list (encI l)))) ord [] [] none none none none none .nil (fun i hi => hl i (op.mem_iff.mp hi)) (fun p hp => (by cases hp)) os (by rw [op.length_eq]; show 0 + l.length ≤ 1000; omega)
  rw [List.nil_append] at q2
  have g : (m ++ [Ob.lst (bs.map encB)])[m.length]? = some (.lst (bs.map encB)) := g0
  have pl : pLen [.ref m.length] (m ++ [Ob.lst (bs.map encB)]) = some (.val (.int ((bs.length : Nat) : Int)), m ++ [Ob.lst (bs.map encB)]) := by rw [plen_r g, List.length_map]
  have e0 : (([] : List (Int × Nat)).map encB) = [] := rfl
  rw [e0] at q1
  by_cases c : ord = []
  · have cl : l = [] := by
      have := op.length_eq
      rw [c] at this
      exact List.length_eq_zero_iff.mp this.symm
    rw [c] at q2
    have eb : bs = [] := by
      have := q2.mem
      simpa using this
    subst eb
    refine ⟨0, by rw [cl]; exact opt_nil, ?_⟩
    rw [e0] at q1 pl
    simp only [m_most_from, bodyF, List.length_cons, List.length_nil, Nat.reduceAdd, Nat.reduceSub, List.map_cons, List.map_nil, List.replicate, List.cons_append, List.nil_append, List.append_nil, b_most_from, ev_seq, ev_asg, ev_par, ev_if, ev_ret, ev_retN, ev_expr, ev_bin, ev_un, ev_ap, ev_cons, ev_nil, ev_varS, ev_var0, ev_c, ob_some, ev_gNm, ev_tOf, ev_asB, ev_asI, ev_tNot, ev_tAnd, ev_tOr, ev_eOf, ev_eIf, ev_chain, List.set_cons_succ, List.set_cons_zero, ev_then_nx, ev_then_rt, ev_next, ev_pTup, ev_valsC, ev_vals0, ev_eL, ev_bm, ev_aug, pix_t, pix_l, pixq0, pixq1, atI_0, atI_1, atI_2, pp_ii, ps_ii, pa_ii, plt_ii, ple_ii, pgt_ii, pge_ii, peq_ii, pne_ii, pneg_i, List.length_cons, List.length_nil, Nat.reduceAdd, Nat.reduceSub, Nat.reduceLeDiff, sz, if_true, Bool.false_eq_true, if_false, Bool.not_true, Bool.not_false, leave_v, List.take_length, plen_t, plen_l, ptup_l, ptup_t, pint_i, pis_n, pis_i, pis_t, pisnt_n, pisnt_i, pisnt_t, Int.cast_ofNat_Int, ne_eq, not_true_eq_false, not_false_eq_true, decide_true, decide_false, ev_eNew, ev_nLst, ev_for, it_an, sortK_ev, lst1, asLT, asL]
    rw [ss]
    simp only [ev_asg, ev_par, ev_if, ev_ret, ev_retN, ev_expr, ev_bin, ev_un, ev_ap, ev_cons, ev_nil, ev_varS, ev_var0, ev_c, ob_some, ev_gNm, ev_tOf, ev_asB, ev_asI, ev_tNot, ev_tAnd, ev_tOr, ev_eOf, ev_eIf, ev_chain, List.set_cons_succ, List.set_cons_zero, ev_then_nx, ev_then_rt, ev_next, ev_pTup, ev_valsC, ev_vals0, ev_eL, ev_bm, ev_aug, pix_t, pix_l, pixq0, pixq1, atI_0, atI_1, atI_2, pp_ii, ps_ii, pa_ii, plt_ii, ple_ii, pgt_ii, pge_ii, peq_ii, pne_ii, pneg_i, List.length_cons, List.length_nil, Nat.reduceAdd, Nat.reduceSub, Nat.reduceLeDiff, sz, if_true, Bool.false_eq_true, if_false, Bool.not_true, Bool.not_false, leave_v, List.take_length, plen_t, plen_l, ptup_l, ptup_t, pint_i, pis_n, pis_i, pis_t, pisnt_n, pisnt_i, pisnt_t, Int.cast_ofNat_Int, ne_eq, not_true_eq_false, not_false_eq_true, decide_true, decide_false, an1_l, run_iL, q1, pl, Int.natCast_zero, Int.lt_irrefl, tk]
  · obtain ⟨bs', e, v, rfl, ho⟩ := q2.last c
    refine ⟨v, ho.congr fun i => op.mem_iff, ?_⟩
    have em : (bs' ++ [(e, v)]).map encB = bs'.map encB ++ [encB (e, v)] := by rw [List.map_append]; rfl
    have ix : pIdx (.ref m.length) (.val (.int (-1))) (m ++ [Ob.lst ((bs' ++ [(e, v)]).map encB)]) = some (.val (.tuple [.int e, .int ((v : Nat) : Int)]), m ++ [Ob.lst ((bs' ++ [(e, v)]).map encB)]) := by
      rw [pix_r g, em, at_last]
      rfl
    have pos : (0 : Int) < (((bs' ++ [(e, v)]).length : Nat) : Int) := by rw [List.length_append, List.length_singleton]; omega
    simp only [m_most_from, bodyF, List.length_cons, List.length_nil, Nat.reduceAdd, Nat.reduceSub, List.map_cons, List.map_nil, List.replicate, List.cons_append, List.nil_append, List.append_nil, b_most_from, ev_seq, ev_asg, ev_par, ev_if, ev_ret, ev_retN, ev_expr, ev_bin, ev_un, ev_ap, ev_cons, ev_nil, ev_varS, ev_var0, ev_c, ob_some, ev_gNm, ev_tOf, ev_asB, ev_asI, ev_tNot, ev_tAnd, ev_tOr, ev_eOf, ev_eIf, ev_chain, List.set_cons_succ, List.set_cons_zero, ev_then_nx, ev_then_rt, ev_next, ev_pTup, ev_valsC, ev_vals0, ev_eL, ev_bm, ev_aug, pix_t, pix_l, pixq0, pixq1, atI_0, atI_1, atI_2, pp_ii, ps_ii, pa_ii, plt_ii, ple_ii, pgt_ii, pge_ii, peq_ii, pne_ii, pneg_i, List.length_cons, List.length_nil, Nat.reduceAdd, Nat.reduceSub, Nat.reduceLeDiff, sz, if_true, Bool.false_eq_true, if_false, Bool.not_true, Bool.not_false, leave_v, List.take_length, plen_t, plen_l, ptup_l, ptup_t, pint_i, pis_n, pis_i, pis_t, pisnt_n, pisnt_i, pisnt_t, Int.cast_ofNat_Int, ne_eq, not_true_eq_false, not_false_eq_true, decide_true, decide_false, ev_eNew, ev_nLst, ev_for, it_an, sortK_ev, lst1, asLT, asL]
    rw [ss]
    simp only [ev_asg, ev_par, ev_if, ev_ret, ev_retN, ev_expr, ev_bin, ev_un, ev_ap, ev_cons, ev_nil, ev_varS, ev_var0, ev_c, ob_some, ev_gNm, ev_tOf, ev_asB, ev_asI, ev_tNot, ev_tAnd, ev_tOr, ev_eOf, ev_eIf, ev_chain, List.set_cons_succ, List.set_cons_zero, ev_then_nx, ev_then_rt, ev_next, ev_pTup, ev_valsC, ev_vals0, ev_eL, ev_bm, ev_aug, pix_t, pix_l, pixq0, pixq1, atI_0, atI_1, atI_2, pp_ii, ps_ii, pa_ii, plt_ii, ple_ii, pgt_ii, pge_ii, peq_ii, pne_ii, pneg_i, List.length_cons, List.length_nil, Nat.reduceAdd, Nat.reduceSub, Nat.reduceLeDiff, sz, if_true, Bool.false_eq_true, if_false, Bool.not_true, Bool.not_false, leave_v, List.take_length, plen_t, plen_l, ptup_l, ptup_t, pint_i, pis_n, pis_i, pis_t, pisnt_n, pisnt_i, pisnt_t, Int.cast_ofNat_Int, ne_eq, not_true_eq_false, not_false_eq_true, decide_true, decide_false, an1_l, run_iL, q1]
    rw [pl]
    simp only [ev_asg, ev_par, ev_if, ev_ret, ev_retN, ev_expr, ev_bin, ev_un, ev_ap, ev_cons, ev_nil, ev_varS, ev_var0, ev_c, ob_some, ev_gNm, ev_tOf, ev_asB, ev_asI, ev_tNot, ev_tAnd, ev_tOr, ev_eOf, ev_eIf, ev_chain, List.set_cons_succ, List.set_cons_zero, ev_then_nx, ev_then_rt, ev_next, ev_pTup, ev_valsC, ev_vals0, ev_eL, ev_bm, ev_aug, pix_t, pix_l, pixq0, pixq1, atI_0, atI_1, atI_2, pp_ii, ps_ii, pa_ii, plt_ii, ple_ii, pgt_ii, pge_ii, peq_ii, pne_ii, pneg_i, List.length_cons, List.length_nil, Nat.reduceAdd, Nat.reduceSub, Nat.reduceLeDiff, sz, if_true, Bool.false_eq_true, if_false, Bool.not_true, Bool.not_false, leave_v, List.take_length, plen_t, plen_l, ptup_l, ptup_t, pint_i, pis_n, pis_i, pis_t, pisnt_n, pisnt_i, pisnt_t, Int.cast_ofNat_Int, ne_eq, not_true_eq_false, not_false_eq_true, decide_true, decide_false, pos, ix, tk]
end
end L36

set_option Elab.async false
set_option linter.all false
set_option maxRecDepth 100000
namespace L36
open PySem PySem.Spec PyProof.Rows L2 Ev Qa Sp
theorem step_bk {sf : SF} {gf : GF} {d : D} {ds : List D} {env env1 env2 : Sl} {m m1 m2 : M} (hg : gf (.val d) env m = some (env1, m1)) (hb : sf env1 m1 = some (.bk env2 m2)) : loopL gf sf (d :: ds) env m = some (.nx env2 m2) := by
  show ((gf (.val d) env m).bind fun x => (sf x.1 x.2).bind fun fl => aftF fl (loopL gf sf ds)) = _
  rw [hg]
  simp only [Option.bind_some]
  rw [hb]
  rfl
section
variable {m : M} {sp : List Sn} {ws : List Nat}
theorem range_Z (a k : Nat) : ((List.range' a k).map fun j : Nat => PyData.int j) = encI (List.range' a k) := rfl
theorem peqN {a b : Nat} : pEq (.val (.int (a : Int))) (.val (.int (b : Int))) m = some (.val (.bool (decide (a = b))), m) := by
  rw [peq_ii]
  by_cases c : a = b
  · subst c; simp
  · rw [decide_eq_false c, decide_eq_false (by omega)]
/-- one number looked at -/
theorem worth_step (H : Sps sp) (hw : ws.length = sp.length) {x top : Nat} {f : List Nat} (hx : lo f ≤ x ∧ x < sp.length) (hf : ∀ i ∈ f, i < sp.length) (hl : f.length ≤ 100) {e6 e7 : Option R} : ∃ e6' e7',
    (Cand (fam H) (wt ws) sp.length top f x → l_most_worth_apart6 [some (.val (.tuple (sp.map encS))), some (.val (encT ws)), some (.val (.int (top : Nat))), some (.val (.list (encI f))), some (.val (.int ((wsum (wt ws) f : Nat) : Int))), some (.val (.int (x : Int))), e6, e7, none, none, none] m =
      some (.bk [some (.val (.tuple (sp.map encS))), some (.val (encT ws)), some (.val (.int (top : Nat))), some (.val (.list (encI (f ++ [x])))), some (.val (.int ((wsum (wt ws) (f ++ [x]) : Nat) : Int))), some (.val (.int (x : Int))), e6', e7', none, none, none] m)) ∧
    (¬ Cand (fam H) (wt ws) sp.length top f x → l_most_worth_apart6 [some (.val (.tuple (sp.map encS))), some (.val (encT ws)), some (.val (.int (top : Nat))), some (.val (.list (encI f))), some (.val (.int ((wsum (wt ws) f : Nat) : Int))), some (.val (.int (x : Int))), e6, e7, none, none, none] m =
      some (.nx [some (.val (.tuple (sp.map encS))), some (.val (encT ws)), some (.val (.int (top : Nat))), some (.val (.list (encI f))), some (.val (.int ((wsum (wt ws) f : Nat) : Int))), some (.val (.int (x : Int))), e6', e7', none, none, none] m)) := by
  have l7 := H.l7
  have pp := pp_ll (m := m) (ds := encI f) (es := [PyData.int (x : Int)]) (by rw [encI_len]; simp; omega)
  have ea : encI f ++ [PyData.int (x : Int)] = encI (f ++ [x]) := by rw [encI_app]; rfl
  rw [ea] at pp
  have lf : (encI f).length ≤ 16777216 := by rw [encI_len]; omega
  have hc : clpL (.nm 9) tTrue e_most_worth_apart2 [some (.val (.tuple (sp.map encS))), some (.val (encT ws)), some (.val (.int (top : Nat))), some (.val (.list (encI f))), some (.val (.int ((wsum (wt ws) f : Nat) : Int))), some (.val (.int (x : Int))), some (.val (.list (encI (f ++ [x])))), e7, none, none, none] (encI f) m = some (f.map fun j => .bool (decide ((fam H).apart x j)), m) :=
    clpL_all (fun a : Nat => PyData.int a) (fun j => .bool (decide ((fam H).apart x j))) f fun j hj => ⟨_, rfl, by
      simp only [e_most_worth_apart2, List.set_cons_succ, List.set_cons_zero, ev_asg, ev_par, ev_if, ev_ret, ev_retN, ev_expr, ev_bin, ev_un, ev_ap, ev_cons, ev_nil, ev_varS, ev_var0, ev_c, ob_some, ev_gNm, ev_tOf, ev_asB, ev_asI, ev_tNot, ev_tAnd, ev_tOr, ev_eOf, ev_eIf, ev_chain, List.set_cons_succ, List.set_cons_zero, ev_then_nx, ev_then_rt, ev_next, ev_pTup, ev_valsC, ev_vals0, ev_eL, ev_bm, ev_aug, pix_t, pix_l, pixq0, pixq1, atI_0, atI_1, atI_2, pp_ii, ps_ii, pa_ii, plt_ii, ple_ii, pgt_ii, pge_ii, peq_ii, pne_ii, pneg_i, List.length_cons, List.length_nil, Nat.reduceAdd, Nat.reduceSub, Nat.reduceLeDiff, sz, if_true, Bool.false_eq_true, if_false, Bool.not_true, Bool.not_false, leave_v, List.take_length, plen_t, plen_l, ptup_l, ptup_t, pint_i, pis_n, pis_i, pis_t, pisnt_n, pisnt_i, pisnt_t, Int.cast_ofNat_Int, ne_eq, not_true_eq_false, not_false_eq_true, decide_true, decide_false, pix_sp hx.2, pix_sp (hf j hj), apart_ok]
      rfl⟩
  have pa := pall_l (m := m) f fun j => decide ((fam H).apart x j)
  by_cases c : (f.all fun j => decide ((fam H).apart x j)) = true
  · have mr : x ∈ rest (fam H) sp.length f (lo f) := mem_rest.mpr ⟨hx.1, hx.2, fun o ho => of_decide_eq_true (List.all_eq_true.mp c o ho)⟩
    have hf2 : ∀ i ∈ f ++ [x], i < sp.length := fun i hi => by
      rcases List.mem_append.mp hi with z | z
      · exact hf i z
      · rw [List.mem_singleton.mp z]; exact hx.2
    have lf2 : (encI (f ++ [x])).length ≤ 16777216 := by rw [encI_len]; simp; omega
    have hr : clpL (.nm 9) t_most_worth_apart5 e_most_worth_apart4 [some (.val (.tuple (sp.map encS))), some (.val (encT ws)), some (.val (.int (top : Nat))), some (.val (.list (encI f))), some (.val (.int ((wsum (wt ws) f : Nat) : Int))), some (.val (.int (x : Int))), some (.val (.list (encI (f ++ [x])))), e7, none, none, none] ((List.range' (x + 1) (sp.length - (x + 1))).map fun j : Nat => PyData.int j) m =
        some ((rest (fam H) sp.length (f ++ [x]) (x + 1)).map fun j : Nat => PyData.int j, m) :=
      clpL_map (fun j : Nat => PyData.int j) (fun j => (f ++ [x]).all fun o => decide ((fam H).apart j o)) (fun j : Nat => PyData.int j) (List.range' (x + 1) (sp.length - (x + 1))) fun j hj => ⟨_, rfl, by
        have hj' : j < sp.length := by
          obtain ⟨i, h1, h2⟩ := List.mem_range'.mp hj
          omega
        have hin : clpL (.nm 10) tTrue e_most_worth_apart3 [some (.val (.tuple (sp.map encS))), some (.val (encT ws)), some (.val (.int (top : Nat))), some (.val (.list (encI f))), some (.val (.int ((wsum (wt ws) f : Nat) : Int))), some (.val (.int (x : Int))), some (.val (.list (encI (f ++ [x])))), e7, none, some (.val (.int (j : Int))), none] (encI (f ++ [x])) m = some ((f ++ [x]).map fun o => .bool (decide ((fam H).apart j o)), m) :=
          clpL_all (fun a : Nat => PyData.int a) (fun o => .bool (decide ((fam H).apart j o))) (f ++ [x]) fun o ho => ⟨_, rfl, by
            simp only [e_most_worth_apart3, List.set_cons_succ, List.set_cons_zero, ev_asg, ev_par, ev_if, ev_ret, ev_retN, ev_expr, ev_bin, ev_un, ev_ap, ev_cons, ev_nil, ev_varS, ev_var0, ev_c, ob_some, ev_gNm, ev_tOf, ev_asB, ev_asI, ev_tNot, ev_tAnd, ev_tOr, ev_eOf, ev_eIf, ev_chain, List.set_cons_succ, List.set_cons_zero, ev_then_nx, ev_then_rt, ev_next, ev_pTup, ev_valsC, ev_vals0, ev_eL, ev_bm, ev_aug, pix_t, pix_l, pixq0, pixq1, atI_0, atI_1, atI_2, pp_ii, ps_ii, pa_ii, plt_ii, ple_ii, pgt_ii, pge_ii, peq_ii, pne_ii, pneg_i, List.length_cons, List.length_nil, Nat.reduceAdd, Nat.reduceSub, Nat.reduceLeDiff, sz, if_true, Bool.false_eq_true, if_false, Bool.not_true, Bool.not_false, leave_v, List.take_length, plen_t, plen_l, ptup_l, ptup_t, pint_i, pis_n, pis_i, pis_t, pisnt_n, pisnt_i, pisnt_t, Int.cast_ofNat_Int, ne_eq, not_true_eq_false, not_false_eq_true, decide_true, decide_false, pix_sp hj', pix_sp (hf2 o ho), apart_ok]
            rfl⟩
        have pa2 := pall_l (m := m) (f ++ [x]) fun o => decide ((fam H).apart j o)
        show t_most_worth_apart5 [some (.val (.tuple (sp.map encS))), some (.val (encT ws)), some (.val (.int (top : Nat))), some (.val (.list (encI f))), some (.val (.int ((wsum (wt ws) f : Nat) : Int))), some (.val (.int (x : Int))), some (.val (.list (encI (f ++ [x])))), e7, none, some (.val (.int (j : Int))), none] m = _
        simp only [t_most_worth_apart5, ev_asg, ev_par, ev_if, ev_ret, ev_retN, ev_expr, ev_bin, ev_un, ev_ap, ev_cons, ev_nil, ev_varS, ev_var0, ev_c, ob_some, ev_gNm, ev_tOf, ev_asB, ev_asI, ev_tNot, ev_tAnd, ev_tOr, ev_eOf, ev_eIf, ev_chain, List.set_cons_succ, List.set_cons_zero, ev_then_nx, ev_then_rt, ev_next, ev_pTup, ev_valsC, ev_vals0, ev_eL, ev_bm, ev_aug, pix_t, pix_l, pixq0, pixq1, atI_0, atI_1, atI_2, pp_ii, ps_ii, pa_ii, plt_ii, ple_ii, pgt_ii, pge_ii, peq_ii, pne_ii, pneg_i, List.length_cons, List.length_nil, Nat.reduceAdd, Nat.reduceSub, Nat.reduceLeDiff, sz, if_true, Bool.false_eq_true, if_false, Bool.not_true, Bool.not_false, leave_v, List.take_length, plen_t, plen_l, ptup_l, ptup_t, pint_i, pis_n, pis_i, pis_t, pisnt_n, pisnt_i, pisnt_t, Int.cast_ofNat_Int, ne_eq, not_true_eq_false, not_false_eq_true, decide_true, decide_false, ev_comp, it_an, an1_l, runC_iL lf2, wipeE, List.foldl, hin, pa2], fun _ => rfl⟩
    have hlr : ((List.range' (x + 1) (sp.length - (x + 1))).map fun j : Nat => PyData.int j).length ≤ 16777216 := by rw [List.length_map, List.length_range']; omega
    have rg := rg2_nat (m := m) (a := x + 1) (b := sp.length) (i := (x : Int) + 1) (j := ((sp.length : Nat) : Int)) (by omega) rfl (by omega) (by omega)
    have er : ((rest (fam H) sp.length (f ++ [x]) (x + 1)).map fun j : Nat => PyData.int j) = encI (rest (fam H) sp.length (f ++ [x]) (x + 1)) := rfl
    rw [er] at hr
    obtain ⟨v, hv, mf⟩ := most_from_ok (m := m) H hw (l := rest (fam H) sp.length (f ++ [x]) (x + 1)) (fun i hi => (mem_rest.mp hi).2.1) (by
      unfold Sp.rest
      have := List.length_filter_le (fun j => (f ++ [x]).all fun o => decide ((fam H).apart j o)) (List.range' (x + 1) (sp.length - (x + 1)))
      rw [List.length_range'] at this
      omega)
    have ix : pIdx (.val (encT ws)) (.val (.int (x : Int))) m = some (.val (.int ((wt ws x : Nat) : Int)), m) := pix_T (getD_some (by rw [hw]; exact hx.2))
    have e1 : ((wsum (wt ws) f : Nat) : Int) + ((wt ws x : Nat) : Int) = ((wsum (wt ws) f + wt ws x : Nat) : Int) := by omega
    have e2 : ((wsum (wt ws) f + wt ws x : Nat) : Int) + ((v : Nat) : Int) = ((wsum (wt ws) f + wt ws x + v : Nat) : Int) := by omega
    have ew : wsum (wt ws) (f ++ [x]) = wsum (wt ws) f + wt ws x := by rw [wsum_app]; unfold wsum; simp
    have cd : Cand (fam H) (wt ws) sp.length top f x ↔ wsum (wt ws) f + wt ws x + v = top := ⟨fun ⟨_, u, hu, e⟩ => by rw [hv.uniq hu]; exact e, fun e => ⟨mr, v, hv, e⟩⟩
    refine ⟨some (.val (.list (encI (f ++ [x])))), some (.val (.list (encI (rest (fam H) sp.length (f ++ [x]) (x + 1))))), fun hC => ?_, fun hC => ?_⟩
    · have q := cd.mp hC
      simp only [l_most_worth_apart6, ev_seq, ev_asg, ev_par, ev_if, ev_ret, ev_retN, ev_expr, ev_bin, ev_un, ev_ap, ev_cons, ev_nil, ev_varS, ev_var0, ev_c, ob_some, ev_gNm, ev_tOf, ev_asB, ev_asI, ev_tNot, ev_tAnd, ev_tOr, ev_eOf, ev_eIf, ev_chain, List.set_cons_succ, List.set_cons_zero, ev_then_nx, ev_then_rt, ev_next, ev_pTup, ev_valsC, ev_vals0, ev_eL, ev_bm, ev_aug, pix_t, pix_l, pixq0, pixq1, atI_0, atI_1, atI_2, pp_ii, ps_ii, pa_ii, plt_ii, ple_ii, pgt_ii, pge_ii, peq_ii, pne_ii, pneg_i, List.length_cons, List.length_nil, Nat.reduceAdd, Nat.reduceSub, Nat.reduceLeDiff, sz, if_true, Bool.false_eq_true, if_false, Bool.not_true, Bool.not_false, leave_v, List.take_length, plen_t, plen_l, ptup_l, ptup_t, pint_i, pis_n, pis_i, pis_t, pisnt_n, pisnt_i, pisnt_t, Int.cast_ofNat_Int, ne_eq, not_true_eq_false, not_false_eq_true, decide_true, decide_false, ev_nLst, pp, ev_comp, it_an, an1_l, runC_iL lf, wipeE, List.foldl, hc, pa, c, it_rg2, List.length_map, rg, runC_iL hlr, hr, ix, e1, mf, e2, peqN, q, ew, ev_break]
    · have q := mt cd.mpr hC
      have q2 : ¬ (((wsum (wt ws) f + wt ws x + v : Nat) : Int) = ((top : Nat) : Int)) := by omega
      simp only [l_most_worth_apart6, ev_seq, ev_asg, ev_par, ev_if, ev_ret, ev_retN, ev_expr, ev_bin, ev_un, ev_ap, ev_cons, ev_nil, ev_varS, ev_var0, ev_c, ob_some, ev_gNm, ev_tOf, ev_asB, ev_asI, ev_tNot, ev_tAnd, ev_tOr, ev_eOf, ev_eIf, ev_chain, List.set_cons_succ, List.set_cons_zero, ev_then_nx, ev_then_rt, ev_next, ev_pTup, ev_valsC, ev_vals0, ev_eL, ev_bm, ev_aug, pix_t, pix_l, pixq0, pixq1, atI_0, atI_1, atI_2, pp_ii, ps_ii, pa_ii, plt_ii, ple_ii, pgt_ii, pge_ii, peq_ii, pne_ii, pneg_i, List.length_cons, List.length_nil, Nat.reduceAdd, Nat.reduceSub, Nat.reduceLeDiff, sz, if_true, Bool.false_eq_true, if_false, Bool.not_true, Bool.not_false, leave_v, List.take_length, plen_t, plen_l, ptup_l, ptup_t, pint_i, pis_n, pis_i, pis_t, pisnt_n, pisnt_i, pisnt_t, Int.cast_ofNat_Int, ne_eq, not_true_eq_false, not_false_eq_true, decide_true, decide_false, ev_nLst, pp, ev_comp, it_an, an1_l, runC_iL lf, wipeE, List.foldl, hc, pa, c, it_rg2, List.length_map, rg, runC_iL hlr, hr, ix, e1, mf, e2, q2]
  · have c' : (f.all fun j => decide ((fam H).apart x j)) = false := by simpa using c
    have nc : ¬ Cand (fam H) (wt ws) sp.length top f x := fun h => c (List.all_eq_true.mpr fun o ho => decide_eq_true ((mem_rest.mp h.1).2.2 o ho))
    refine ⟨some (.val (.list (encI (f ++ [x])))), e7, fun h => absurd h nc, fun _ => ?_⟩
    simp only [l_most_worth_apart6, ev_seq, ev_asg, ev_par, ev_if, ev_ret, ev_retN, ev_expr, ev_bin, ev_un, ev_ap, ev_cons, ev_nil, ev_varS, ev_var0, ev_c, ob_some, ev_gNm, ev_tOf, ev_asB, ev_asI, ev_tNot, ev_tAnd, ev_tOr, ev_eOf, ev_eIf, ev_chain, List.set_cons_succ, List.set_cons_zero, ev_then_nx, ev_then_rt, ev_next, ev_pTup, ev_valsC, ev_vals0, ev_eL, ev_bm, ev_aug, pix_t, pix_l, pixq0, pixq1, atI_0, atI_1, atI_2, pp_ii, ps_ii, pa_ii, plt_ii, ple_ii, pgt_ii, pge_ii, peq_ii, pne_ii, pneg_i, List.length_cons, List.length_nil, Nat.reduceAdd, Nat.reduceSub, Nat.reduceLeDiff, sz, if_true, Bool.false_eq_true, if_false, Bool.not_true, Bool.not_false, leave_v, List.take_length, plen_t, plen_l, ptup_l, ptup_t, pint_i, pis_n, pis_i, pis_t, pisnt_n, pisnt_i, pisnt_t, Int.cast_ofNat_Int, ne_eq, not_true_eq_false, not_false_eq_true, decide_true, decide_false, ev_nLst, pp, ev_comp, it_an, an1_l, runC_iL lf, wipeE, List.foldl, hc, pa, c']
/-- the first candidate is taken -/
theorem worth_for (H : Sps sp) (hw : ws.length = sp.length) {top : Nat} {f : List Nat} (hf : ∀ i ∈ f, i < sp.length) (hl : f.length ≤ 100) : ∀ (k a : Nat) (e5 e6 e7 : Option R), lo f ≤ a → a + k = sp.length → (∃ x, Cand (fam H) (wt ws) sp.length top f x) → (∀ y, Cand (fam H) (wt ws) sp.length top f y → a ≤ y) →
    ∃ x e5' e6' e7', Cand (fam H) (wt ws) sp.length top f x ∧ (∀ y, Cand (fam H) (wt ws) sp.length top f y → x ≤ y) ∧ loopL (gNm 5) l_most_worth_apart6 ((List.range' a k).map fun j : Nat => PyData.int j) [some (.val (.tuple (sp.map encS))), some (.val (encT ws)), some (.val (.int (top : Nat))), some (.val (.list (encI f))), some (.val (.int ((wsum (wt ws) f : Nat) : Int))), e5, e6, e7, none, none, none] m =
      some (.nx [some (.val (.tuple (sp.map encS))), some (.val (encT ws)), some (.val (.int (top : Nat))), some (.val (.list (encI (f ++ [x])))), some (.val (.int ((wsum (wt ws) (f ++ [x]) : Nat) : Int))), e5', e6', e7', none, none, none] m)
  | 0, a, e5, e6, e7, h1, h2, ⟨x, hx⟩, h4 => by
    have := h4 x hx
    have := (mem_rest.mp hx.1).2.1
    omega
  | k + 1, a, e5, e6, e7, h1, h2, h3, h4 => by
    obtain ⟨e6', e7', s1, s2⟩ := worth_step (m := m) H hw (x := a) (top := top) (f := f) ⟨h1, by omega⟩ hf hl (e6 := e6) (e7 := e7)
    rw [List.range'_succ, List.map_cons]
    by_cases c : Cand (fam H) (wt ws) sp.length top f a
    · exact ⟨a, _, _, _, c, h4, step_bk (env1 := [some (.val (.tuple (sp.map encS))), some (.val (encT ws)), some (.val (.int (top : Nat))), some (.val (.list (encI f))), some (.val (.int ((wsum (wt ws) f : Nat) : Int))), some (.val (.int (a : Int))), e6, e7, none, none, none]) rfl (s1 c)⟩
    · obtain ⟨x, g5, g6, g7, q1, q2, q3⟩ := worth_for H hw hf hl k (a + 1) (some (.val (.int (a : Int)))) e6' e7' (by omega) (by omega) h3 (fun y hy => by
        have := h4 y hy
        have : y ≠ a := fun z => c (z ▸ hy)
        omega)
      exact ⟨x, g5, g6, g7, q1, q2, by rw [step_nx (env1 := [some (.val (.tuple (sp.map encS))), some (.val (encT ws)), some (.val (.int (top : Nat))), some (.val (.list (encI f))), some (.val (.int ((wsum (wt ws) f : Nat) : Int))), some (.val (.int (a : Int))), e6, e7, none, none, none]) rfl (s2 c)]; exact q3⟩
theorem row_len {S : Fam} {n : Nat} {R : List Nat} (h : Row S n R) : R.length ≤ n := by
  have := List.Nodup.length_le_of_subset (l₁ := R) (l₂ := List.range n) h.ap.nodup fun i hi => List.mem_range.mpr (h.lt i hi)
  rwa [List.length_range] at this
theorem worth_while (H : Sps sp) (hw : ws.length = sp.length) {top : Nat} (ht : ∀ R, Ap (fam H) R → (∀ r ∈ R, r < sp.length) → wsum (wt ws) R ≤ top) : ∀ (k : Nat) (f : List Nat) (n : Nat) (e5 e6 e7 : Option R), Inv (fam H) (wt ws) sp.length top f → f.length + k = sp.length → k < n →
    ∃ f' e5' e6' e7', Inv (fam H) (wt ws) sp.length top f' ∧ wsum (wt ws) f' = top ∧ wloop c_most_worth_apart8 w_most_worth_apart7 n [some (.val (.tuple (sp.map encS))), some (.val (encT ws)), some (.val (.int (top : Nat))), some (.val (.list (encI f))), some (.val (.int ((wsum (wt ws) f : Nat) : Int))), e5, e6, e7, none, none, none] m =
      some (.nx [some (.val (.tuple (sp.map encS))), some (.val (encT ws)), some (.val (.int (top : Nat))), some (.val (.list (encI f'))), some (.val (.int ((wsum (wt ws) f' : Nat) : Int))), e5', e6', e7', none, none, none] m) := by
  intro k
  induction k with
  | zero =>
    intro f n e5 e6 e7 I hk hn
    obtain ⟨n, rfl⟩ : ∃ j, n = j + 1 := ⟨n - 1, by omega⟩
    have hle := ht f I.row.ap I.row.lt
    have heq : wsum (wt ws) f = top := by
      by_cases c : wsum (wt ws) f < top
      · obtain ⟨x, hx⟩ := cand_exists I ht c
        obtain ⟨y, hy, hmin⟩ : ∃ y, Cand (fam H) (wt ws) sp.length top f y ∧ ∀ z, Cand (fam H) (wt ws) sp.length top f z → y ≤ z := by
          obtain ⟨y, _, _, _, h1, h2, _⟩ := worth_for (m := m) H hw I.row.lt (by have := row_len I.row; have := H.l7; omega) (sp.length - lo f) (lo f) none none none (Nat.le_refl _) (by
            have := (mem_rest.mp hx.1)
            omega) ⟨x, hx⟩ fun y hy => (mem_rest.mp hy.1).1
          exact ⟨y, h1, h2⟩
        have := row_len (inv_step I ht c hy hmin).row
        rw [List.length_append, List.length_singleton] at this
        omega
      · omega
    refine ⟨f, e5, e6, e7, I, heq, w_end ?_⟩
    have nl : ¬ (((wsum (wt ws) f : Nat) : Int) < ((top : Nat) : Int)) := by omega
    simp only [c_most_worth_apart8, ev_asg, ev_par, ev_if, ev_ret, ev_retN, ev_expr, ev_bin, ev_un, ev_ap, ev_cons, ev_nil, ev_varS, ev_var0, ev_c, ob_some, ev_gNm, ev_tOf, ev_asB, ev_asI, ev_tNot, ev_tAnd, ev_tOr, ev_eOf, ev_eIf, ev_chain, List.set_cons_succ, List.set_cons_zero, ev_then_nx, ev_then_rt, ev_next, ev_pTup, ev_valsC, ev_vals0, ev_eL, ev_bm, ev_aug, pix_t, pix_l, pixq0, pixq1, atI_0, atI_1, atI_2, pp_ii, ps_ii, pa_ii, plt_ii, ple_ii, pgt_ii, pge_ii, peq_ii, pne_ii, pneg_i, List.length_cons, List.length_nil, Nat.reduceAdd, Nat.reduceSub, Nat.reduceLeDiff, sz, if_true, Bool.false_eq_true, if_false, Bool.not_true, Bool.not_false, leave_v, List.take_length, plen_t, plen_l, ptup_l, ptup_t, pint_i, pis_n, pis_i, pis_t, pisnt_n, pisnt_i, pisnt_t, Int.cast_ofNat_Int, ne_eq, not_true_eq_false, not_false_eq_true, decide_true, decide_false, nl]
  | succ k ih =>
    intro f n e5 e6 e7 I hk hn
    obtain ⟨n, rfl⟩ : ∃ j, n = j + 1 := ⟨n - 1, by omega⟩
    have hle := ht f I.row.ap I.row.lt
    by_cases c : wsum (wt ws) f < top
    · obtain ⟨x, hx⟩ := cand_exists I ht c
      have l7 := H.l7
      have lof : lo f ≤ sp.length := by have := (mem_rest.mp hx.1); omega
      obtain ⟨y, g5, g6, g7, h1, h2, h3⟩ := worth_for (m := m) H hw I.row.lt (by have := row_len I.row; omega) (sp.length - lo f) (lo f) e5 e6 e7 (Nat.le_refl _) (by omega) ⟨x, hx⟩ fun y hy => (mem_rest.mp hy.1).1
      have I2 := inv_step I ht c h1 h2
      obtain ⟨f', d5, d6, d7, q1, q2, q3⟩ := ih (f ++ [y]) n g5 g6 g7 I2 (by rw [List.length_append, List.length_singleton]; omega) (by omega)
      refine ⟨f', d5, d6, d7, q1, q2, ?_⟩
      have lt : (((wsum (wt ws) f : Nat) : Int) < ((top : Nat) : Int)) := by omega
      have hb : w_most_worth_apart7 [some (.val (.tuple (sp.map encS))), some (.val (encT ws)), some (.val (.int (top : Nat))), some (.val (.list (encI f))), some (.val (.int ((wsum (wt ws) f : Nat) : Int))), e5, e6, e7, none, none, none] m =
          some (.nx [some (.val (.tuple (sp.map encS))), some (.val (encT ws)), some (.val (.int (top : Nat))), some (.val (.list (encI (f ++ [y])))), some (.val (.int ((wsum (wt ws) (f ++ [y]) : Nat) : Int))), g5, g6, g7, none, none, none] m) := by
        have rg := rg2_nat (m := m) (a := lo f) (b := sp.length) (i := ((lo f : Nat) : Int)) (j := ((sp.length : Nat) : Int)) rfl rfl (by omega) (by omega)
        cases hf : f with
        | nil =>
          rw [hf] at rg h3
          have e0 : Sp.lo [] = 0 := rfl
          rw [e0] at rg h3
          have e1 : ((0 : Nat) : Int) = 0 := rfl
          rw [e1] at rg
          have en : encI ([] : List Nat) = [] := rfl
          simp only [w_most_worth_apart7, ev_for, it_rg2, ev_asg, ev_par, ev_if, ev_ret, ev_retN, ev_expr, ev_bin, ev_un, ev_ap, ev_cons, ev_nil, ev_varS, ev_var0, ev_c, ob_some, ev_gNm, ev_tOf, ev_asB, ev_asI, ev_tNot, ev_tAnd, ev_tOr, ev_eOf, ev_eIf, ev_chain, List.set_cons_succ, List.set_cons_zero, ev_then_nx, ev_then_rt, ev_next, ev_pTup, ev_valsC, ev_vals0, ev_eL, ev_bm, ev_aug, pix_t, pix_l, pixq0, pixq1, atI_0, atI_1, atI_2, pp_ii, ps_ii, pa_ii, plt_ii, ple_ii, pgt_ii, pge_ii, peq_ii, pne_ii, pneg_i, List.length_cons, List.length_nil, Nat.reduceAdd, Nat.reduceSub, Nat.reduceLeDiff, sz, if_true, Bool.false_eq_true, if_false, Bool.not_true, Bool.not_false, leave_v, List.take_length, plen_t, plen_l, ptup_l, ptup_t, pint_i, pis_n, pis_i, pis_t, pisnt_n, pisnt_i, pisnt_t, Int.cast_ofNat_Int, ne_eq, not_true_eq_false, not_false_eq_true, decide_true, decide_false, en, Int.natCast_zero, Int.lt_irrefl, List.length_map, rg, run_iL]
          exact h3
        | cons a l =>
          have hne : f ≠ [] := by rw [hf]; simp
          have e0 : lo f = Ld.lst f + 1 := by
            unfold Sp.lo Ld.lst
            rw [List.getLast?_eq_getLast hne]
            rfl
          have al : L2.atI (encI f) (-1) = some (.int ((Ld.lst f : Nat) : Int)) := at_lst hne
          have pos : (0 : Int) < (((encI f).length : Nat) : Int) := by rw [encI_len, hf]; simp
          have e1 : ((Ld.lst f : Nat) : Int) + 1 = ((lo f : Nat) : Int) := by rw [e0]; omega
          rw [← hf]
          simp only [w_most_worth_apart7, ev_for, it_rg2, ev_asg, ev_par, ev_if, ev_ret, ev_retN, ev_expr, ev_bin, ev_un, ev_ap, ev_cons, ev_nil, ev_varS, ev_var0, ev_c, ob_some, ev_gNm, ev_tOf, ev_asB, ev_asI, ev_tNot, ev_tAnd, ev_tOr, ev_eOf, ev_eIf, ev_chain, List.set_cons_succ, List.set_cons_zero, ev_then_nx, ev_then_rt, ev_next, ev_pTup, ev_valsC, ev_vals0, ev_eL, ev_bm, ev_aug, pix_t, pix_l, pixq0, pixq1, atI_0, atI_1, atI_2, pp_ii, ps_ii, pa_ii, plt_ii, ple_ii, pgt_ii, pge_ii, peq_ii, pne_ii, pneg_i, List.length_cons, List.length_nil, Nat.reduceAdd, Nat.reduceSub, Nat.reduceLeDiff, sz, if_true, Bool.false_eq_true, if_false, Bool.not_true, Bool.not_false, leave_v, List.take_length, plen_t, plen_l, ptup_l, ptup_t, pint_i, pis_n, pis_i, pis_t, pisnt_n, pisnt_i, pisnt_t, Int.cast_ofNat_Int, ne_eq, not_true_eq_false, not_false_eq_true, decide_true, decide_false, pos, al, e1, List.length_map, rg, run_iL]
          exact h3
      rw [w_nx (m1 := m) (by simp only [c_most_worth_apart8, ev_asg, ev_par, ev_if, ev_ret, ev_retN, ev_expr, ev_bin, ev_un, ev_ap, ev_cons, ev_nil, ev_varS, ev_var0, ev_c, ob_some, ev_gNm, ev_tOf, ev_asB, ev_asI, ev_tNot, ev_tAnd, ev_tOr, ev_eOf, ev_eIf, ev_chain, List.set_cons_succ, List.set_cons_zero, ev_then_nx, ev_then_rt, ev_next, ev_pTup, ev_valsC, ev_vals0, ev_eL, ev_bm, ev_aug, pix_t, pix_l, pixq0, pixq1, atI_0, atI_1, atI_2, pp_ii, ps_ii, pa_ii, plt_ii, ple_ii, pgt_ii, pge_ii, peq_ii, pne_ii, pneg_i, List.length_cons, List.length_nil, Nat.reduceAdd, Nat.reduceSub, Nat.reduceLeDiff, sz, if_true, Bool.false_eq_true, if_false, Bool.not_true, Bool.not_false, leave_v, List.take_length, plen_t, plen_l, ptup_l, ptup_t, pint_i, pis_n, pis_i, pis_t, pisnt_n, pisnt_i, pisnt_t, Int.cast_ofNat_Int, ne_eq, not_true_eq_false, not_false_eq_true, decide_true, decide_false, lt]) hb]
      exact q3
    · refine ⟨f, e5, e6, e7, I, by omega, w_end ?_⟩
      have nl : ¬ (((wsum (wt ws) f : Nat) : Int) < ((top : Nat) : Int)) := by omega
      simp only [c_most_worth_apart8, ev_asg, ev_par, ev_if, ev_ret, ev_retN, ev_expr, ev_bin, ev_un, ev_ap, ev_cons, ev_nil, ev_varS, ev_var0, ev_c, ob_some, ev_gNm, ev_tOf, ev_asB, ev_asI, ev_tNot, ev_tAnd, ev_tOr, ev_eOf, ev_eIf, ev_chain, List.set_cons_succ, List.set_cons_zero, ev_then_nx, ev_then_rt, ev_next, ev_pTup, ev_valsC, ev_vals0, ev_eL, ev_bm, ev_aug, pix_t, pix_l, pixq0, pixq1, atI_0, atI_1, atI_2, pp_ii, ps_ii, pa_ii, plt_ii, ple_ii, pgt_ii, pge_ii, peq_ii, pne_ii, pneg_i, List.length_cons, List.length_nil, Nat.reduceAdd, Nat.reduceSub, Nat.reduceLeDiff, sz, if_true, Bool.false_eq_true, if_false, Bool.not_true, Bool.not_false, leave_v, List.take_length, plen_t, plen_l, ptup_l, ptup_t, pint_i, pis_n, pis_i, pis_t, pisnt_n, pisnt_i, pisnt_t, Int.cast_ofNat_Int, ne_eq, not_true_eq_false, not_false_eq_true, decide_true, decide_false, nl]
end
end L36

set_option Elab.async false
set_option linter.all false
set_option maxRecDepth 100000
namespace L36
open PySem PySem.Spec PyProof.Rows L2 Ev Qa Sp
section
variable {m : M} {sp : List Sn} {ws : List Nat}
theorem ev_par3 {i j l : Nat} {fa : AF} {env : Sl} : sPar3 i j l fa env m = (fa env m).bind fun x => match x.1 with
  | [a, b, c] => some (.nx (((env.set i (some a)).set j (some b)).set l (some c)) x.2)
  | _ => none := rfl
theorem ev_rg1N {f : EF} {env : Sl} : nRg1 f env m = (f env m).bind fun x => (asI x.1).bind fun b => if rgOkB 0 b = true then some (rngD 0 (b - 0).toNat, x.2) else none := rfl
theorem worth_ok (H : Sps sp) (hw : ws.length = sp.length) (h8 : ∀ w ∈ ws, w ≤ 8) : ∃ top f, IsOpt (fam H) (wt ws) (List.range sp.length) top ∧ Inv (fam H) (wt ws) sp.length top f ∧ wsum (wt ws) f = top ∧
    m_most_worth_apart [.val (.tuple (sp.map encS)), .val (encT ws)] m = some (.val (.tuple [.int ((top : Nat) : Int), encT f]), m) := by
  have l7 := H.l7
  obtain ⟨top, ho, mf⟩ := most_from_ok (m := m) H hw (l := List.range sp.length) (fun i hi => List.mem_range.mp hi) (by rw [List.length_range]; omega)
  have I0 := inv_nil (S := fam H) (w := wt ws) (n := sp.length) ho
  obtain ⟨f, e5, e6, e7, I, hsum, hwl⟩ := worth_while (m := m) H hw (top := top) (fun R h1 h2 => ho.le R h1 fun r hr => List.mem_range.mpr (h2 r hr)) sp.length [] fuel none none none I0 (by simp) (by unfold fuel; omega)
  refine ⟨top, f, ho, I, hsum, ?_⟩
  have c := check_spans_ok (m := m) H
  have hc : ∀ e0 e1 e2 e3 e4 e5 e6 e7 e9 e10, clpL (.nm 8) tTrue e_most_worth_apart1 [e0, e1, e2, e3, e4, e5, e6, e7, none, e9, e10] (encI ws) m = some (ws.map fun _ => .bool true, m) := fun e0 e1 e2 e3 e4 e5 e6 e7 e9 e10 =>
    clpL_all (fun a : Nat => PyData.int a) (fun _ => .bool true) ws fun w hw' => ⟨_, rfl, by
      have h1 : (0 : Int) ≤ (w : Int) := by omega
      have h2 : (w : Int) ≤ 1000 := by have := h8 w hw'; omega
      simp only [e_most_worth_apart1, List.set_cons_succ, List.set_cons_zero, ev_asg, ev_par, ev_if, ev_ret, ev_retN, ev_expr, ev_bin, ev_un, ev_ap, ev_cons, ev_nil, ev_varS, ev_var0, ev_c, ob_some, ev_gNm, ev_tOf, ev_asB, ev_asI, ev_tNot, ev_tAnd, ev_tOr, ev_eOf, ev_eIf, ev_chain, List.set_cons_succ, List.set_cons_zero, ev_then_nx, ev_then_rt, ev_next, ev_pTup, ev_valsC, ev_vals0, ev_eL, ev_bm, ev_aug, pix_t, pix_l, pixq0, pixq1, atI_0, atI_1, atI_2, pp_ii, ps_ii, pa_ii, plt_ii, ple_ii, pgt_ii, pge_ii, peq_ii, pne_ii, pneg_i, List.length_cons, List.length_nil, Nat.reduceAdd, Nat.reduceSub, Nat.reduceLeDiff, sz, if_true, Bool.false_eq_true, if_false, Bool.not_true, Bool.not_false, leave_v, List.take_length, plen_t, plen_l, ptup_l, ptup_t, pint_i, pis_n, pis_i, pis_t, pisnt_n, pisnt_i, pisnt_t, Int.cast_ofNat_Int, ne_eq, not_true_eq_false, not_false_eq_true, decide_true, decide_false, is_bet_i, h1, h2, and_self]⟩
  have hl : (encI ws).length ≤ 16777216 := by rw [encI_len]; omega
  have pa : pAll [.val (.list (ws.map fun _ => PyData.bool true))] m = some (.val (.bool true), m) := by
    rw [pall_l ws fun _ => true]
    simp
  have er : rngD 0 ((((sp.length : Nat) : Int) - 0).toNat) = encI (List.range sp.length) := by
    have e : (((sp.length : Nat) : Int) - 0).toNat = sp.length := by omega
    rw [e]
    have := rngD_nat 0 sp.length
    rw [← List.range_eq_range'] at this
    exact this
  have rg := rgOk0 (n := sp.length) (by omega)
  have eT : encT ws = .tuple (encI ws) := rfl
  have elen : (encI ws).length = sp.length := by rw [encI_len, hw]
  have e0 : encI ([] : List Nat) = [] := rfl
  have ew : ((wsum (wt ws) ([] : List Nat) : Nat) : Int) = 0 := rfl
  rw [e0, ew, eT] at hwl
  rw [eT] at mf
  have nn : ¬ ((sp.length : Nat) : Int) ≠ ((sp.length : Nat) : Int) := by simp
  simp only [m_most_worth_apart, bodyF, List.length_cons, List.length_nil, Nat.reduceAdd, Nat.reduceSub, List.map_cons, List.map_nil, List.replicate, List.cons_append, List.nil_append, List.append_nil, b_most_worth_apart, ev_seq, ev_isA, ev_asg, ev_par, ev_if, ev_ret, ev_retN, ev_expr, ev_bin, ev_un, ev_ap, ev_cons, ev_nil, ev_varS, ev_var0, ev_c, ob_some, ev_gNm, ev_tOf, ev_asB, ev_asI, ev_tNot, ev_tAnd, ev_tOr, ev_eOf, ev_eIf, ev_chain, List.set_cons_succ, List.set_cons_zero, ev_then_nx, ev_then_rt, ev_next, ev_pTup, ev_valsC, ev_vals0, ev_eL, ev_bm, ev_aug, pix_t, pix_l, pixq0, pixq1, atI_0, atI_1, atI_2, pp_ii, ps_ii, pa_ii, plt_ii, ple_ii, pgt_ii, pge_ii, peq_ii, pne_ii, pneg_i, List.length_cons, List.length_nil, Nat.reduceAdd, Nat.reduceSub, Nat.reduceLeDiff, sz, if_true, Bool.false_eq_true, if_false, Bool.not_true, Bool.not_false, leave_v, List.take_length, plen_t, plen_l, ptup_l, ptup_t, pint_i, pis_n, pis_i, pis_t, pisnt_n, pisnt_i, pisnt_t, Int.cast_ofNat_Int, ne_eq, not_true_eq_false, not_false_eq_true, decide_true, decide_false, c, eT, isA, List.length_map, elen, ev_comp, it_an, an1_t, runC_iL hl, wipeE, List.foldl, hc, pa, ev_par3, ev_rg1N, rg, er, mf, ev_nLst, hwl]
  rfl
end
end L36

set_option Elab.async false
set_option linter.all false
set_option maxRecDepth 100000
namespace L36
open PySem PySem.Spec PyProof.Rows L2 Ev Qa Sp
section
variable {rest m : M}
theorem bx_get {A B : Ob} (h : Bx (rest ++ [A, B]) m) : m[rest.length + 1]? = some A ∧ m[rest.length + 2]? = some B := by
  obtain ⟨a, b, rfl, _⟩ := h
  refine ⟨?_, ?_⟩
  · rw [List.getElem?_cons_succ]; exact g0
  · rw [List.getElem?_cons_succ]; exact g1
theorem bx_set {A B A' : Ob} (h : Bx (rest ++ [A, B]) m) : Bx (rest ++ [A', B]) (m.set (rest.length + 1) A') := by
  obtain ⟨a, b, rfl, h⟩ := h
  refine ⟨a, b, ?_, h⟩
  rw [List.set_cons_succ]
  exact congrArg (Ob.lst [.int a, .int b] :: ·) s0
theorem bx_set2 {A B B' : Ob} (h : Bx (rest ++ [A, B]) m) : Bx (rest ++ [A, B']) (m.set (rest.length + 2) B') := by
  obtain ⟨a, b, rfl, h⟩ := h
  refine ⟨a, b, ?_, h⟩
  rw [List.set_cons_succ]
  exact congrArg (Ob.lst [.int a, .int b] :: ·) s1
/-- one span drawn -/
theorem span_draw {sp : List Sn} {ws : List Nat} (h : Bx (rest ++ [.lst (sp.map encS), .lst (encI ws)]) m) (hl : sp.length ≤ 100) (hl2 : ws.length ≤ 100) {e3 e4 : Option R} {t : Sl} : ∃ s w e4' m', l__law_spans1 (some (.ref 0) :: some (.ref (rest.length + 1)) :: some (.ref (rest.length + 2)) :: e3 :: e4 :: t) m = some (.nx (some (.ref 0) :: some (.ref (rest.length + 1)) :: some (.ref (rest.length + 2)) :: e3 :: e4' :: t) m') ∧
    Bx (rest ++ [.lst ((sp ++ [s]).map encS), .lst (encI (ws ++ [w]))]) m' ∧ (-6 ≤ s.1 ∧ s.1 < s.2 ∧ s.2 ≤ 12) ∧ w ≤ 8 := by
  obtain ⟨d1, m1, a1, a2, a3⟩ := drawN h (k := 12) (by decide) (by decide)
  obtain ⟨d2, m2, b1, b2, b3⟩ := drawN a3 (k := 6) (by decide) (by decide)
  have a1' : m__law_draw [.ref 0, .val (.int 12)] m = some (.val (.int (d1 : Int)), m1) := a1
  have b1' : m__law_draw [.ref 0, .val (.int 6)] m1 = some (.val (.int (d2 : Int)), m2) := b1
  have g2 := (bx_get b3).1
  have gm1 := (bx_get a3).1
  have pp := papp_r (d := encS ((d1 : Int) - 6, (d1 : Int) - 6 + 1 + (d2 : Int))) g2 (by rw [List.length_map]; omega)
  have ea : sp.map encS ++ [encS ((d1 : Int) - 6, (d1 : Int) - 6 + 1 + (d2 : Int))] = (sp ++ [((d1 : Int) - 6, (d1 : Int) - 6 + 1 + (d2 : Int))]).map encS := by rw [List.map_append]; rfl
  rw [ea] at pp
  have h3 := bx_set (A' := .lst ((sp ++ [((d1 : Int) - 6, (d1 : Int) - 6 + 1 + (d2 : Int))]).map encS)) b3
  obtain ⟨d3, m4, c1, c2, c3⟩ := drawN h3 (k := 9) (by decide) (by decide)
  have c1' : m__law_draw [.ref 0, .val (.int 9)] (m2.set (rest.length + 1) (.lst ((sp ++ [((d1 : Int) - 6, (d1 : Int) - 6 + 1 + (d2 : Int))]).map encS))) = some (.val (.int (d3 : Int)), m4) := c1
  have g4 := (bx_get c3).2
  have g3 := (bx_get h3).2
  have pp2 := papp_r (d := .int (d3 : Int)) g4 (by rw [encI_len]; omega)
  have ea2 : encI ws ++ [PyData.int (d3 : Int)] = encI (ws ++ [d3]) := by rw [encI_app]; rfl
  rw [ea2] at pp2
  have eS : PyData.tuple [.int ((d1 : Int) - 6), .int ((d1 : Int) - 6 + 1 + (d2 : Int))] = encS ((d1 : Int) - 6, (d1 : Int) - 6 + 1 + (d2 : Int)) := rfl
  refine ⟨_, d3, some (.val (.int ((d1 : Int) - 6))), _, ?_, bx_set2 c3, ⟨?_, ?_, ?_⟩, by omega⟩
  · simp only [l__law_spans1, ev_seq, ev_asg, ev_par, ev_if, ev_ret, ev_retN, ev_expr, ev_bin, ev_un, ev_ap, ev_cons, ev_nil, ev_varS, ev_var0, ev_c, ob_some, ev_gNm, ev_tOf, ev_asB, ev_asI, ev_tNot, ev_tAnd, ev_tOr, ev_eOf, ev_eIf, ev_chain, List.set_cons_succ, List.set_cons_zero, ev_then_nx, ev_then_rt, ev_next, ev_pTup, ev_valsC, ev_vals0, ev_eL, ev_bm, ev_aug, pix_t, pix_l, pixq0, pixq1, atI_0, atI_1, atI_2, pp_ii, ps_ii, pa_ii, plt_ii, ple_ii, pgt_ii, pge_ii, peq_ii, pne_ii, pneg_i, List.length_cons, List.length_nil, Nat.reduceAdd, Nat.reduceSub, Nat.reduceLeDiff, sz, if_true, Bool.false_eq_true, if_false, Bool.not_true, Bool.not_false, leave_v, List.take_length, plen_t, plen_l, ptup_l, ptup_t, pint_i, pis_n, pis_i, pis_t, pisnt_n, pisnt_i, pisnt_t, Int.cast_ofNat_Int, ne_eq, not_true_eq_false, not_false_eq_true, decide_true, decide_false, a1', asL_r gm1, b1', eS, pp, asL_r g3, c1', pp2]
  · show -6 ≤ (d1 : Int) - 6
    omega
  · show (d1 : Int) - 6 < (d1 : Int) - 6 + 1 + (d2 : Int)
    omega
  · show (d1 : Int) - 6 + 1 + (d2 : Int) ≤ 12
    omega
theorem spans_draw {t : Sl} : ∀ (l : List Nat) (sp : List Sn) (ws : List Nat) (m : M) (e3 e4 : Option R), Bx (rest ++ [.lst (sp.map encS), .lst (encI ws)]) m → sp.length + l.length ≤ 100 → ws.length = sp.length → (∀ s ∈ sp, -6 ≤ s.1 ∧ s.1 < s.2 ∧ s.2 ≤ 12) → (∀ w ∈ ws, w ≤ 8) →
    ∃ (sp' : List Sn) (ws' : List Nat) (e3' e4' : Option R) (m' : M), loopL (gNm 3) l__law_spans1 (l.map fun j : Nat => PyData.int j) (some (.ref 0) :: some (.ref (rest.length + 1)) :: some (.ref (rest.length + 2)) :: e3 :: e4 :: t) m = some (.nx (some (.ref 0) :: some (.ref (rest.length + 1)) :: some (.ref (rest.length + 2)) :: e3' :: e4' :: t) m') ∧
    Bx (rest ++ [.lst (sp'.map encS), .lst (encI ws')]) m' ∧ sp'.length = sp.length + l.length ∧ ws'.length = sp'.length ∧ (∀ s ∈ sp', -6 ≤ s.1 ∧ s.1 < s.2 ∧ s.2 ≤ 12) ∧ ∀ w ∈ ws', w ≤ 8
  | [], sp, ws, m, e3, e4, h, h1, h2, h3, h4 => ⟨sp, ws, e3, e4, m, rfl, h, rfl, h2, h3, h4⟩
  | i :: l, sp, ws, m, e3, e4, h, h1, h2, h3, h4 => by
    rw [List.length_cons] at h1
    obtain ⟨s, w, f4, m1, q1, q2, q3, q4⟩ := span_draw h (by omega) (by omega) (e3 := some (.val (.int (i : Int)))) (e4 := e4) (t := t)
    obtain ⟨sp', ws', g3, g4, m', r1, r2, r3, r4, r5, r6⟩ := spans_draw (t := t) l (sp ++ [s]) (ws ++ [w]) m1 (some (.val (.int (i : Int)))) f4 q2 (by simp; omega) (by simp [h2]) (fun x hx => by
      rcases List.mem_append.mp hx with z | z
      · exact h3 x z
      · rw [List.mem_singleton.mp z]; exact q3) (fun x hx => by
      rcases List.mem_append.mp hx with z | z
      · exact h4 x z
      · rw [List.mem_singleton.mp z]; exact q4)
    refine ⟨sp', ws', g3, g4, m', ?_, r2, by rw [r3, List.length_append, List.length_cons, List.length_cons, List.length_nil]; omega, r4, r5, r6⟩
    rw [List.map_cons, step_nx (env1 := some (.ref 0) :: some (.ref (rest.length + 1)) :: some (.ref (rest.length + 2)) :: some (.val (.int (i : Int))) :: e4 :: t) rfl q1]
    exact r1
end
end L36

set_option Elab.async false
set_option linter.all false
set_option maxRecDepth 100000
namespace L36
open PySem PySem.Spec PyProof.Rows L2 Ev Qa Sp
section
variable {m rest : M} {sp : List Sn} {ws : List Nat}
theorem grd_facts (H : Sps sp) : Ap (fam H) (grd sp H) ∧ ∀ i ∈ grd sp H, i < sp.length := ⟨tkn_ap (byEnd sp) [] List.Pairwise.nil, fun i hi => by
  rcases tkn_sub (byEnd sp) [] i hi with z | z
  · cases z
  · exact byEnd_lt z⟩
theorem rows_most (H : Sps sp) : Ld.mx ((rowsN (fam H) sp.length).map List.length) = (grd sp H).length := by
  obtain ⟨a1, a2⟩ := grd_facts H
  refine Nat.le_antisymm (mx_le fun x hx => ?_) (Ld.le_mx ?_)
  · obtain ⟨R, hR, rfl⟩ := List.mem_map.mp hx
    have r := (rowsN_mem _ R).mp hR
    exact tkn_most (S := fam H) (byEnd_sorted sp) r.ap fun i hi => (byEnd_perm sp).mem_iff.mpr (List.mem_range.mpr (r.lt i hi))
  · obtain ⟨Q, p, r⟩ := sort_row (n := sp.length) a1 a2
    exact List.mem_map.mpr ⟨Q, (rowsN_mem _ Q).mpr r, p.length_eq⟩
theorem rows_top (H : Sps sp) {top : Nat} (ho : IsOpt (fam H) (wt ws) (List.range sp.length) top) : Ld.mx ((rowsN (fam H) sp.length).map (wsum (wt ws))) = top := by
  refine Nat.le_antisymm (mx_le fun x hx => ?_) (Ld.le_mx ?_)
  · obtain ⟨R, hR, rfl⟩ := List.mem_map.mp hx
    have r := (rowsN_mem _ R).mp hR
    exact ho.le R r.ap fun i hi => List.mem_range.mpr (r.lt i hi)
  · obtain ⟨R, r1, r2, r3⟩ := ho.at_
    obtain ⟨Q, p, r⟩ := sort_row (n := sp.length) r1 fun i hi => List.mem_range.mp (r2 i hi)
    exact List.mem_map.mpr ⟨Q, (rowsN_mem _ Q).mpr r, by rw [wsum_perm p, r3]⟩
/-- the sum of a row's worths -/
theorem row_sum (hw : ws.length = sp.length) {R : List Nat} (hR : ∀ i ∈ R, i < sp.length) (hl : R.length ≤ 1000) {te : EF} {env : Sl} (hte : ∀ i ∈ R, te (env.set 3 (some (.val (.int (i : Int))))) m = some (.val (.int ((wt ws i : Nat) : Int)), m)) : clpL (.nm 3) tTrue te env (encI R) m = some (encI (R.map (wt ws)), m) := by
  have := clpL_all (p := .nm 3) (te := te) (env := env) (m := m) (fun a : Nat => PyData.int a) (fun i => .int ((wt ws i : Nat) : Int)) R fun i hi => ⟨_, rfl, hte i hi⟩
  rw [show (R.map fun i => PyData.int ((wt ws i : Nat) : Int)) = encI (R.map (wt ws)) by unfold encI; rw [List.map_map]; rfl] at this
  exact this
theorem psum_L {l : List Nat} : pSum [.val (.list (encI l))] m = some (.val (.int (l.sum : Nat)), m) := psum_T (l := l)
end
end L36

set_option Elab.async false
set_option linter.all false
set_option maxRecDepth 100000
namespace L36
open PySem PySem.Spec PyProof.Rows L2 Ev Qa Sp
section
variable {m rest : M} {sp : List Sn} {ws : List Nat}
def tlS : SF := (sSeq (sAsg (eAp pLen (aCons (eVar 1) aNil)) (gNm 5)) (sSeq (sAsg (eL (nLst (aCons (eAp pTup aNil) aNil))) (gNm 6)) (sSeq (sFor (itRng1 (aCons (eVar 5) aNil)) (gNm 3) l__law_spans5) (sSeq (sAsg (eNew (nLst aNil)) (gNm 7)) (sSeq (sFor (itAny (eSortKR [false, false, false, true, false, false, false, false, false, false, false, false, false, false, false, false, false, false] k__law_spans6 (aCons (eVar 5) aNil))) (gNm 3) l__law_spans8) (sSeq (sIf (tOrF (tOf (eBin pNe (eAp pRepr (aCons (eAp m_most_apart (aCons (eVar 1) aNil)) aNil)) (eAp pRepr (aCons (eAp pTupleOf (aCons (eAp pSortedA (aCons (eVar 7) aNil)) aNil)) aNil)))) (tOf (eBin pNe (eAp pLen (aCons (eVar 7) aNil)) (eAp pMax (aCons (eL (nComp (itAny (eVar 6)) (.nm 16) [16] tTrue e__law_spans9)) aNil))))) (sRet (eC (.bool false))) sNext) (sSeq (sAsg (eAp pMax (aCons (eL (nComp (itRng2 (aCons (eUn pNeg (eC (.int 7))) (aCons (eC (.int 13)) aNil))) (.nm 14) [14] tTrue e__law_spans12)) aNil)) (gNm 8)) (sSeq (sAsg (eNew (nLst aNil)) (gNm 9)) (sSeq (sFor (itAny (eAp pSortedA (aCons (eVar 1) aNil))) (gP (.tp (.cons (.nm 4) (.cons (.nm 10) .nil)))) l__law_spans15) (sSeq (sIf (tOrF (tOf (eBin pNe (eAp m_fewest_telescopes (aCons (eVar 1) aNil)) (eVar 8))) (tOf (eBin pNe (eAp pLen (aCons (eVar 9) aNil)) (eVar 8)))) (sRet (eC (.bool false))) sNext) (sSeq (sAsg (eAp pMax (aCons (eL (nComp (itAny (eVar 6)) (.nm 16) [16] tTrue e__law_spans17)) aNil)) (gNm 12)) (sSeq (sAsg (eAp pMin (aCons (eL (nComp (itAny (eVar 6)) (.nm 16) [16] t__law_spans20 e__law_spans19)) aNil)) (gNm 13)) (sRet (eBin pEq (eAp pRepr (aCons (eAp m_most_worth_apart (aCons (eVar 1) (aCons (eVar 2) aNil))) aNil)) (eAp pRepr (aCons (eAp pTup (aCons (eVar 12) (aCons (eVar 13) aNil))) aNil))))))))))))))))
theorem spans_cut : b__law_spans = sSeq (sParG [1, 2] (aCons (eNew (nLst aNil)) (aCons (eNew (nLst aNil)) aNil))) (sSeq (sFor (itRng1 (aCons (eBin pPlus (eC (.int 1)) (eAp m__law_draw (aCons (eVar 0) (aCons (eC (.int 7)) aNil)))) aNil)) (gNm 3) l__law_spans1) (sSeq (sParG [1, 2] (aCons (eAp pTupleOf (aCons (eVar 1) aNil)) (aCons (eAp pTupleOf (aCons (eVar 2) aNil)) aNil))) tlS)) := rfl
theorem tail_ok (H : Sps sp) (hw : ws.length = sp.length) (h8 : ∀ w ∈ ws, w ≤ 8) {e0 e3 e4 : Option R} : ∃ x y, tlS [e0, some (.val (.tuple (sp.map encS))), some (.val (encT ws)), e3, e4, none, none, none, none, none, none, none, none, none, none, none, none, none] m = some (.rt (.val (.bool true)) (m ++ [x] ++ [y])) := by
  have l7 := H.l7
  obtain ⟨f3, hrows⟩ := rows_loop (m := m) H (e0 := e0) (e2 := some (.val (encT ws))) (e4 := e4) (e5 := some (.val (.int ((sp.length : Nat) : Int)))) (e7 := none) (e8 := none) (e9 := none) (e10 := none) (e11 := none) (e12 := none) (e13 := none) (e14 := none) (e15 := none) sp.length (Nat.le_refl _) e3
  have rgn := rg1_nat (m := m) (n := sp.length) (by omega)
  generalize hR : rowsN (fam H) sp.length = rows at *
  have hrl : rows.length ≤ 1000 := by
    have := rowsN_len (fam H) sp.length
    rw [hR] at this
    have h2 : 2 ^ sp.length ≤ 2 ^ 7 := Nat.pow_le_pow_right (by decide) l7
    have e : (2 : Nat) ^ 7 = 128 := by decide
    omega
  have hrow : ∀ R ∈ rows, Row (fam H) sp.length R := fun R h => (rowsN_mem _ R).mp (by rw [hR]; exact h)
  have hrr : ∀ R, Row (fam H) sp.length R → R ∈ rows := fun R h => by rw [← hR]; exact (rowsN_mem _ R).mpr h
  obtain ⟨a1, a2⟩ := grd_facts H
  have gl : (grd sp H).length ≤ 7 := by
    have := List.Nodup.length_le_of_subset (l₁ := grd sp H) (l₂ := List.range sp.length) a1.nodup fun i hi => List.mem_range.mpr (a2 i hi)
    rw [List.length_range] at this
    omega
  have hk : ∀ M i, i < sp.length → keyF k__law_spans6 [false, false, false, true, false, false, false, false, false, false, false, false, false, false, false, false, false, false] [e0, some (.val (.tuple (sp.map encS))), some (.val (encT ws)), f3, e4, some (.val (.int ((sp.length : Nat) : Int))), some (.val (.list (rows.map encT))), some (.ref m.length), none, none, none, none, none, none, none, none, none, none] (.int (i : Int)) M = some (.tuple [.int (nth sp i).2, .int (i : Int)], M) := fun M i hi => by
    simp only [keyF, mskL, k__law_spans6, ev_asg, ev_par, ev_if, ev_ret, ev_retN, ev_expr, ev_bin, ev_un, ev_ap, ev_cons, ev_nil, ev_varS, ev_var0, ev_c, ob_some, ev_gNm, ev_tOf, ev_asB, ev_asI, ev_tNot, ev_tAnd, ev_tOr, ev_eOf, ev_eIf, ev_chain, List.set_cons_succ, List.set_cons_zero, ev_then_nx, ev_then_rt, ev_next, ev_pTup, ev_valsC, ev_vals0, ev_eL, ev_bm, ev_aug, pix_t, pix_l, pixq0, pixq1, atI_0, atI_1, atI_2, pp_ii, ps_ii, pa_ii, plt_ii, ple_ii, pgt_ii, pge_ii, peq_ii, pne_ii, pneg_i, List.length_cons, List.length_nil, Nat.reduceAdd, Nat.reduceSub, Nat.reduceLeDiff, sz, if_true, Bool.false_eq_true, if_false, Bool.not_true, Bool.not_false, leave_v, List.take_length, plen_t, plen_l, ptup_l, ptup_t, pint_i, pis_n, pis_i, pis_t, pisnt_n, pisnt_i, pisnt_t, Int.cast_ofNat_Int, ne_eq, not_true_eq_false, not_false_eq_true, decide_true, decide_false, pix_sp hi, pix_s1]
  have ss := sort_ends (m := m ++ [Ob.lst []]) (sp := sp) (n := sp.length) rfl l7 (hk _)
  obtain ⟨t3, htk⟩ := ltake_loop (m := m) H (e0 := e0) (e2 := some (.val (encT ws))) (e4 := e4) (e5 := some (.val (.int ((sp.length : Nat) : Int)))) (e6 := some (.val (.list (rows.map encT)))) (e8 := none) (e9 := none) (e10 := none) (e11 := none) (e12 := none) (e13 := none) (e14 := none) (e15 := none) (byEnd sp) [] f3 (fun i hi => byEnd_lt hi) (fun i hi => (by cases hi)) (by rw [byEnd_len]; show 0 + sp.length ≤ 1000; omega)
  have eg : tkn (fam H) [] (byEnd sp) = grd sp H := rfl
  have en : encI ([] : List Nat) = [] := rfl
  rw [eg, en] at htk
  generalize hm1 : m ++ [Ob.lst (encI (grd sp H))] = m1 at *
  have g : m1[m.length]? = some (.lst (encI (grd sp H))) := by rw [← hm1]; exact g0
  have c1 := most_apart_ok (m := m1) H
  have ak : asK (.ref m.length) m1 = some (encI (grd sp H)) := by
    show (m1[m.length]?).bind _ = _
    rw [g]
    rfl
  have ps := psort_N ak (by omega)
  have eT : PyData.tuple (encI (srt (grd sp H))) = encT (srt (grd sp H)) := rfl
  have sh1 : Sh 1000 1 (encT (srt (grd sp H))) := (Sh.tup (sh_encI fun a ha => by
    have := a2 a ((srt_perm _).mem_iff.mp ha)
    omega)).up (by rw [srt_len]; omega) (by decide)
  have z1 := sh1.repr (m := m1) (by decide) (by decide)
  have z2 := pNe_shown (m := m1) sh1.sm
  have pl1 : pLen [.ref m.length] m1 = some (.val (.int (((grd sp H).length : Nat) : Int)), m1) := by rw [plen_r g, encI_len]
  have lr : (rows.map encT).length ≤ 16777216 := by rw [List.length_map]; omega
  have hc9 : ∀ t0 t1 t2 t3 t4 t5 t6 t7, clpL (.nm 16) tTrue e__law_spans9 [t0, t1, t2, t3, t4, t5, t6, t7, none, none, none, none, none, none, none, none, none, none] (rows.map encT) m1 = some (encI (rows.map List.length), m1) := fun t0 t1 t2 t3 t4 t5 t6 t7 => by
    have := clpL_all (p := .nm 16) (te := e__law_spans9) (env := [t0, t1, t2, t3, t4, t5, t6, t7, none, none, none, none, none, none, none, none, none, none]) (m := m1) encT (fun R : List Nat => .int ((R.length : Nat) : Int)) rows fun R _ => ⟨_, rfl, by
      simp only [e__law_spans9, List.set_cons_succ, List.set_cons_zero, ev_asg, ev_par, ev_if, ev_ret, ev_retN, ev_expr, ev_bin, ev_un, ev_ap, ev_cons, ev_nil, ev_varS, ev_var0, ev_c, ob_some, ev_gNm, ev_tOf, ev_asB, ev_asI, ev_tNot, ev_tAnd, ev_tOr, ev_eOf, ev_eIf, ev_chain, List.set_cons_succ, List.set_cons_zero, ev_then_nx, ev_then_rt, ev_next, ev_pTup, ev_valsC, ev_vals0, ev_eL, ev_bm, ev_aug, pix_t, pix_l, pixq0, pixq1, atI_0, atI_1, atI_2, pp_ii, ps_ii, pa_ii, plt_ii, ple_ii, pgt_ii, pge_ii, peq_ii, pne_ii, pneg_i, List.length_cons, List.length_nil, Nat.reduceAdd, Nat.reduceSub, Nat.reduceLeDiff, sz, if_true, Bool.false_eq_true, if_false, Bool.not_true, Bool.not_false, leave_v, List.take_length, plen_t, plen_l, ptup_l, ptup_t, pint_i, pis_n, pis_i, pis_t, pisnt_n, pisnt_i, pisnt_t, Int.cast_ofNat_Int, ne_eq, not_true_eq_false, not_false_eq_true, decide_true, decide_false, plen_T]⟩
    rw [show (rows.map fun R : List Nat => PyData.int ((R.length : Nat) : Int)) = encI (rows.map List.length) by unfold encI; rw [List.map_map]; rfl] at this
    exact this
  have rne : rows ≠ [] := fun z => by
    have := hrr [] ⟨List.Pairwise.nil, fun r hr => (by cases hr), List.Pairwise.nil⟩
    rw [z] at this
    cases this
  have pm1 : pMax [.val (.list (encI (rows.map List.length)))] m1 = some (.val (.int (((grd sp H).length : Nat) : Int)), m1) := by
    have := pmax_N (m := m1) (r := .val (.list (encI (rows.map List.length)))) rfl (by simpa using rne)
    rw [this]
    have e := rows_most H
    rw [hR] at e
    unfold Ld.mx at e
    rw [e]
  have n1 : ¬ ((((grd sp H).length : Nat) : Int) ≠ (((grd sp H).length : Nat) : Int)) := by simp
  obtain ⟨dq1, dq2⟩ := depth_eq H
  have dr : rg2 [.val (.int (-7)), .val (.int 13)] m1 = iL (rngD (-7) 20) m1 := rfl
  have dl : (rngD (-7) 20).length ≤ 16777216 := by decide
  have dc : ∀ t0 t2 t3 t4 t5 t6 t7 t8 t9 t10 t11 t12 t13 t15 t16 t17, clpL (.nm 14) tTrue e__law_spans12 [t0, some (.val (.tuple (sp.map encS))), t2, t3, t4, t5, t6, t7, t8, t9, t10, t11, t12, t13, none, t15, t16, t17] (rngD (-7) 20) m1 = some (encI ((List.range 20).map fun j : Nat => Sp.cnt (-7 + (j : Int)) sp), m1) := fun t0 t2 t3 t4 t5 t6 t7 t8 t9 t10 t11 t12 t13 t15 t16 t17 => by
    have hc := clpL_all (p := .nm 14) (te := e__law_spans12) (env := [t0, some (.val (.tuple (sp.map encS))), t2, t3, t4, t5, t6, t7, t8, t9, t10, t11, t12, t13, none, t15, t16, t17]) (m := m1) (fun j : Nat => PyData.int (-7 + (j : Int))) (fun j : Nat => .int ((Sp.cnt (-7 + (j : Int)) sp : Nat) : Int)) (List.range 20) fun j _ => ⟨_, rfl, count_ok H⟩
    rw [show ((List.range 20).map fun j : Nat => PyData.int ((Sp.cnt (-7 + (j : Int)) sp : Nat) : Int)) = encI ((List.range 20).map fun j : Nat => Sp.cnt (-7 + (j : Int)) sp) by unfold encI; rw [List.map_map]; rfl] at hc
    exact hc
  have dm : pMax [.val (.list (encI ((List.range 20).map fun j : Nat => Sp.cnt (-7 + (j : Int)) sp)))] m1 = some (.val (.int ((((srtS sp).foldl put []).length : Nat) : Int)), m1) := by
    rw [← dq1]
    exact pmax_N rfl (by simp)
  have so := sort_sp (m := m1 ++ [Ob.lst []]) (sp := sp) l7
  obtain ⟨u4, u10, u11, hen⟩ := ends_loop (m := m1) (e0 := e0) (e1 := some (.val (.tuple (sp.map encS)))) (e2 := some (.val (encT ws))) (e3 := t3) (e5 := some (.val (.int ((sp.length : Nat) : Int)))) (e6 := some (.val (.list (rows.map encT)))) (e7 := some (.ref m.length)) (e8 := some (.val (.int ((((srtS sp).foldl put []).length : Nat) : Int)))) (e12 := none) (e13 := none) (e14 := none) (e16 := none) (e17 := none) (srtS sp) [] e4 none none (by rw [(srtS_perm sp).length_eq]; show 0 + sp.length ≤ 1000; omega)
  have ez : encZ [] = [] := rfl
  rw [ez] at hen
  generalize hE : (srtS sp).foldl put [] = es at *
  generalize hm2 : m1 ++ [Ob.lst (encZ es)] = m2 at *
  have g2 : m2[m1.length]? = some (.lst (encZ es)) := by rw [← hm2]; exact g0
  have fw := fewest_ok (m := m2) H
  rw [dq2] at fw
  have pl2 : pLen [.ref m1.length] m2 = some (.val (.int ((es.length : Nat) : Int)), m2) := by
    rw [plen_r g2]
    unfold encZ
    rw [List.length_map]
  have n2 : ¬ (((es.length : Nat) : Int) ≠ ((es.length : Nat) : Int)) := by simp
  obtain ⟨top, f, ho, I, hsum, mw⟩ := worth_ok (m := m2) H hw h8
  have rlen : ∀ R ∈ rows, R.length ≤ 1000 := fun R h => by have := row_len (hrow R h); omega
  have rs : ∀ (te : EF) (env : Sl) (R : List Nat), R ∈ rows → (∀ i ∈ R, te (env.set 3 (some (.val (.int (i : Int))))) m2 = some (.val (.int ((wt ws i : Nat) : Int)), m2)) → clpL (.nm 3) tTrue te env (encI R) m2 = some (encI (R.map (wt ws)), m2) := fun te env R h hte => row_sum hw (hrow R h).lt (rlen R h) hte
  have ixw : ∀ i, i < sp.length → pIdx (.val (encT ws)) (.val (.int (i : Int))) m2 = some (.val (.int ((wt ws i : Nat) : Int)), m2) := fun i hi => pix_T (getD_some (by rw [hw]; exact hi))
  have hs17 : ∀ R ∈ rows, ∀ t0 t1 t3 t4 t5 t6 t7 t8 t9 t10 t11 t12, e__law_spans17 [t0, t1, some (.val (encT ws)), t3, t4, t5, t6, t7, t8, t9, t10, t11, t12, none, none, none, some (.val (encT R)), none] m2 = some (.val (.int ((wsum (wt ws) R : Nat) : Int)), m2) := fun R h t0 t1 t3 t4 t5 t6 t7 t8 t9 t10 t11 t12 => by
    have hl : (encI R).length ≤ 16777216 := by rw [encI_len]; have := rlen R h; omega
    have q := rs e__law_spans16 [t0, t1, some (.val (encT ws)), none, t4, t5, t6, t7, t8, t9, t10, t11, t12, none, none, none, some (.val (encT R)), none] R h fun i hi => by
      simp only [e__law_spans16, List.set_cons_succ, List.set_cons_zero, ev_asg, ev_par, ev_if, ev_ret, ev_retN, ev_expr, ev_bin, ev_un, ev_ap, ev_cons, ev_nil, ev_varS, ev_var0, ev_c, ob_some, ev_gNm, ev_tOf, ev_asB, ev_asI, ev_tNot, ev_tAnd, ev_tOr, ev_eOf, ev_eIf, ev_chain, List.set_cons_succ, List.set_cons_zero, ev_then_nx, ev_then_rt, ev_next, ev_pTup, ev_valsC, ev_vals0, ev_eL, ev_bm, ev_aug, pix_t, pix_l, pixq0, pixq1, atI_0, atI_1, atI_2, pp_ii, ps_ii, pa_ii, plt_ii, ple_ii, pgt_ii, pge_ii, peq_ii, pne_ii, pneg_i, List.length_cons, List.length_nil, Nat.reduceAdd, Nat.reduceSub, Nat.reduceLeDiff, sz, if_true, Bool.false_eq_true, if_false, Bool.not_true, Bool.not_false, leave_v, List.take_length, plen_t, plen_l, ptup_l, ptup_t, pint_i, pis_n, pis_i, pis_t, pisnt_n, pisnt_i, pisnt_t, Int.cast_ofNat_Int, ne_eq, not_true_eq_false, not_false_eq_true, decide_true, decide_false, ixw i ((hrow R h).lt i hi)]
    have eR : encT R = .tuple (encI R) := rfl
    rw [eR] at q
    simp only [e__law_spans17, ev_asg, ev_par, ev_if, ev_ret, ev_retN, ev_expr, ev_bin, ev_un, ev_ap, ev_cons, ev_nil, ev_varS, ev_var0, ev_c, ob_some, ev_gNm, ev_tOf, ev_asB, ev_asI, ev_tNot, ev_tAnd, ev_tOr, ev_eOf, ev_eIf, ev_chain, List.set_cons_succ, List.set_cons_zero, ev_then_nx, ev_then_rt, ev_next, ev_pTup, ev_valsC, ev_vals0, ev_eL, ev_bm, ev_aug, pix_t, pix_l, pixq0, pixq1, atI_0, atI_1, atI_2, pp_ii, ps_ii, pa_ii, plt_ii, ple_ii, pgt_ii, pge_ii, peq_ii, pne_ii, pneg_i, List.length_cons, List.length_nil, Nat.reduceAdd, Nat.reduceSub, Nat.reduceLeDiff, sz, if_true, Bool.false_eq_true, if_false, Bool.not_true, Bool.not_false, leave_v, List.take_length, plen_t, plen_l, ptup_l, ptup_t, pint_i, pis_n, pis_i, pis_t, pisnt_n, pisnt_i, pisnt_t, Int.cast_ofNat_Int, ne_eq, not_true_eq_false, not_false_eq_true, decide_true, decide_false, ev_comp, it_an, eR, an1_t, runC_iL hl, wipeE, List.foldl, q, psum_L]
    rfl
  have hc17 : ∀ t0 t1 t3 t4 t5 t6 t7 t8 t9 t10 t11 t12, clpL (.nm 16) tTrue e__law_spans17 [t0, t1, some (.val (encT ws)), t3, t4, t5, t6, t7, t8, t9, t10, t11, t12, none, none, none, none, none] (rows.map encT) m2 = some (encI (rows.map (wsum (wt ws))), m2) := fun t0 t1 t3 t4 t5 t6 t7 t8 t9 t10 t11 t12 => by
    have := clpL_all (p := .nm 16) (te := e__law_spans17) (env := [t0, t1, some (.val (encT ws)), t3, t4, t5, t6, t7, t8, t9, t10, t11, t12, none, none, none, none, none]) (m := m2) encT (fun R : List Nat => .int ((wsum (wt ws) R : Nat) : Int)) rows fun R hR => ⟨_, rfl, hs17 R hR _ _ _ _ _ _ _ _ _ _ _ _⟩
    rw [show (rows.map fun R : List Nat => PyData.int ((wsum (wt ws) R : Nat) : Int)) = encI (rows.map (wsum (wt ws))) by unfold encI; rw [List.map_map]; rfl] at this
    exact this
  have pm2 : pMax [.val (.list (encI (rows.map (wsum (wt ws)))))] m2 = some (.val (.int ((top : Nat) : Int)), m2) := by
    have := pmax_N (m := m2) (r := .val (.list (encI (rows.map (wsum (wt ws)))))) rfl (by simpa using rne)
    rw [this]
    have e := rows_top H ho
    rw [hR] at e
    unfold Ld.mx at e
    rw [e]
  have hc20 : ∀ t0 t1 t3 t4 t5 t6 t7 t8 t9 t10 t11, clpL (.nm 16) t__law_spans20 e__law_spans19 [t0, t1, some (.val (encT ws)), t3, t4, t5, t6, t7, t8, t9, t10, t11, some (.val (.int ((top : Nat) : Int))), none, none, none, none, none] (rows.map encT) m2 = some ((rows.filter fun R => decide (wsum (wt ws) R = top)).map encT, m2) := fun t0 t1 t3 t4 t5 t6 t7 t8 t9 t10 t11 =>
    clpL_map encT (fun R => decide (wsum (wt ws) R = top)) encT rows fun R h => ⟨_, rfl, by
      have hl : (encI R).length ≤ 16777216 := by rw [encI_len]; have := rlen R h; omega
      have q := rs e__law_spans18 [t0, t1, some (.val (encT ws)), none, t4, t5, t6, t7, t8, t9, t10, t11, some (.val (.int ((top : Nat) : Int))), none, none, none, some (.val (encT R)), none] R h fun i hi => by
        simp only [e__law_spans18, List.set_cons_succ, List.set_cons_zero, ev_asg, ev_par, ev_if, ev_ret, ev_retN, ev_expr, ev_bin, ev_un, ev_ap, ev_cons, ev_nil, ev_varS, ev_var0, ev_c, ob_some, ev_gNm, ev_tOf, ev_asB, ev_asI, ev_tNot, ev_tAnd, ev_tOr, ev_eOf, ev_eIf, ev_chain, List.set_cons_succ, List.set_cons_zero, ev_then_nx, ev_then_rt, ev_next, ev_pTup, ev_valsC, ev_vals0, ev_eL, ev_bm, ev_aug, pix_t, pix_l, pixq0, pixq1, atI_0, atI_1, atI_2, pp_ii, ps_ii, pa_ii, plt_ii, ple_ii, pgt_ii, pge_ii, peq_ii, pne_ii, pneg_i, List.length_cons, List.length_nil, Nat.reduceAdd, Nat.reduceSub, Nat.reduceLeDiff, sz, if_true, Bool.false_eq_true, if_false, Bool.not_true, Bool.not_false, leave_v, List.take_length, plen_t, plen_l, ptup_l, ptup_t, pint_i, pis_n, pis_i, pis_t, pisnt_n, pisnt_i, pisnt_t, Int.cast_ofNat_Int, ne_eq, not_true_eq_false, not_false_eq_true, decide_true, decide_false, ixw i ((hrow R h).lt i hi)]
      have eR : encT R = .tuple (encI R) := rfl
      rw [eR] at q
      have e3 : (decide (((((R.map (wt ws)).sum : Nat) : Int)) = ((top : Nat) : Int))) = decide (wsum (wt ws) R = top) := by
        unfold wsum
        by_cases c : (R.map (wt ws)).sum = top
        · rw [decide_eq_true c, decide_eq_true (by omega)]
        · rw [decide_eq_false c, decide_eq_false (by omega)]
      show t__law_spans20 [t0, t1, some (.val (encT ws)), t3, t4, t5, t6, t7, t8, t9, t10, t11, some (.val (.int ((top : Nat) : Int))), none, none, none, some (.val (encT R)), none] m2 = _
      simp only [t__law_spans20, ev_asg, ev_par, ev_if, ev_ret, ev_retN, ev_expr, ev_bin, ev_un, ev_ap, ev_cons, ev_nil, ev_varS, ev_var0, ev_c, ob_some, ev_gNm, ev_tOf, ev_asB, ev_asI, ev_tNot, ev_tAnd, ev_tOr, ev_eOf, ev_eIf, ev_chain, List.set_cons_succ, List.set_cons_zero, ev_then_nx, ev_then_rt, ev_next, ev_pTup, ev_valsC, ev_vals0, ev_eL, ev_bm, ev_aug, pix_t, pix_l, pixq0, pixq1, atI_0, atI_1, atI_2, pp_ii, ps_ii, pa_ii, plt_ii, ple_ii, pgt_ii, pge_ii, peq_ii, pne_ii, pneg_i, List.length_cons, List.length_nil, Nat.reduceAdd, Nat.reduceSub, Nat.reduceLeDiff, sz, if_true, Bool.false_eq_true, if_false, Bool.not_true, Bool.not_false, leave_v, List.take_length, plen_t, plen_l, ptup_l, ptup_t, pint_i, pis_n, pis_i, pis_t, pisnt_n, pisnt_i, pisnt_t, Int.cast_ofNat_Int, ne_eq, not_true_eq_false, not_false_eq_true, decide_true, decide_false, ev_comp, it_an, eR, an1_t, runC_iL hl, wipeE, List.foldl, q, psum_L, e3], fun _ => rfl⟩
  have ff : f ∈ rows.filter fun R => decide (wsum (wt ws) R = top) := List.mem_filter.mpr ⟨hrr f I.row, decide_eq_true hsum⟩
  obtain ⟨r, pr, r1, r2⟩ := pmin_T (l := rows.filter fun R => decide (wsum (wt ws) R = top)) (m := m2) (fun z => by rw [z] at ff; cases ff)
  have hrf : r = f := by
    obtain ⟨q1, q2⟩ := List.mem_filter.mp r1
    have k1 := inv_least I (hrow r q1) (of_decide_eq_true q2)
    have k2 := r2 f ff
    exact List.le_antisymm (List.not_lt.mp k2) (List.not_lt.mp k1)
  rw [hrf] at pr
  have fl := row_len I.row
  have tb : top ≤ 56 := by
    rw [← hsum]
    have : (f.map (wt ws)).sum ≤ (f.map (wt ws)).length * 8 := Ld.sum_le_mul fun x hx => by
      obtain ⟨i, hi, rfl⟩ := List.mem_map.mp hx
      have hi' := I.row.lt i hi
      have := getD_some (l := ws) (by rw [hw]; exact hi')
      exact h8 _ (List.mem_of_getElem? this)
    rw [List.length_map] at this
    unfold wsum
    omega
  have sh2 : Sh 2000 2 (.tuple [.int ((top : Nat) : Int), encT f]) := by
    have s1 : Sh 81 0 (.int ((top : Nat) : Int)) := Sh.int (by omega)
    have s2 : Sh 1000 1 (encT f) := (Sh.tup (sh_encI fun a ha => by have := I.row.lt a ha; omega)).up (by omega) (by decide)
    exact (Sh.tup (ShA.cons s1 (ShA.cons s2 ShA.nil))).up (by decide) (by decide)
  have z3 := sh2.repr (m := m2) (by decide) (by decide)
  have z4 := pEq_shown (m := m2) sh2.sm
  refine ⟨.lst (encI (grd sp H)), .lst (encZ es), ?_⟩
  rw [hm1, hm2]
  simp only [tlS, ev_seq, ev_asg, ev_par, ev_if, ev_ret, ev_retN, ev_expr, ev_bin, ev_un, ev_ap, ev_cons, ev_nil, ev_varS, ev_var0, ev_c, ob_some, ev_gNm, ev_tOf, ev_asB, ev_asI, ev_tNot, ev_tAnd, ev_tOr, ev_eOf, ev_eIf, ev_chain, List.set_cons_succ, List.set_cons_zero, ev_then_nx, ev_then_rt, ev_next, ev_pTup, ev_valsC, ev_vals0, ev_eL, ev_bm, ev_aug, pix_t, pix_l, pixq0, pixq1, atI_0, atI_1, atI_2, pp_ii, ps_ii, pa_ii, plt_ii, ple_ii, pgt_ii, pge_ii, peq_ii, pne_ii, pneg_i, List.length_cons, List.length_nil, Nat.reduceAdd, Nat.reduceSub, Nat.reduceLeDiff, sz, if_true, Bool.false_eq_true, if_false, Bool.not_true, Bool.not_false, leave_v, List.take_length, plen_t, plen_l, ptup_l, ptup_t, pint_i, pis_n, pis_i, pis_t, pisnt_n, pisnt_i, pisnt_t, Int.cast_ofNat_Int, ne_eq, not_true_eq_false, not_false_eq_true, decide_true, decide_false, List.length_map, ev_nLst, ev_for, it_rg1, rgn, run_iL, hrows]
  simp only [ev_asg, ev_par, ev_if, ev_ret, ev_retN, ev_expr, ev_bin, ev_un, ev_ap, ev_cons, ev_nil, ev_varS, ev_var0, ev_c, ob_some, ev_gNm, ev_tOf, ev_asB, ev_asI, ev_tNot, ev_tAnd, ev_tOr, ev_eOf, ev_eIf, ev_chain, List.set_cons_succ, List.set_cons_zero, ev_then_nx, ev_then_rt, ev_next, ev_pTup, ev_valsC, ev_vals0, ev_eL, ev_bm, ev_aug, pix_t, pix_l, pixq0, pixq1, atI_0, atI_1, atI_2, pp_ii, ps_ii, pa_ii, plt_ii, ple_ii, pgt_ii, pge_ii, peq_ii, pne_ii, pneg_i, List.length_cons, List.length_nil, Nat.reduceAdd, Nat.reduceSub, Nat.reduceLeDiff, sz, if_true, Bool.false_eq_true, if_false, Bool.not_true, Bool.not_false, leave_v, List.take_length, plen_t, plen_l, ptup_l, ptup_t, pint_i, pis_n, pis_i, pis_t, pisnt_n, pisnt_i, pisnt_t, Int.cast_ofNat_Int, ne_eq, not_true_eq_false, not_false_eq_true, decide_true, decide_false, ev_seq, ev_nLst, ev_for, ev_eNew, it_an, ev_sortKR, bds1, rgOk0 (show sp.length ≤ 1000000 by omega)]
  rw [ss]
  simp only [ev_asg, ev_par, ev_if, ev_ret, ev_retN, ev_expr, ev_bin, ev_un, ev_ap, ev_cons, ev_nil, ev_varS, ev_var0, ev_c, ob_some, ev_gNm, ev_tOf, ev_asB, ev_asI, ev_tNot, ev_tAnd, ev_tOr, ev_eOf, ev_eIf, ev_chain, List.set_cons_succ, List.set_cons_zero, ev_then_nx, ev_then_rt, ev_next, ev_pTup, ev_valsC, ev_vals0, ev_eL, ev_bm, ev_aug, pix_t, pix_l, pixq0, pixq1, atI_0, atI_1, atI_2, pp_ii, ps_ii, pa_ii, plt_ii, ple_ii, pgt_ii, pge_ii, peq_ii, pne_ii, pneg_i, List.length_cons, List.length_nil, Nat.reduceAdd, Nat.reduceSub, Nat.reduceLeDiff, sz, if_true, Bool.false_eq_true, if_false, Bool.not_true, Bool.not_false, leave_v, List.take_length, plen_t, plen_l, ptup_l, ptup_t, pint_i, pis_n, pis_i, pis_t, pisnt_n, pisnt_i, pisnt_t, Int.cast_ofNat_Int, ne_eq, not_true_eq_false, not_false_eq_true, decide_true, decide_false, an1_l, run_iL, htk, c1, ps, eT, z1, z2, pl1, ev_comp, it_an, runC_iL lr, wipeE, List.foldl, hc9, pm1, n1, it_rg2, dr, runC_iL dl, dc, dm, so, hen, fw, pl2, n2, hc17, pm2, hc20, pr, mw, z3, z4, ev_eNew, ev_nLst, ev_for, ev_seq]
end
end L36

set_option Elab.async false
set_option linter.all false
set_option maxRecDepth 100000
namespace L36
open PySem PySem.Spec PyProof.Rows L2 Ev Qa Sp
section
variable {m rest : M}
theorem spans_true (h : Bx rest m) : ∃ m', m__law_spans [.ref 0] m = some (.val (.bool true), m') := by
  have h0 : Bx (rest ++ [.lst (([] : List Sn).map encS), .lst (encI [])]) (m ++ [.lst [], .lst []]) := by
    obtain ⟨a, b, rfl, h⟩ := h
    exact ⟨a, b, rfl, h⟩
  have ml : m.length = rest.length + 1 := by
    obtain ⟨a, b, rfl, h⟩ := h
    rfl
  obtain ⟨d, m1, a1, a2, a3⟩ := drawN h0 (k := 7) (by decide) (by decide)
  have a1' : m__law_draw [.ref 0, .val (.int 7)] (m ++ [.lst [], .lst []]) = some (.val (.int (d : Int)), m1) := a1
  obtain ⟨sp, ws, e3, e4, m2, q1, q2, q3, q4, q5, q6⟩ := spans_draw (t := [none, none, none, none, none, none, none, none, none, none, none, none, none]) (List.range (d + 1)) [] [] m1 none none a3 (by simp; omega) rfl (fun s hs => (by cases hs)) (fun w hw => (by cases hw))
  rw [List.length_range] at q3
  have H : Sps sp := ⟨by simp at q3; omega, by simp at q3; omega, q5⟩
  obtain ⟨x, y, t⟩ := tail_ok (m := m2) H q4 q6 (e0 := some (.ref 0)) (e3 := e3) (e4 := e4)
  have e1 : (1 : Int) + (d : Int) = ((d + 1 : Nat) : Int) := by omega
  have rg := rg1_nat (m := m1) (n := d + 1) (by omega)
  obtain ⟨g1, g2⟩ := bx_get q2
  have p1 := ptup_r g1
  have p2 := ptup_r g2
  have eT : PyData.tuple (encI ws) = encT ws := rfl
  rw [eT] at p2
  have pg : ∀ (a b : R) (env : Sl), setAll [1, 2] [a, b] env = some ((env.set 1 (some a)).set 2 (some b)) := fun _ _ _ => rfl
  refine ⟨(m2 ++ [x] ++ [y]).take m.length, ?_⟩
  simp only [m__law_spans, bodyF, List.length_cons, List.length_nil, Nat.reduceAdd, Nat.reduceSub, List.map_cons, List.map_nil, List.replicate, List.cons_append, List.nil_append, List.append_nil]
  rw [spans_cut]
  simp only [ev_seq, ev_asg, ev_par, ev_if, ev_ret, ev_retN, ev_expr, ev_bin, ev_un, ev_ap, ev_cons, ev_nil, ev_varS, ev_var0, ev_c, ob_some, ev_gNm, ev_tOf, ev_asB, ev_asI, ev_tNot, ev_tAnd, ev_tOr, ev_eOf, ev_eIf, ev_chain, List.set_cons_succ, List.set_cons_zero, ev_then_nx, ev_then_rt, ev_next, ev_pTup, ev_valsC, ev_vals0, ev_eL, ev_bm, ev_aug, pix_t, pix_l, pixq0, pixq1, atI_0, atI_1, atI_2, pp_ii, ps_ii, pa_ii, plt_ii, ple_ii, pgt_ii, pge_ii, peq_ii, pne_ii, pneg_i, List.length_cons, List.length_nil, Nat.reduceAdd, Nat.reduceSub, Nat.reduceLeDiff, sz, if_true, Bool.false_eq_true, if_false, Bool.not_true, Bool.not_false, leave_v, List.take_length, plen_t, plen_l, ptup_l, ptup_t, pint_i, pis_n, pis_i, pis_t, pisnt_n, pisnt_i, pisnt_t, Int.cast_ofNat_Int, ne_eq, not_true_eq_false, not_false_eq_true, decide_true, decide_false, ev_parG, ev_eNew, ev_nLst, l1, List.append_assoc, List.cons_append, List.nil_append, pg, ev_for, it_rg1, a1', e1, rg, run_iL, ml, q1, p1, p2]
  rw [List.append_assoc] at t
  simp only [List.cons_append, List.nil_append] at t
  rw [t]
  simp only [ev_asg, ev_par, ev_if, ev_ret, ev_retN, ev_expr, ev_bin, ev_un, ev_ap, ev_cons, ev_nil, ev_varS, ev_var0, ev_c, ob_some, ev_gNm, ev_tOf, ev_asB, ev_asI, ev_tNot, ev_tAnd, ev_tOr, ev_eOf, ev_eIf, ev_chain, List.set_cons_succ, List.set_cons_zero, ev_then_nx, ev_then_rt, ev_next, ev_pTup, ev_valsC, ev_vals0, ev_eL, ev_bm, ev_aug, pix_t, pix_l, pixq0, pixq1, atI_0, atI_1, atI_2, pp_ii, ps_ii, pa_ii, plt_ii, ple_ii, pgt_ii, pge_ii, peq_ii, pne_ii, pneg_i, List.length_cons, List.length_nil, Nat.reduceAdd, Nat.reduceSub, Nat.reduceLeDiff, sz, if_true, Bool.false_eq_true, if_false, Bool.not_true, Bool.not_false, leave_v, List.take_length, plen_t, plen_l, ptup_l, ptup_t, pint_i, pis_n, pis_i, pis_t, pisnt_n, pisnt_i, pisnt_t, Int.cast_ofNat_Int, ne_eq, not_true_eq_false, not_false_eq_true, decide_true, decide_false]
end
theorem law_true (ns : List Int) (_ : ns.length ≤ 63) : ∃ m, m_law [.val (.list (ns.map .int))] [] = some (.val (.bool true), m) := by
  obtain ⟨c, hc⟩ : ∃ c : Int, m__law_cell [.val (.list (ns.map .int)), .val (.int 0)] [] = some (.val (.int c), []) := by
    by_cases h : 0 < ns.length
    · obtain ⟨a, l, rfl⟩ : ∃ a l, ns = a :: l := by
        cases ns with
        | nil => simp at h
        | cons a l => exact ⟨a, l, rfl⟩
      refine ⟨a, ?_⟩
      have h2 : (0 : Int) < (((a :: l).length : Nat) : Int) := by omega
      simp only [m__law_cell, bodyF, b__law_cell]
      simp
    · refine ⟨0, ?_⟩
      have : ns = [] := by
        cases ns with
        | nil => rfl
        | cons a l => simp at h
      subst this
      simp [m__law_cell, bodyF, b__law_cell]
  have hs : ∃ m, m__law_stream [.val (.list (ns.map .int)), .val (.int 0)] [] = some (.ref 0, m) ∧ Bx [] m := by
    have e : ∀ i : Int, pMod (.val (.int i)) (.val (.int 1000003)) [] = some (.val (.int (i % 1000003)), []) := fun i => pmd_ii (by decide)
    refine ⟨[Ob.lst [.int (if c < 0 then -c else c), .int ((if c < 0 then -c else c) % 1000003 + 7)]], ?_, ⟨_, _, rfl, ?_, ?_, ?_⟩⟩
    · simp [m__law_stream, bodyK, b__law_stream, hc, e]
    · split <;> omega
    · have := Int.emod_nonneg (if c < 0 then -c else c) (show (1000003 : Int) ≠ 0 by decide)
      omega
    · have := Int.emod_lt_of_pos (if c < 0 then -c else c) (show (0 : Int) < 1000003 by decide)
      omega
  obtain ⟨m, hs, hB⟩ := hs
  obtain ⟨m1, t1, h1⟩ := loads_true hB
  obtain ⟨m2, t2⟩ := spans_true h1
  refine ⟨[], ?_⟩
  simp [m_law, bodyF, b_law, hs, t1, t2]
end L36

open PySem PySem.W PyProof.Rows in
set_option maxRecDepth 100000 in
set_option maxHeartbeats 0 in
theorem PySem.Challenge.cw_allnights_k36_whole_loads_and_spans_holds : PySem.Challenge.rw_allnights_k36_whole_loads_and_spans.Holds := by
  w_on; o_law; k_head; (case hw => w_witness2)
  k_fill
  refine Ev.law_end (l := PySem.Challenge.rw_allnights_k36_whole_loads_and_spans) (k := 15) (F := L36.m_law) (x := "script") rfl rfl ⟨rfl, by decide, by decide⟩ ?F L36.law_true
  case F =>
    intro w mg fa h Y G hmg
    have KX := PySem.W.km_in_of Y
    have hT := PySem.W.km_tabs_of Y
    refine' L36.fin KX hmg (Ev.hasCode KX G (fun _ _ _ _ _ _ us hl => match us, hl with | [_, _, _], _ => rfl) ?a_most_from ?l_most_from ?c_most_from ?nf_most_from ?nc_most_from) ?lc_most_from ?hp_most_from ?hd_most_from ?tT_most_from (Ev.hasCode KX G (fun _ _ _ _ _ _ us hl => match us, hl with | [_], _ => rfl) ?a_most_apart ?l_most_apart ?c_most_apart ?nf_most_apart ?nc_most_apart) ?lc_most_apart ?hp_most_apart ?hd_most_apart ?tT_most_apart (Ev.hasCode KX G (fun _ _ _ _ _ _ us hl => match us, hl with | [_], _ => rfl) ?a__law_spans ?l__law_spans ?c__law_spans ?nf__law_spans ?nc__law_spans) ?lc__law_spans ?hp__law_spans ?hd__law_spans ?tT__law_spans ?nd ?d__law_cell ?d__law_stream ?d__law_turn ?d__law_least ?d__law_lowest ?d__law_draw ?d__law_more ?d_is_integer ?d_is_between ?d_check_jobs_on ?d_least_load ?d_in_turn ?d_common ?d_fraction ?d_least_parted ?d__law_loads ?d_span_holds ?d_check_spans ?d_fewest_telescopes ?d_are_apart ?d_most_worth_apart ?d__law_meet ?d_law ?k_MOST_JOBS ?k_MOST_LONG ?k_MOST_NUMBER ?k_MOST_SPANS ?k_MOST_TELESCOPES ?z_abs ?z_all ?z_any ?z_bool ?z_int ?z_isinstance ?z_len ?z_list ?z_max ?z_min ?z_range ?z_repr ?z_sorted ?z_sum ?z_tuple
    (case a_most_from => k_is)
    (case l_most_from => k_is)
    (case c_most_from => k_is)
    (case lc_most_from => k_is)
    (case hp_most_from => rfl)
    (case hd_most_from => kernel_rfl)
    (case tT_most_from => exact hT _ (by decide))
    (case a_most_apart => k_is)
    (case l_most_apart => k_is)
    (case c_most_apart => k_is)
    (case lc_most_apart => k_is)
    (case hp_most_apart => rfl)
    (case hd_most_apart => kernel_rfl)
    (case tT_most_apart => exact hT _ (by decide))
    (case a__law_spans => k_is)
    (case l__law_spans => k_is)
    (case c__law_spans => k_is)
    (case lc__law_spans => k_is)
    (case hp__law_spans => rfl)
    (case hd__law_spans => kernel_rfl)
    (case tT__law_spans => exact hT _ (by decide))
    (case nf_most_from => rfl)
    (case nc_most_from => rfl)
    (case nf_most_apart => rfl)
    (case nc_most_apart => rfl)
    (case nf__law_spans => rfl)
    (case nc__law_spans => rfl)
    (case nd => decide)
    case d__law_cell =>
      refine' Ev.HasCode.def_ (Ev.hasCode KX G (fun _ _ _ _ _ _ us hl => match us, hl with | [_, _], _ => rfl) ?a ?l ?c ?nf ?nc)
      (case a => k_is)
      (case l => k_is)
      (case c => k_is)
      (case nf => rfl)
      (case nc => rfl)
    case d__law_stream =>
      refine' Ev.HasCode.def_ (Ev.hasCode KX G (fun _ _ _ _ _ _ us hl => match us, hl with | [_, _], _ => rfl) ?a ?l ?c ?nf ?nc)
      (case a => k_is)
      (case l => k_is)
      (case c => k_is)
      (case nf => rfl)
      (case nc => rfl)
    case d__law_turn =>
      refine' Ev.HasCode.def_ (Ev.hasCode KX G (fun _ _ _ _ _ _ us hl => match us, hl with | [_, _], _ => rfl) ?a ?l ?c ?nf ?nc)
      (case a => k_is)
      (case l => k_is)
      (case c => k_is)
      (case nf => rfl)
      (case nc => rfl)
    case d__law_least =>
      refine' Ev.HasCode.def_ (Ev.hasCode KX G (fun _ _ _ _ _ _ us hl => match us, hl with | [_, _], _ => rfl) ?a ?l ?c ?nf ?nc)
      (case a => k_is)
      (case l => k_is)
      (case c => k_is)
      (case nf => rfl)
      (case nc => rfl)
    case d__law_lowest =>
      refine' Ev.HasCode.def_ (Ev.hasCode KX G (fun _ _ _ _ _ _ us hl => match us, hl with | [_, _], _ => rfl) ?a ?l ?c ?nf ?nc)
      (case a => k_is)
      (case l => k_is)
      (case c => k_is)
      (case nf => rfl)
      (case nc => rfl)
    case d__law_draw =>
      refine' Ev.HasCode.def_ (Ev.hasCode KX G (fun _ _ _ _ _ _ us hl => match us, hl with | [_, _], _ => rfl) ?a ?l ?c ?nf ?nc)
      (case a => k_is)
      (case l => k_is)
      (case c => k_is)
      (case nf => rfl)
      (case nc => rfl)
    case d__law_more =>
      refine' Ev.HasCode.def_ (Ev.hasCode KX G (fun _ _ _ _ _ _ us hl => match us, hl with | [_, _], _ => rfl) ?a ?l ?c ?nf ?nc)
      (case a => k_is)
      (case l => k_is)
      (case c => k_is)
      (case nf => rfl)
      (case nc => rfl)
    case d_is_integer =>
      refine' Ev.HasCode.def_ (Ev.hasCode KX G (fun _ _ _ _ _ _ us hl => match us, hl with | [_], _ => rfl) ?a ?l ?c ?nf ?nc)
      (case a => k_is)
      (case l => k_is)
      (case c => k_is)
      (case nf => rfl)
      (case nc => rfl)
    case d_is_between =>
      refine' Ev.HasCode.def_ (Ev.hasCode KX G (fun _ _ _ _ _ _ us hl => match us, hl with | [_, _, _], _ => rfl) ?a ?l ?c ?nf ?nc)
      (case a => k_is)
      (case l => k_is)
      (case c => k_is)
      (case nf => rfl)
      (case nc => rfl)
    case d_check_jobs_on =>
      refine' Ev.HasCode.def_ (Ev.hasCode KX G (fun _ _ _ _ _ _ us hl => match us, hl with | [_, _], _ => rfl) ?a ?l ?c ?nf ?nc)
      (case a => k_is)
      (case l => k_is)
      (case c => k_is)
      (case nf => rfl)
      (case nc => rfl)
    case d_least_load =>
      refine' Ev.HasCode.def_ (Ev.hasCode KX G (fun _ _ _ _ _ _ us hl => match us, hl with | [_, _], _ => rfl) ?a ?l ?c ?nf ?nc)
      (case a => k_is)
      (case l => k_is)
      (case c => k_is)
      (case nf => rfl)
      (case nc => rfl)
    case d_in_turn =>
      refine' Ev.HasCode.def_ (Ev.hasCode KX G (fun _ _ _ _ _ _ us hl => match us, hl with | [_, _], _ => rfl) ?a ?l ?c ?nf ?nc)
      (case a => k_is)
      (case l => k_is)
      (case c => k_is)
      (case nf => rfl)
      (case nc => rfl)
    case d_common =>
      refine' Ev.HasCode.def_ (Ev.hasCode KX G (fun _ _ _ _ _ _ us hl => match us, hl with | [_, _], _ => rfl) ?a ?l ?c ?nf ?nc)
      (case a => k_is)
      (case l => k_is)
      (case c => k_is)
      (case nf => rfl)
      (case nc => rfl)
    case d_fraction =>
      refine' Ev.HasCode.def_ (Ev.hasCode KX G (fun _ _ _ _ _ _ us hl => match us, hl with | [_, _], _ => rfl) ?a ?l ?c ?nf ?nc)
      (case a => k_is)
      (case l => k_is)
      (case c => k_is)
      (case nf => rfl)
      (case nc => rfl)
    case d_least_parted =>
      refine' Ev.HasCode.def_ (Ev.hasCode KX G (fun _ _ _ _ _ _ us hl => match us, hl with | [_, _], _ => rfl) ?a ?l ?c ?nf ?nc)
      (case a => k_is)
      (case l => k_is)
      (case c => k_is)
      (case nf => rfl)
      (case nc => rfl)
    case d__law_loads =>
      refine' Ev.HasCode.def_ (Ev.hasCode KX G (fun _ _ _ _ _ _ us hl => match us, hl with | [_], _ => rfl) ?a ?l ?c ?nf ?nc)
      (case a => k_is)
      (case l => k_is)
      (case c => k_is)
      (case nf => rfl)
      (case nc => rfl)
    case d_span_holds =>
      refine' Ev.HasCode.def_ (Ev.hasCode KX G (fun _ _ _ _ _ _ us hl => match us, hl with | [_], _ => rfl) ?a ?l ?c ?nf ?nc)
      (case a => k_is)
      (case l => k_is)
      (case c => k_is)
      (case nf => rfl)
      (case nc => rfl)
    case d_check_spans =>
      refine' Ev.HasCode.def_ (Ev.hasCode KX G (fun _ _ _ _ _ _ us hl => match us, hl with | [_], _ => rfl) ?a ?l ?c ?nf ?nc)
      (case a => k_is)
      (case l => k_is)
      (case c => k_is)
      (case nf => rfl)
      (case nc => rfl)
    case d_fewest_telescopes =>
      refine' Ev.HasCode.def_ (Ev.hasCode KX G (fun _ _ _ _ _ _ us hl => match us, hl with | [_], _ => rfl) ?a ?l ?c ?nf ?nc)
      (case a => k_is)
      (case l => k_is)
      (case c => k_is)
      (case nf => rfl)
      (case nc => rfl)
    case d_are_apart =>
      refine' Ev.HasCode.def_ (Ev.hasCode KX G (fun _ _ _ _ _ _ us hl => match us, hl with | [_, _], _ => rfl) ?a ?l ?c ?nf ?nc)
      (case a => k_is)
      (case l => k_is)
      (case c => k_is)
      (case nf => rfl)
      (case nc => rfl)
    case d_most_worth_apart =>
      refine' Ev.HasCode.def_ (Ev.hasCode KX G (fun _ _ _ _ _ _ us hl => match us, hl with | [_, _], _ => rfl) ?a ?l ?c ?nf ?nc)
      (case a => k_is)
      (case l => k_is)
      (case c => k_is)
      (case nf => rfl)
      (case nc => rfl)
    case d__law_meet =>
      refine' Ev.HasCode.def_ (Ev.hasCode KX G (fun _ _ _ _ _ _ us hl => match us, hl with | [_, _], _ => rfl) ?a ?l ?c ?nf ?nc)
      (case a => k_is)
      (case l => k_is)
      (case c => k_is)
      (case nf => rfl)
      (case nc => rfl)
    case d_law =>
      refine' Ev.HasCode.def_ (Ev.hasCode KX G (fun _ _ _ _ _ _ us hl => match us, hl with | [_], _ => rfl) ?a ?l ?c ?nf ?nc)
      (case a => k_is)
      (case l => k_is)
      (case c => k_is)
      (case nf => rfl)
      (case nc => rfl)
    case k_MOST_JOBS =>
      refine' Ev.cst_ KX G ?a ?e
      (case a => k_is)
      (case e => exact ⟨_, rfl⟩)
    case k_MOST_LONG =>
      refine' Ev.cst_ KX G ?a ?e
      (case a => k_is)
      (case e => exact ⟨_, rfl⟩)
    case k_MOST_NUMBER =>
      refine' Ev.cst_ KX G ?a ?e
      (case a => k_is)
      (case e => exact ⟨_, rfl⟩)
    case k_MOST_SPANS =>
      refine' Ev.cst_ KX G ?a ?e
      (case a => k_is)
      (case e => exact ⟨_, rfl⟩)
    case k_MOST_TELESCOPES =>
      refine' Ev.cst_ KX G ?a ?e
      (case a => k_is)
      (case e => exact ⟨_, rfl⟩)
    case z_abs =>
      refine' PySem.W.mg_none_of KX G ?a
      (case a => k_is)
    case z_all =>
      refine' PySem.W.mg_none_of KX G ?a
      (case a => k_is)
    case z_any =>
      refine' PySem.W.mg_none_of KX G ?a
      (case a => k_is)
    case z_bool =>
      refine' PySem.W.mg_none_of KX G ?a
      (case a => k_is)
    case z_int =>
      refine' PySem.W.mg_none_of KX G ?a
      (case a => k_is)
    case z_isinstance =>
      refine' PySem.W.mg_none_of KX G ?a
      (case a => k_is)
    case z_len =>
      refine' PySem.W.mg_none_of KX G ?a
      (case a => k_is)
    case z_list =>
      refine' PySem.W.mg_none_of KX G ?a
      (case a => k_is)
    case z_max =>
      refine' PySem.W.mg_none_of KX G ?a
      (case a => k_is)
    case z_min =>
      refine' PySem.W.mg_none_of KX G ?a
      (case a => k_is)
    case z_range =>
      refine' PySem.W.mg_none_of KX G ?a
      (case a => k_is)
    case z_repr =>
      refine' PySem.W.mg_none_of KX G ?a
      (case a => k_is)
    case z_sorted =>
      refine' PySem.W.mg_none_of KX G ?a
      (case a => k_is)
    case z_sum =>
      refine' PySem.W.mg_none_of KX G ?a
      (case a => k_is)
    case z_tuple =>
      refine' PySem.W.mg_none_of KX G ?a
      (case a => k_is)
