import PyProof.Rows.All
import Wide.All
import OpenK.AllK
import Wide.FinOn
import HandS.ForMost
import HandS.Flow
import HandS.WideBits
import HandS.TupAny
import HandS.TupMul
import HandS.IsInst
import HandS.Lambda
import HandS.Nested
import KE.KDictKeyed
import HandS.Wide
import KE.DataMinMax
import PyProof.ReprRoads
import HandS.More
import HandS.SetFor
import HandS.Remove
import KE.GoesEnum
import HandS.Deep
import HandS.EndTab
import HandS.Style
import KE.SortKeyHeap
import HandS.Conv
import HandS.Sort
import HandS.Dict
import HandS.Iter
import HandS.TupLen
import HandS.WordsDict
import KE.KDictDisplayH
import PyProof.Rows.TupDisplay
import KE.KDictCopyH
import KE.KDictSum
import HandS.DictComp
import HandS.Comp
import HandS.Strs
import PySem.Challenge.RW_allnights_k35_whole_nearest_orders_and_c
set_option Elab.async false
set_option linter.all false
set_option maxRecDepth 100000
/-! New tuples, their objects told: no namespace of their own. -/
namespace Ev
open PySem PySem.Spec PyProof.Rows L2
/-- no tuple but one whose object is told -/
def plO : HO → Prop
  | .tup _ => False
  | .frz o (.tup _) => o.dict = none
  | _ => True
/-- the written part's tuples have no namespace either -/
def KT (K : PySem.W.Frag) : Prop := ∀ a o, K.lookup a = some o → o.cls = .type "tuple" → o.dict = none
def tupB (K : PySem.W.Frag) : Bool := K.all fun q => match q.2.cls with
  | .type "tuple" => q.2.dict.isNone
  | _ => true
theorem lookup_in {K : PySem.W.Frag} {a : Addr} {o : Obj} : K.lookup a = some o → (a, o) ∈ K := by
  induction K with
  | nil => intro h; cases h
  | cons q K ih =>
    obtain ⟨b, u⟩ := q
    intro h
    rw [List.lookup_cons] at h
    split at h
    · rename_i hb
      cases h
      rw [eq_of_beq hb]
      exact List.mem_cons_self
    · exact List.mem_cons_of_mem _ (ih h)
theorem kt_of {K : PySem.W.Frag} (h : tupB K = true) : KT K := fun a o e c => by
  have q := List.all_eq_true.mp h _ (lookup_in e)
  simp only [c] at q
  cases d : o.dict with
  | none => rfl
  | some x => rw [d] at q; cases q
section
variable {X : Cx} {pins : List (Addr × Obj)} {σ : L2.St} {H : Hp} {s : Shared}
/-- what follows of a new tuple -/
def NewT (H : Hp) (xs : List V) (Q : VK) : Prop := ∀ p o, H p = none → o.dict = none → Q (.ref p) (upd H p (.frz o (.tup xs)))
theorem newT_run {h' : Heap} {t' : Nat} {xs : List V} {us : List Value} {Q : VK} (I : Inv X pins σ H s) (k : ∀ b u, s.heap.get? b = some u → h'.get? b = some u) (hp : s.heap.objs.size ≤ h'.objs.size - 1) (hn : h'.get? (h'.objs.size - 1) = some { cls := .type "tuple", data := .seq us.toArray }) (z : xs.length ≤ sizeLine) (r : Vals xs us) (q : NewT H xs Q) :
    EP X pins σ Q (.ref (h'.objs.size - 1)) { s with heap := h', toks := t' } :=
  ⟨.ref _, _, I.laid (t' := t') k hp (o := .frz { cls := .type "tuple", data := .seq us.toArray } (.tup xs)) ⟨hn, z, us, r, ⟨_, hn, rfl, _, rfl⟩⟩, rfl, q _ _ (I.hok.fresh hp) rfl⟩
theorem newT_push {t' : Nat} {xs : List V} {us : List Value} {Q : VK} (I : Inv X pins σ H s) (z : xs.length ≤ sizeLine) (r : Vals xs us) (q : NewT H xs Q) :
    EP X pins σ Q (.ref s.heap.objs.size) { s with heap := s.heap.push { cls := .type "tuple", data := .seq us.toArray }, toks := t' } := by
  have := newT_run (t' := t') (h' := s.heap.push { cls := .type "tuple", data := .seq us.toArray }) I (fun b u e => Heap.get?_push_of_some _ e) (by rw [Heap.size_push]; exact Nat.le_refl _) (by rw [Heap.size_push]; exact Heap.get?_push_size _ rfl) z r q
  rw [Heap.size_push] at this
  exact this
end
section
variable {X : Cx} {es : List Expr} {t : TA} {pos : Pos}
def tTupF (t : TA) : TE := fun σ H Q => t σ H fun xs Ha => xs.length ≤ sizeLine ∧ NewT Ha xs Q
theorem pe_tupF {x1} (h : PA X es t) : PE X (.Tuple es x1 pos) (tTupF t) := ⟨fun pins s σ H Q I hq =>
  wpAny_Tuple_spliced (thn (h.run pos pins s σ H _ I hq) fun us s1 ⟨xs, Ha, I1, r, z, q⟩ => ⟨by rw [← r.length]; exact z, newT_push (t' := s1.toks) I1 z r q⟩)⟩
theorem op_catF : OpR X (binaryOp .Add) (fun x y H Q => ∃ a b xs ys, x = .ref a ∧ y = .ref b ∧ SqT X.K H a xs ∧ SqT X.K H b ys ∧ xs.length + ys.length ≤ sizeLine ∧
    (xs = [] → Q (.ref b) H) ∧ (xs ≠ [] → ys = [] → Q (.ref a) H) ∧ (xs ≠ [] → ys ≠ [] → NewT H (xs ++ ys) Q)) := by
  intro pins s σ H x y v u Q I rx ry h
  obtain ⟨a, b, xs, ys, rfl, rfl, ha, hb, hz, q0, q1, q2⟩ := h
  by_cases hx : xs = []
  · exact op_catA pins s σ H _ _ v u Q I rx ry ⟨a, b, xs, ys, rfl, rfl, ha, hb, hz, q0, q1, fun z => absurd hx z⟩
  · cases rx
    cases ry
    obtain ⟨l1, r1, p1, _⟩ := I.tuple ha
    obtain ⟨l2, r2, p2, _⟩ := I.tuple hb
    exact HT.cat_tup p1 p2 (fun z => hx (r1.nil_iff.mp z)) (fun z => ⟨.ref a, H, I, rfl, q1 hx (r2.nil_iff.mp z)⟩) (fun z => newT_push (t' := s.toks) I (by rw [List.length_append]; exact hz) (r1.append r2) (q2 hx fun w => z (r2.nil_iff.mpr w))) (by rw [← r1.length, ← r2.length]; exact hz)
theorem sl_tupF : SlR X (fun x lo hi H Q => ∃ a xs, x = .ref a ∧ SqT X.K H a xs ∧
    (HT.sIx xs.length 0 lo = 0 ∧ HT.sIx xs.length xs.length hi = xs.length → Q (.ref a) H) ∧ (¬ (HT.sIx xs.length 0 lo = 0 ∧ HT.sIx xs.length xs.length hi = xs.length) → NewT H (cutV xs lo hi) Q)) := by
  intro pins s σ H x v vl vu lo hi sl Q I rx hs pl pu h
  obtain ⟨a, xs, rfl, hx, q1, q2⟩ := h
  by_cases hw : HT.sIx xs.length 0 lo = 0 ∧ HT.sIx xs.length xs.length hi = xs.length
  · exact sl_tupA pins s σ H _ v vl vu lo hi sl Q I rx hs pl pu ⟨a, xs, rfl, hx, q1, fun z => absurd hw z⟩
  · cases rx
    obtain ⟨its, r, ht, hz⟩ := I.tuple hx
    have hl : its.toArray.size = xs.length := by rw [List.size_toArray]; exact r.length.symm
    refine ⟨"tuple", _, PyProof.Rows.slot_tuple_getitem.lookup, ht.typeIs, ?_⟩
    refine HT.getItem_tuple_cut ht hs pl pu (by rw [hl]; exact hw) ?_ (by rw [hl]; exact hz)
    rw [hl]
    exact newT_push (t' := s.toks) I (Nat.le_trans (cutV_length xs lo hi) hz) ((r.drop (HT.sIx xs.length 0 lo)).take (HT.sIx xs.length xs.length hi - HT.sIx xs.length 0 lo)) (q2 hw)
theorem call_tupF : CallR X (.type "tuple") (fun xs H Q => ∃ p ys, xs = [.ref p] ∧ ((SqL X.K H p ys ∧ NewT H ys Q) ∨ (SqT X.K H p ys ∧ Q (.ref p) H))) := by
  intro pins s σ H xs us Q I r h
  obtain ⟨p, ys, rfl, h⟩ := h
  rcases h with ⟨hq, q⟩ | h
  · obtain ⟨u, rfl, rx⟩ := vals1 r
    cases rx
    obtain ⟨its, r2, pl, hz⟩ := I.list hq
    have hl := r2.length
    refine call_tuple_list pl.isList (fun h' kp => ?_) (by simp only [List.size_toArray] <;> omega)
    have I1 : Inv X pins σ H { s with heap := h' } := I.kept (t' := s.toks) kp
    exact newT_push (t' := s.toks) I1 hz r2 q
  · exact call_tuple_of pins s σ H _ us Q I r ⟨p, ys, rfl, .inr h⟩
theorem op_repF : OpR X (binaryOp .Mult) (fun x y H Q => ∃ (l : Addr) (k : Int) (xs : List V), x = .ref l ∧ y = .int k ∧ SqT X.K H l xs ∧ xs ≠ [] ∧ 2 ≤ k ∧ k ≤ 1000 ∧ xs.length ≤ 1000 ∧ NewT H (List.replicate k.toNat xs).flatten Q) := by
  intro pins s σ H x y v u Q I rx ry h
  obtain ⟨l, k, xs, rfl, rfl, hT, hne, h1, h2, hz, q⟩ := h
  cases rx
  obtain ⟨t, rfl⟩ := ry
  obtain ⟨its, r, ⟨⟨cls, dd, data, sl⟩, ho, hc, n, hd⟩, hs⟩ := I.tuple hT
  simp only at hc hd
  subst hc hd
  have hle : its.length = xs.length := r.length.symm
  have hi : its.toArray.isEmpty = false := by
    cases its with
    | nil => exact absurd (List.eq_nil_of_length_eq_zero hle.symm) hne
    | cons a b => rfl
  have hs0 : its.toArray.size = xs.length := by rw [List.size_toArray, hle]
  have hm : ((its.toArray.size : Nat) : Int) * k ≤ 1000000 := by
    rw [hs0]
    have : ((xs.length : Nat) : Int) * k ≤ 1000 * k := Int.mul_le_mul_of_nonneg_right (by omega) (by omega)
    omega
  have km : k.toNat * xs.length ≤ 1000 * 1000 := Nat.mul_le_mul (by omega) hz
  have fl : (List.replicate k.toNat its).flatten.length ≤ sizeLine := by
    rw [PyProof.Rows.lm_len_rep_flat, hle, sizeLine_eq]
    omega
  have b0 : (decide (k < -(2 ^ 63)) || decide (k ≥ 2 ^ 63)) = false := by
    rw [decide_eq_false (by omega), decide_eq_false (by omega)] <;> rfl
  have b1 : (its.toArray.isEmpty || k == 1) = false := by
    rw [hi, Bool.false_or]
    exact beq_eq_false_iff_ne.mpr (by omega)
  have b2 : (decide (k ≤ 0) || its.toArray.isEmpty) = false := by
    rw [hi, Bool.or_false]
    exact decide_eq_false (by omega)
  have b4 : Builtin.Tuple.tupleTooMany (((its.toArray.size : Nat) : Int) * k) = false := by
    unfold Builtin.Tuple.tupleTooMany
    rw [sizeLine_eq]
    exact decide_eq_false (by omega)
  refine wpAny_binaryOp_repeat_ref (T := "tuple") (U := "int") (by decide) ⟨_, ho, rfl⟩ (fun s' => typeIs_int s' k t) noFill_tuple_mul F.fills_int_mul F.slot_int_rmul repeat_tuple F.slot_int_index.lookup
    (call_meets F.slot_int_rmul (typeIs_int s k t) F.entry_int_rmul (F.args_int_rmul_2 _ _) (int_rmul_tuple k t l its.toArray n dd sl)
      ⟨ho, rfl, ⟨_, ho, rfl⟩, call_meets F.slot_tuple_mul ⟨_, ho, rfl⟩ F.entry_tuple_mul (F.args_tuple_mul_2 _ _) (tuple_mulW l its.toArray n dd sl k t b0 b1 b2 (by omega) b4 (by rw [size_rep, List.size_toArray]; exact fl)) ⟨ho, ?_⟩⟩)
  rw [size_rep]
  exact newT_push (t' := s.toks) I (by rw [PyProof.Rows.lm_len_rep_flat, sizeLine_eq]; omega) (r.rep k.toNat) q
end
/-! enumerate of a list -/
section
def ItL (K : PySem.W.Frag) (a : Addr) : It :=
  ⟨fun i H => ∃ (xs : List V) (x : V), SqL K H a xs ∧ xs[i]? = some x, fun i H v Hb => ∃ T o x, v = .ref T ∧ H T = none ∧ o.dict = none ∧ Hb = upd H T (.frz o (.tup [.int (i : Nat), x])) ∧ ∀ xs, SqL K H a xs → xs[i]? = some x, fun i H => ∃ xs : List V, SqL K H a xs ∧ xs.length ≤ i⟩
theorem turn_enumL {P : Program} {w : World} {K : PySem.W.Frag} {elts : List Expr} {kk : Nat} {tpos : Pos} (a e it : Addr) :
    Turn P w K (.Tuple elts kk tpos) (ItL K a) [e, it] e (fun i h => (∃ old, IsEnum h e it ((i : Nat) : Int) old) ∧ h.IsListIter it a i ∧ e ≠ it) where
  mem := List.mem_cons_self
  obj := by
    rintro i h ⟨⟨old, he⟩, ⟨o, ho, hc, hd⟩, _⟩ b hb
    rcases List.mem_cons.mp hb with rfl | hb
    · exact ⟨_, he, fun v q => nomatch q⟩
    · obtain rfl := List.mem_singleton.mp hb
      exact ⟨o, ho, fun v q => by rw [hd] at q; cases q⟩
  keep := by
    rintro i h h' ⟨⟨old, he⟩, hi, hne⟩ k
    exact ⟨⟨old, k e List.mem_cons_self _ he⟩, hi.at fun o q => k it (by simp) o q, hne⟩
  item := by
    rintro X rfl rfl rfl hc i pins s σ H E I hf ⟨⟨old, he⟩, hit, hne⟩ ⟨xs, x, hq, hx⟩
    obtain ⟨its, rv, p, hz⟩ := I.list hq
    obtain ⟨u, hu, ru⟩ := rv.get hx
    have le : e < s.heap.objs.size := Heap.lt_size he
    have li : it < s.heap.objs.size := by
      obtain ⟨_, q, _⟩ := hit
      exact Heap.lt_size q
    refine wpAny_pyNext_enum_item he hit p.isList (x := u) (by simpa using hu) hne fun h' ho hit' hT hsz hk => ?_
    refine ⟨_, rfl, wpAny_letOwnedTupleGo_enum (s := { s with heap := h', toks := s.toks + 1 }) ho fun hb2 he' sb => ?_⟩
    have hT2 : hb2.get? s.heap.objs.size = some { cls := .type "tuple", data := .seq #[.int i s.toks, u] } := (sb.2 _ (Nat.ne_of_gt le)).trans hT
    have new : ObjOk X.prog X.w (upd H s.heap.objs.size (.frz { cls := .type "tuple", data := .seq #[.int i s.toks, u] } (.tup [.int (i : Nat), x]))) hb2 s.heap.objs.size (.frz { cls := .type "tuple", data := .seq #[.int i s.toks, u] } (.tup [.int (i : Nat), x])) :=
      ⟨hT2, by show 2 ≤ sizeLine; decide, [.int i s.toks, u], .cons ⟨_, rfl⟩ (.cons ru .nil), ⟨_, hT2, rfl, _, rfl⟩⟩
    have I1 : Inv X pins σ (upd H s.heap.objs.size (.frz { cls := .type "tuple", data := .seq #[.int i s.toks, u] } (.tup [.int (i : Nat), x]))) { s with heap := hb2, toks := s.toks + 1 } :=
      I.turnedNew (ch := [e, it]) (fun b ob hb q => (sb.2 b (fun z => hb (by simp [z]))).trans (hk b ob (fun z => hb (by simp [z])) (fun z => hb (by simp [z])) q)) hf (Nat.le_refl _) new
    refine ⟨.ref s.heap.objs.size, _, I1, rfl, ⟨_, _, x, rfl, I.hok.fresh (Nat.le_refl _), rfl, rfl, fun ys hy => by rw [I.list_inj hy hq]; exact hx⟩, ⟨⟨u, ?_⟩, hit'.at fun o q => (sb.2 it (Ne.symm hne)).trans q, hne⟩, fun b hb => ?_⟩
    · rw [show ((i + 1 : Nat) : Int) = (i : Int) + 1 by omega]
      exact he'
    · have hb' : b < s.heap.objs.size := by
        rcases List.mem_cons.mp hb with rfl | hb
        · exact le
        · obtain rfl := List.mem_singleton.mp hb
          exact li
      rw [upd_ne (Nat.ne_of_lt hb')]
      exact (hf b hb).1
  done := by
    rintro X rfl rfl rfl hc i pins s σ H E I hf ⟨⟨old, he⟩, hit, hne⟩ ⟨xs, hq, hx⟩
    obtain ⟨its, rv, p, hz⟩ := I.list hq
    obtain ⟨f0, f1, f2, f3, f4, f5⟩ := hf it (by simp)
    have hl := rv.length
    exact wpAny_pyNext_enum_end (I.ok.hd hc) he hit p.isList (by simp; omega) fun h' eb => ⟨rfl, I.turned (t' := s.toks) (fun b o hb q => eb b o hb q) f0 f1 f3 f4 f5⟩
  self := fun A i s Q E st h => by
    obtain ⟨⟨_, he⟩, _⟩ := st
    exact wpAny_pyIter_enum he h
def iEnumF (K : PySem.W.Frag) (ta : TA) : TI := fun σ H R => ta σ H fun vs Ha => ∃ a xs, vs = [.ref a] ∧ SqL K Ha a xs ∧ R (ItL K a) Ha
theorem pi_enumF {X : Cx} {e : Expr} {ta : TA} {p pos tpos : Pos} {elts : List Expr} {kk : Nat} (hg : Gl X "enumerate") (hm : X.mg "enumerate" = none) (ha : PA X [e] ta) (hs : starEach [e] X.env = [(false, eval e X.env)] := by rfl) :
    PI X (.Tuple elts kk tpos) (.Call (.Name "enumerate" p) [e] [] pos) (iEnumF X.K ta) := ⟨fun pins s σ H R I h => by
  refine Call_ (ld_blt I hg hm boot_enumerate (PyProof.Rows.callWith_type1 (thn (ha.run pos pins s σ H _ I h)
    fun us s1 ⟨vs, Ha, I1, r1, a, xs, e0, hq, q⟩ => ?_) hs rfl))
  subst e0
  obtain ⟨u, rfl, r⟩ := vals1 r1
  cases r
  obtain ⟨its, rv, pl, hz⟩ := I1.list hq
  refine call_enumerate_list pl.isList fun h' he hit hsz hk => wpAny_pyIter_enum he ?_
  have I2 : Inv X pins σ Ha { s1 with heap := h' } := I1.kept (t' := s1.toks) hk
  refine ⟨s1.heap.objs.size + 1, [s1.heap.objs.size + 1, s1.heap.objs.size], _, _, Ha, rfl, I2, turn_enumL a (s1.heap.objs.size + 1) s1.heap.objs.size, ⟨⟨.none, he⟩, hit, Nat.succ_ne_self _⟩, fun b hb => ?_, q⟩
  have hle : s1.heap.objs.size ≤ b := by
    rcases List.mem_cons.mp hb with rfl | hb
    · exact Nat.le_add_right _ _
    · rw [List.mem_singleton.mp hb]
      exact Nat.le_refl _
  exact I1.fpOk hle (I1.hok.fresh hle)⟩
end
end Ev

set_option Elab.async false
set_option linter.all false
set_option maxRecDepth 100000
/-! Values as PyData, an abstract store of mutable lists, and readings made of pure functions. -/
namespace Ev
open PySem PySem.Spec PyProof.Rows L2

abbrev D := PyData
/-- a mutable object of the store -/
inductive Ob where
  | lst (l : List D)
  /-- a dict: t: its keys are tuples; lk: locked (walked by a loop) -/
  | dct (t lk : Bool) (kvs : List (D × D))
/-- a value: data that nobody changes, or an object of the store -/
inductive R where
  | val (d : D)
  | ref (i : Nat)
  /-- a tuple that holds objects of the store -/
  | tp (rs : List (D ⊕ Nat))
abbrev M := List Ob
abbrev Sl := List (Option R)

/-- the tables of code objects, with the name of what they tell -/
abbrev Tbs := List (Addr × Str)
/-- the addresses of the store's objects; those that are hidden (lists that comprehensions fill) -/
structure Ad where
  s : List Addr
  h : List Addr
  t : List (Addr × Str)
def Ad.all (φ : Ad) : List Addr := φ.s ++ φ.h
def Ad.add (φ : Ad) (p : Addr) : Ad := ⟨φ.s ++ [p], φ.h, φ.t⟩
def Ad.hide (φ : Ad) (p : Addr) : Ad := ⟨φ.s, p :: φ.h, φ.t⟩
theorem Ad.mem {φ : Ad} {a : Addr} : a ∈ φ.all ↔ a ∈ φ.s ∨ a ∈ φ.h := List.mem_append
/-- no table -/
def noT : Option HO → Option HO
  | some (.tbl _) => none
  | o => o
def isTb : HO → Bool
  | .tbl _ => true
  | _ => false
theorem noT_some {x : Option HO} {o : HO} : noT x = some o ↔ x = some o ∧ isTb o = false := by
  cases x with
  | none => exact ⟨fun z => (nomatch z), fun z => (nomatch z.1)⟩
  | some y =>
    cases y with
    | tbl ps => exact ⟨fun z => (nomatch z), fun z => by
        obtain ⟨z1, z2⟩ := z
        cases z1
        exact (nomatch z2)⟩
    | _ => exact ⟨fun z => ⟨z, by cases z; rfl⟩, fun z => z.1⟩
/-- the heap without the store's objects, the hidden ones and tables -/
def off (φ : Ad) (H : Hp) : Hp := fun a => if a ∈ φ.all then none else noT (H a)
theorem off_some {φ : Ad} {H : Hp} {a : Addr} {o : HO} : off φ H a = some o ↔ a ∉ φ.all ∧ H a = some o ∧ isTb o = false := by
  unfold off
  by_cases h : a ∈ φ.all
  · rw [if_pos h]
    exact Iff.intro (fun z => nomatch z) (fun z => absurd h z.1)
  · rw [if_neg h]
    exact Iff.intro (fun z => And.intro h (noT_some.mp z)) (fun z => noT_some.mpr z.2)
theorem sqT_mono {K : PySem.W.Frag} {H H' : Hp} {a : Addr} {xs : List V} (e : Same H H') (h : SqT K H a xs) : SqT K H' a xs := by
  rcases h with (h | ⟨o, h⟩) | h
  · exact Or.inl (Or.inl (e _ _ h))
  · exact Or.inl (Or.inr ⟨o, e _ _ h⟩)
  · exact Or.inr h
mutual
theorem dp_mono {K : PySem.W.Frag} {H H' : Hp} (e : Same H H') : ∀ {d : D} {v : V}, Dp K H v d → Dp K H' v d
  | _, _, .non => .non
  | _, _, .bl b => .bl b
  | _, _, .int i => .int i
  | _, _, .str x => .str x
  | _, _, .lst h ha => .lst (e.seq h) (dps_mono e ha)
  | _, _, .tup h ha => .tup (sqT_mono e h) (dps_mono e ha)
theorem dps_mono {K : PySem.W.Frag} {H H' : Hp} (e : Same H H') : ∀ {ds : List D} {vs : List V}, DpAll K H vs ds → DpAll K H' vs ds
  | _, _, .nil => .nil
  | _, _, .cons h t => .cons (dp_mono e h) (dps_mono e t)
end
theorem DpAll.len {K : PySem.W.Frag} {H : Hp} : ∀ {ds : List D} {vs : List V}, DpAll K H vs ds → vs.length = ds.length
  | _, _, .nil => rfl
  | _, _, .cons _ t => by
    rw [List.length_cons, List.length_cons, DpAll.len t]
theorem DpAll.append {K : PySem.W.Frag} {H : Hp} : ∀ {ds es : List D} {vs us : List V}, DpAll K H vs ds → DpAll K H us es → DpAll K H (vs ++ us) (ds ++ es)
  | _, _, _, _, .nil, h => h
  | _, _, _, _, .cons a t, h => .cons a (DpAll.append t h)
theorem DpAll.get {K : PySem.W.Frag} {H : Hp} : ∀ {ds : List D} {vs : List V} {i : Nat} {d : D}, DpAll K H vs ds → ds[i]? = some d → ∃ v, vs[i]? = some v ∧ Dp K H v d
  | _, _, _, _, .nil, e => by simp at e
  | _, _, 0, _, .cons (v := v) a t, e => by
    simp at e
    subst e
    exact ⟨v, rfl, a⟩
  | _, _, i + 1, _, .cons a t, e => by
    obtain ⟨v, h1, h2⟩ := DpAll.get (i := i) t (by simpa using e)
    exact ⟨v, by simpa using h1, h2⟩
theorem DpAll.get' {K : PySem.W.Frag} {H : Hp} : ∀ {ds : List D} {vs : List V} {i : Nat} {v : V}, DpAll K H vs ds → vs[i]? = some v → ∃ d, ds[i]? = some d ∧ Dp K H v d
  | _, _, _, _, .nil, e => by simp at e
  | _, _, 0, _, .cons (d := d) a t, e => by
    simp at e
    subst e
    exact ⟨d, rfl, a⟩
  | _, _, i + 1, _, .cons a t, e => by
    obtain ⟨v, h1, h2⟩ := DpAll.get' (i := i) t (by simpa using e)
    exact ⟨v, by simpa using h1, h2⟩
theorem DpAll.set {K : PySem.W.Frag} {H : Hp} {v : V} {d : D} (h : Dp K H v d) : ∀ {ds : List D} {vs : List V} (i : Nat), DpAll K H vs ds → DpAll K H (vs.set i v) (ds.set i d)
  | _, _, _, .nil => .nil
  | _, _, 0, .cons _ t => .cons h t
  | _, _, i + 1, .cons a t => .cons a (DpAll.set h i t)
theorem DpAll.take {K : PySem.W.Frag} {H : Hp} : ∀ {ds : List D} {vs : List V} (n : Nat), DpAll K H vs ds → DpAll K H (vs.take n) (ds.take n)
  | _, _, 0, _ => by simp; exact .nil
  | _, _, _ + 1, .nil => by simp; exact .nil
  | _, _, n + 1, .cons a t => by simp; exact .cons a (DpAll.take n t)
theorem DpAll.drop {K : PySem.W.Frag} {H : Hp} : ∀ {ds : List D} {vs : List V} (n : Nat), DpAll K H vs ds → DpAll K H (vs.drop n) (ds.drop n)
  | _, _, 0, h => by simpa using h
  | _, _, _ + 1, .nil => by simp; exact .nil
  | _, _, n + 1, .cons _ t => by simpa using DpAll.drop n t
theorem dpAll_ints {K : PySem.W.Frag} {H : Hp} : ∀ ns : List Int, DpAll K H (ns.map V.int) (ns.map PyData.int)
  | [] => .nil
  | n :: r => .cons (.int n) (dpAll_ints r)
theorem ints_of_dpAll {K : PySem.W.Frag} {H : Hp} : ∀ {ns : List Int} {vs : List V}, DpAll K H vs (ns.map PyData.int) → vs = ns.map V.int
  | [], _, h => by cases h; rfl
  | n :: r, _, h => by
    cases h with
    | cons a t =>
      cases a
      rw [ints_of_dpAll t]
      rfl

/-! ### keys of dicts -/
mutual
/-- keys that are tuples: of whole numbers, None, tuples of such -/
def keyN : D → Option NestedKey
  | .none => some .none
  | .int i => some (.num i)
  | .tuple ds => (keyNs ds).map .tup
  | _ => none
def keyNs : List D → Option (List NestedKey)
  | [] => some []
  | d :: ds => (keyN d).bind fun k => (keyNs ds).map fun ks => k :: ks
end
/-- keys that are whole numbers or texts -/
def keyK : D → Option Key
  | .int i => some (.inl i)
  | .str x => some (.inr x)
  | _ => none
/-- what stands at a dict of tuple keys (its entries' addresses known) -/
def XD (P : Program) (w : World) (a : Addr) (es : List (NestedKey × Addr × V)) : Heap → Prop := fun h => es.length ≤ sizeLine ∧ (a == sysModules) = false ∧ ∃ xs : List (NestedKey × Addr × Value),
  Paired (fun (p : NestedKey × Addr × V) (q : NestedKey × Addr × Value) => p.1 = q.1 ∧ p.2.1 = q.2.1 ∧ RelV p.2.2 q.2.2) es xs ∧
  ∃ o ea ep, h.get? a = some o ∧ o.ExactDict ∧ o.data = .dict ea ep ∧ ea.toList = xs.map (entryOfKey (nestedKind P w)) ∧ (xs.map (·.1)).Nodup
def lkd (lk : Bool) (u : HO) (x : Option HO) : Prop := match lk with
  | false => x = some u
  | true => ∃ o, x = some (.frz o u)
theorem lkd_mono {lk : Bool} {u : HO} {x y : Option HO} (k : ∀ v, x = some v → y = some v) (h : lkd lk u x) : lkd lk u y := by
  cases lk with
  | false => exact k _ h
  | true =>
    obtain ⟨o, h⟩ := h
    exact ⟨o, k _ h⟩
theorem lkd_here {lk : Bool} {u : HO} {x : Option HO} (h : lkd lk u x) : ∃ v, x = some v := by
  cases lk with
  | false => exact ⟨_, h⟩
  | true =>
    obtain ⟨o, h⟩ := h
    exact ⟨_, h⟩
abbrev KOk (K : PySem.W.Frag) (Ho : Hp) : List (Key × V) → List (D × D) → Prop := Paired fun p q => keyK q.1 = some p.1 ∧ Dp K Ho p.2 q.2
abbrev NOk (K : PySem.W.Frag) (Ho : Hp) : List (NestedKey × Addr × V) → List (D × D) → Prop := Paired fun p q => (keyN q.1 = some p.1 ∧ p.1.depth ≤ 8) ∧ Dp K Ho (.ref p.2.1) q.1 ∧ Dp K Ho p.2.2 q.2
/-- an object of the store at an address -/
def OR (K : PySem.W.Frag) (Ho H : Hp) (a : Addr) : Ob → Prop
  | .lst ds => ∃ xs, H a = some (.lst xs) ∧ DpAll K Ho xs ds
  | .dct false lk kvs => ∃ ks, lkd lk (.dK ks) (H a) ∧ KOk K Ho ks kvs
  | .dct true lk kvs => ∃ P w es, lkd lk (.ext (XD P w a es)) (H a) ∧ NOk K Ho es kvs
theorem OR.mono {K : PySem.W.Frag} {Ho Ho' H H' : Hp} {a : Addr} {o : Ob} (e : Same Ho Ho') (k : ∀ u, H a = some u → H' a = some u) (h : OR K Ho H a o) : OR K Ho' H' a o := by
  match o, h with
  | .lst ds, ⟨xs, h1, h2⟩ => exact ⟨xs, k _ h1, dps_mono e h2⟩
  | .dct false lk kvs, ⟨ks, h1, h2⟩ => exact ⟨ks, lkd_mono k h1, Paired.mapP h2 fun p q z => ⟨z.1, dp_mono e z.2⟩⟩
  | .dct true lk kvs, ⟨P, w, es, h1, h2⟩ => exact ⟨P, w, es, lkd_mono k h1, Paired.mapP h2 fun p q z => ⟨z.1, dp_mono e z.2.1, dp_mono e z.2.2⟩⟩
theorem OR.mono' {K : PySem.W.Frag} {Ho Ho' H H' : Hp} {a : Addr} {o : Ob} (h : OR K Ho H a o) (e : Same Ho Ho') (k : ∀ u, H a = some u → H' a = some u) : OR K Ho' H' a o := h.mono e k
theorem OR.here {K : PySem.W.Frag} {Ho H : Hp} {a : Addr} {o : Ob} (h : OR K Ho H a o) : ∃ u, H a = some u := by
  match o, h with
  | .lst ds, ⟨xs, h1, h2⟩ => exact ⟨_, h1⟩
  | .dct false lk kvs, ⟨ks, h1, h2⟩ => exact lkd_here h1
  | .dct true lk kvs, ⟨P, w, es, h1, h2⟩ => exact lkd_here h1

structure SR (ζ : Tbs) (K : PySem.W.Frag) (φ : Ad) (H : Hp) (m : M) : Prop where
  len : φ.s.length = m.length
  nd : φ.all.Nodup
  obj : ∀ (i : Nat) (o : Ob) (a : Addr), m[i]? = some o → φ.s[i]? = some a → OR K (off φ H) H a o
  hid : ∀ a ∈ φ.h, (∃ u, H a = some u ∧ isTb u = false) ∨ ∃ q, (a, q) ∈ φ.t
  teq : φ.t = ζ
  tin : ∀ p ∈ φ.t, p.1 ∈ φ.h
  tab : LamX.Tabs φ.t H
  pl : ∀ a u, H a = some u → plO u
  kt : KT K
structure Gr (φ : Ad) (H : Hp) (φ' : Ad) (H' : Hp) : Prop where
  pre : φ.s <+: φ'.s
  eqh : φ'.h = φ.h
  eqt : φ'.t = φ.t
  same : Same (off φ H) (off φ' H')
  stay : ∀ a ∈ φ.h, ∀ u, H a = some u → (∀ ps, u ≠ .tbl ps) → H' a = some u
  frz : ∀ a o u, H a = some (.frz o u) → H' a = some (.frz o u)
/-- growth that says nothing of the hidden ones -/
structure Gw (φ : Ad) (H : Hp) (φ' : Ad) (H' : Hp) : Prop where
  pre : φ.s <+: φ'.s
  same : Same (off φ H) (off φ' H')
  frz : ∀ a o u, H a = some (.frz o u) → H' a = some (.frz o u)
theorem Gr.w {φ φ' : Ad} {H H' : Hp} (g : Gr φ H φ' H') : Gw φ H φ' H' := ⟨g.pre, g.same, g.frz⟩
theorem Gw.trans {φ φ' φ2 : Ad} {H H' H2 : Hp} (a : Gw φ H φ' H') (b : Gw φ' H' φ2 H2) : Gw φ H φ2 H2 := ⟨a.pre.trans b.pre, a.same.trans b.same, fun c o u e => b.frz c o u (a.frz c o u e)⟩
def RI (K : PySem.W.Frag) (φ : Ad) (H : Hp) (v : V) : D ⊕ Nat → Prop
  | .inl d => Dp K (off φ H) v d
  | .inr i => ∃ a, v = .ref a ∧ φ.s[i]? = some a
def RR (K : PySem.W.Frag) (φ : Ad) (H : Hp) (v : V) : R → Prop
  | .val d => Dp K (off φ H) v d
  | .ref i => ∃ a, v = .ref a ∧ φ.s[i]? = some a
  | .tp rs => ∃ a vs, v = .ref a ∧ SqT K (off φ H) a vs ∧ Paired (RI K φ H) vs rs
abbrev RRs (K : PySem.W.Frag) (φ : Ad) (H : Hp) : List V → List R → Prop := Paired (RR K φ H)
structure ER (K : PySem.W.Frag) (φ : Ad) (H : Hp) (σ : L2.St) (env : Sl) : Prop where
  len : σ.length = env.length
  at_ : ∀ (i : Nat) (r : R), env[i]? = some (some r) → ∃ v, σ[i]? = some (some v) ∧ RR K φ H v r

section
variable {K : PySem.W.Frag} {φ φ' φ2 : Ad} {H H' H2 : Hp} {m m' : M} {σ : L2.St} {env : Sl} {v : V} {r : R}
theorem Gr.refl : Gr φ H φ H := ⟨List.prefix_refl _, rfl, rfl, fun _ _ h => h, fun _ _ _ h _ => h, fun _ _ _ h => h⟩
theorem Gr.trans (a : Gr φ H φ' H') (b : Gr φ' H' φ2 H2) : Gr φ H φ2 H2 := ⟨a.pre.trans b.pre, b.eqh.trans a.eqh, b.eqt.trans a.eqt, a.same.trans b.same, fun c hc u e n => b.stay c (by rw [a.eqh]; exact hc) u (a.stay c hc u e n) n, fun c o u e => b.frz c o u (a.frz c o u e)⟩
theorem prefix_get {α : Type} {l l' : List α} (h : l <+: l') {i : Nat} {x : α} (e : l[i]? = some x) : l'[i]? = some x := by
  obtain ⟨t, rfl⟩ := h
  rw [List.getElem?_append_left (List.getElem?_eq_some_iff.mp e).1]
  exact e
theorem RI.monoS (hp : φ.s <+: φ'.s) (hs : Same (off φ H) (off φ' H')) : ∀ {r : D ⊕ Nat} {v : V}, RI K φ H v r → RI K φ' H' v r
  | .inl _, _, h => dp_mono hs h
  | .inr _, _, ⟨a, e, h⟩ => ⟨a, e, prefix_get hp h⟩
theorem RR.monoS (hp : φ.s <+: φ'.s) (hs : Same (off φ H) (off φ' H')) : ∀ {r : R} {v : V}, RR K φ H v r → RR K φ' H' v r
  | .val _, _, h => dp_mono hs h
  | .ref _, _, ⟨a, e, h⟩ => ⟨a, e, prefix_get hp h⟩
  | .tp _, _, ⟨a, vs, e, h, t⟩ => ⟨a, vs, e, sqT_mono hs h, Paired.mapP t fun _ _ z => RI.monoS hp hs z⟩
theorem RR.monoW (g : Gw φ H φ' H') {r : R} {v : V} (h : RR K φ H v r) : RR K φ' H' v r := RR.monoS g.pre g.same h
theorem RR.mono (g : Gr φ H φ' H') {r : R} {v : V} (h : RR K φ H v r) : RR K φ' H' v r := h.monoW g.w
theorem RRs.mono (g : Gr φ H φ' H') : ∀ {rs : List R} {vs : List V}, RRs K φ H vs rs → RRs K φ' H' vs rs
  | _, _, .nil => .nil
  | _, _, .cons a t => .cons (RR.mono g a) (RRs.mono g t)
theorem ER.monoW (g : Gw φ H φ' H') (e : ER K φ H σ env) : ER K φ' H' σ env := ⟨e.len, fun i r h => by
  obtain ⟨v, h1, h2⟩ := e.at_ i r h
  exact ⟨v, h1, h2.monoW g⟩⟩
theorem ER.mono (g : Gr φ H φ' H') (e : ER K φ H σ env) : ER K φ' H' σ env := e.monoW g.w
theorem SR.in_ (s : SR ζ K φ H m) {a : Addr} (h : a ∈ φ.all) : ∃ u, H a = some u := by
  rcases Ad.mem.mp h with h | h
  · obtain ⟨i, hi, e⟩ := List.mem_iff_getElem.mp h
    have hm : i < m.length := by rw [← s.len]; exact hi
    exact (s.obj i m[i] a (List.getElem?_eq_getElem hm) (by rw [List.getElem?_eq_getElem hi, e])).here
  · rcases s.hid a h with ⟨u, e, _⟩ | ⟨q, e⟩
    · exact ⟨u, e⟩
    · obtain ⟨ps, e1, _⟩ := s.tab _ e
      exact ⟨_, e1⟩
theorem SR.new (s : SR ζ K φ H m) {p : Addr} (h : H p = none) : p ∉ φ.all := fun z => by
  obtain ⟨u, e⟩ := s.in_ z
  rw [h] at e
  cases e
theorem upd_stay {p b : Addr} {o u : HO} (h : H p = none) (e : H b = some u) : upd H p o b = some u := by
  rw [upd_ne (ne_of_none e h)]
  exact e
theorem gr_alloc {p : Addr} {o : HO} (h : H p = none) : Gr φ H φ (upd H p o) := ⟨List.prefix_refl _, rfl, rfl, fun b u e => by
  rw [off_some] at e ⊢
  exact ⟨e.1, upd_stay h e.2.1, e.2.2⟩, fun _ _ _ e _ => upd_stay h e, fun _ _ _ e => upd_stay h e⟩
theorem pl_upd {p : Addr} {o : HO} (h : ∀ a u, H a = some u → plO u) (ho : plO o) : ∀ a u, upd H p o a = some u → plO u := fun a u e => by
  by_cases z : a = p
  · subst z
    rw [upd_same] at e
    cases e
    exact ho
  · rw [upd_ne z] at e
    exact h a u e
theorem SR.alloc (s : SR ζ K φ H m) {p : Addr} {o : HO} (h : H p = none) (ho : plO o := by exact trivial) : SR ζ K φ (upd H p o) m := ⟨s.len, s.nd, fun i ob a e1 e2 =>
  (s.obj i ob a e1 e2).mono (gr_alloc h).same fun u z => upd_stay h z, fun a ha => by
    exact (s.hid a ha).imp (fun ⟨u, e, n⟩ => ⟨u, upd_stay h e, n⟩) id, s.teq, s.tin, s.tab.ext fun b u e => upd_stay h e, pl_upd s.pl ho, s.kt⟩
/-- the new object enters the store -/
theorem gr_enter {p : Addr} {o : HO} (h : H p = none) : Gr φ H (φ.add p) (upd H p o) := ⟨List.prefix_append _ _, rfl, rfl, fun b u e => by
  rw [off_some] at e ⊢
  have hb : b ≠ p := ne_of_none e.2.1 h
  refine ⟨fun z => ?_, upd_stay h e.2.1, e.2.2⟩
  rcases Ad.mem.mp z with z | z
  · rcases List.mem_append.mp z with z | z
    · exact e.1 (Ad.mem.mpr (.inl z))
    · simp at z
      exact hb z
  · exact e.1 (Ad.mem.mpr (.inr z)), fun _ _ _ e _ => upd_stay h e, fun _ _ _ e => upd_stay h e⟩
theorem nodup_add {p : Addr} (h : φ.all.Nodup) (np : p ∉ φ.all) : (φ.add p).all.Nodup := by
  unfold Ad.all Ad.add at *
  rw [List.append_assoc, List.nodup_append] at *
  obtain ⟨h1, h2, h3⟩ := h
  refine ⟨h1, ?_, fun a ha b hb => ?_⟩
  · show (p :: φ.h).Nodup
    exact List.nodup_cons.mpr ⟨fun z => np (List.mem_append_right _ z), h2⟩
  · rcases List.mem_cons.mp (show b ∈ p :: φ.h from hb) with e | e
    · subst e
      exact fun z => np (List.mem_append_left _ (z ▸ ha))
    · exact h3 a ha b e
theorem SR.enterO (s : SR ζ K φ H m) {p : Addr} {o : HO} {ob : Ob} (h : H p = none) (hd : OR K (off φ H) (upd H p o) p ob) (ho : plO o := by exact trivial) : SR ζ K (φ.add p) (upd H p o) (m ++ [ob]) := by
  have np := s.new h
  have g : Gr φ H (φ.add p) (upd H p o) := gr_enter h
  refine ⟨by unfold Ad.add; rw [List.length_append, List.length_append, s.len]; rfl, nodup_add s.nd np, fun i ob a e1 e2 => ?_, fun a ha => ?_, s.teq, s.tin, s.tab.ext fun b u e => upd_stay h e, pl_upd s.pl ho, s.kt⟩
  · unfold Ad.add at e2
    simp only at e2
    by_cases hi : i < m.length
    · rw [List.getElem?_append_left hi] at e1
      rw [List.getElem?_append_left (by rw [s.len]; exact hi)] at e2
      exact (s.obj i ob a e1 e2).mono g.same fun u z => upd_stay h z
    · have e : i = m.length := by
        have := (List.getElem?_eq_some_iff.mp e1).1
        rw [List.length_append] at this
        simp at this
        omega
      subst e
      rw [List.getElem?_append_right (Nat.le_refl _), Nat.sub_self] at e1
      rw [← s.len, List.getElem?_append_right (Nat.le_refl _), Nat.sub_self] at e2
      simp at e1 e2
      subst e1 e2
      exact hd.mono g.same fun u z => z
  · exact (s.hid a ha).imp (fun ⟨u, e, n⟩ => ⟨u, upd_stay h e, n⟩) id
theorem SR.enter (s : SR ζ K φ H m) {p : Addr} {xs : List V} {ds : List D} (h : H p = none) (hd : DpAll K (off φ H) xs ds) : SR ζ K (φ.add p) (upd H p (.lst xs)) (m ++ [.lst ds]) :=
  s.enterO h ⟨xs, upd_same, hd⟩
/-- an object of the store is changed -/
theorem nodup_at {α : Type} : ∀ {l : List α} {i j : Nat} {x : α}, l.Nodup → l[i]? = some x → l[j]? = some x → i = j := fun {l i j x} hn a b => by
  obtain ⟨h1, e1⟩ := List.getElem?_eq_some_iff.mp a
  obtain ⟨h2, e2⟩ := List.getElem?_eq_some_iff.mp b
  exact (List.getElem_inj hn).mp (e1.trans e2.symm)
theorem SR.nds (s : SR ζ K φ H m) : φ.s.Nodup := (List.nodup_append.mp s.nd).1
theorem SR.apart (s : SR ζ K φ H m) {a : Addr} (h : a ∈ φ.s) : a ∉ φ.h := fun z => (List.nodup_append.mp s.nd).2.2 a h a z rfl
/-- tables do not mind what is no table and no code object -/
theorem tabs_keep {T : List (Addr × Str)} {H H' : Hp} (t : LamX.Tabs T H) (e : ∀ b o, H b = some o → ((∃ ps, o = .tbl ps) ∨ ∃ q, o = LamX.CodeO b q) → H' b = some o) : LamX.Tabs T H' := fun p hp => by
  obtain ⟨ps, h1, h2, h3⟩ := t p hp
  refine ⟨ps, e _ _ h1 (.inl ⟨ps, rfl⟩), h2, fun pos cv hc => ?_⟩
  obtain ⟨c, e1, e2⟩ := h3 pos cv hc
  exact ⟨c, e1, e _ _ e2 (.inr ⟨_, rfl⟩)⟩
theorem codeO_lst {b : Addr} {q : Str} {xs : List V} : HO.lst xs ≠ LamX.CodeO b q := fun z => by
  unfold LamX.CodeO at z
  cases z
/-- neither a table nor a code object -/
def NoTC (a : Addr) (o : HO) : Prop := (∀ ps, o ≠ .tbl ps) ∧ ∀ q, o ≠ LamX.CodeO a q
theorem xd_code {P : Program} {w : World} {a : Addr} {es : List (NestedKey × Addr × V)} {q : Str} : HO.ext (XD P w a es) ≠ LamX.CodeO a q := fun z => by
  unfold LamX.CodeO at z
  injection z with z
  let oc : Obj := { cls := .none, data := .fields #[.none, .str q 0] }
  have hg : (⟨Array.replicate (a + 1) oc, {}⟩ : Heap).get? a = some oc := by
    unfold Heap.get?
    rw [show (⟨Array.replicate (a + 1) oc, {}⟩ : Heap).objs[a]? = some oc by simp]
  have e := congrFun z ⟨Array.replicate (a + 1) oc, {}⟩
  have f : XD P w a es ⟨Array.replicate (a + 1) oc, {}⟩ := by
    rw [e]
    exact ⟨oc, _, 0, hg, rfl, rfl⟩
  obtain ⟨_, _, xs, _, o, ea, ep, h1, _, h2, _⟩ := f
  rw [hg] at h1
  cases h1
  cases h2
theorem lkd_tc {lk : Bool} {u v : HO} {x : Option HO} {a : Addr} (hu : NoTC a u) (h : lkd lk u x) (e : x = some v) : NoTC a v := by
  cases lk with
  | false =>
    rw [show x = some u from h] at e
    cases e
    exact hu
  | true =>
    obtain ⟨o, h⟩ := h
    rw [h] at e
    cases e
    exact ⟨fun _ z => (nomatch z), fun _ z => (by unfold LamX.CodeO at z; cases z)⟩
theorem OR.tc {K : PySem.W.Frag} {Ho H : Hp} {a : Addr} {ob : Ob} {v : HO} (h : OR K Ho H a ob) (e : H a = some v) : NoTC a v := by
  match ob, h with
  | .lst ds, ⟨xs, h1, h2⟩ =>
    rw [h1] at e
    cases e
    exact ⟨fun _ z => (nomatch z), fun _ z => (by unfold LamX.CodeO at z; cases z)⟩
  | .dct false lk kvs, ⟨ks, h1, h2⟩ => exact lkd_tc (u := .dK ks) ⟨fun _ z => (nomatch z), fun _ z => (by unfold LamX.CodeO at z; cases z)⟩ h1 e
  | .dct true lk kvs, ⟨P, w, es, h1, h2⟩ => exact lkd_tc (u := .ext (XD P w a es)) ⟨fun _ z => (nomatch z), fun _ => xd_code⟩ h1 e
theorem tabs_writeO {T : List (Addr × Str)} {H : Hp} {a : Addr} {v o : HO} (t : LamX.Tabs T H) (h : H a = some v) (n : NoTC a v) : LamX.Tabs T (upd H a o) := tabs_keep t fun b u e k => by
  have nb : b ≠ a := fun z => by
    rw [z, h] at e
    cases e
    rcases k with ⟨ps, k⟩ | ⟨q, k⟩
    · exact n.1 ps k
    · exact n.2 q (z ▸ k)
  rw [upd_ne nb]
  exact e
theorem tabs_write {T : List (Addr × Str)} {H : Hp} {a : Addr} {xs : List V} {o : HO} (t : LamX.Tabs T H) (h : H a = some (.lst xs)) : LamX.Tabs T (upd H a o) :=
  tabs_writeO t h ⟨fun _ z => (nomatch z), fun _ z => (by unfold LamX.CodeO at z; cases z)⟩
theorem gr_write {a : Addr} {o : HO} (h : a ∈ φ.s) (hn : a ∉ φ.h) (nf : ∀ ob u, H a ≠ some (.frz ob u)) : Gr φ H φ (upd H a o) := ⟨List.prefix_refl _, rfl, rfl, fun b u e => by
  rw [off_some] at e ⊢
  refine ⟨e.1, ?_, e.2.2⟩
  rw [upd_ne (fun z : b = a => e.1 (Ad.mem.mpr (.inl (by rw [z]; exact h))))]
  exact e.2.1, fun b hb u e _ => by
  rw [upd_ne (fun z : b = a => hn (by rw [← z]; exact hb))]
  exact e, fun b ob u e => by
  rw [upd_ne (fun z : b = a => nf ob u (by rw [← z]; exact e))]
  exact e⟩
/-- the object of an address changes; off stays -/
theorem off_write {a : Addr} {o : HO} (h : a ∈ φ.s) : Same (off φ H) (off φ (upd H a o)) := fun b u e => by
  rw [off_some] at e ⊢
  refine ⟨e.1, ?_, e.2.2⟩
  rw [upd_ne (fun z : b = a => e.1 (Ad.mem.mpr (.inl (by rw [z]; exact h))))]
  exact e.2.1
theorem SR.writeO (s : SR ζ K φ H m) {a : Addr} {i : Nat} {o : HO} {ob : Ob} (h : φ.s[i]? = some a) (hd : OR K (off φ H) (upd H a o) a ob) (ho : plO o := by exact trivial) : SR ζ K φ (upd H a o) (m.set i ob) := by
  have ha : a ∈ φ.s := List.mem_of_getElem? h
  have hn := s.apart ha
  have g : Same (off φ H) (off φ (upd H a o)) := off_write ha
  have hi : i < m.length := by rw [← s.len]; exact (List.getElem?_eq_some_iff.mp h).1
  obtain ⟨ob0, hob0⟩ : ∃ ob, m[i]? = some ob := ⟨m[i], List.getElem?_eq_getElem hi⟩
  have q := s.obj i ob0 a hob0 h
  obtain ⟨v0, hv0⟩ := q.here
  refine ⟨by rw [List.length_set]; exact s.len, s.nd, fun j ob b e1 e2 => ?_, fun b hb => ?_, s.teq, s.tin, tabs_writeO s.tab hv0 (q.tc hv0), pl_upd s.pl ho, s.kt⟩
  · by_cases hj : j = i
    · subst hj
      rw [List.getElem?_set_self hi] at e1
      rw [h] at e2
      cases e1
      cases e2
      exact hd.mono g fun u z => z
    · rw [List.getElem?_set_ne (fun z => hj z.symm)] at e1
      have nb : b ≠ a := fun z => hj (nodup_at s.nds (z ▸ e2) h)
      exact (s.obj j ob b e1 e2).mono g fun u z => by rw [upd_ne nb]; exact z
  · exact (s.hid b hb).imp (fun ⟨u, e, n⟩ => ⟨u, by rw [upd_ne (fun z : b = a => hn (by rw [← z]; exact hb))]; exact e, n⟩) id
theorem SR.write (s : SR ζ K φ H m) {a : Addr} {i : Nat} {xs : List V} {ds : List D} (h : φ.s[i]? = some a) (hd : DpAll K (off φ H) xs ds) : SR ζ K φ (upd H a (.lst xs)) (m.set i (.lst ds)) :=
  s.writeO h ⟨xs, upd_same, hd⟩
theorem nf_lst {H : Hp} {a : Addr} {xs : List V} (h : H a = some (.lst xs)) : ∀ ob u, H a ≠ some (.frz ob u) := fun ob u e => by
  rw [h] at e
  cases e
theorem nf_dK {H : Hp} {a : Addr} {xs : List (Key × V)} (h : H a = some (.dK xs)) : ∀ ob u, H a ≠ some (.frz ob u) := fun ob u e => by
  rw [h] at e
  cases e
theorem nf_ext {H : Hp} {a : Addr} {x : Heap → Prop} (h : H a = some (.ext x)) : ∀ ob u, H a ≠ some (.frz ob u) := fun ob u e => by
  rw [h] at e
  cases e
theorem ER.get (e : ER K φ H σ env) {i : Nat} {r : R} (h : env[i]? = some (some r)) : ∃ v, σ[i]? = some (some v) ∧ RR K φ H v r := e.at_ i r h
theorem ER.set (e : ER K φ H σ env) (h : RR K φ H v r) (i : Nat) : ER K φ H (σ.set i (some v)) (env.set i (some r)) := ⟨by rw [List.length_set, List.length_set]; exact e.len, fun j r' he => by
  by_cases hj : j = i
  · subst hj
    have hlt : j < env.length := by
      have := (List.getElem?_eq_some_iff.mp he).1
      rwa [List.length_set] at this
    rw [List.getElem?_set_self hlt] at he
    cases he
    exact ⟨v, by rw [List.getElem?_set_self (by rw [e.len]; exact hlt)], h⟩
  · rw [List.getElem?_set_ne (fun z => hj z.symm)] at he ⊢
    exact e.at_ j r' he⟩
end

/-! ### readings of functions -/
abbrev EF := Sl → M → Option (R × M)
abbrev AF := Sl → M → Option (List R × M)
abbrev TF := Sl → M → Option (Bool × M)
def tE (ζ : Tbs) (K : PySem.W.Frag) (f : EF) : TE := fun σ H Q => ∃ φ env m r m', SR ζ K φ H m ∧ ER K φ H σ env ∧ f env m = some (r, m') ∧
  ∀ φ' H' v, Gr φ H φ' H' → SR ζ K φ' H' m' → RR K φ' H' v r → Q v H'
def tA (ζ : Tbs) (K : PySem.W.Frag) (f : AF) : TA := fun σ H Q => ∃ φ env m rs m', SR ζ K φ H m ∧ ER K φ H σ env ∧ f env m = some (rs, m') ∧
  ∀ φ' H' vs, Gr φ H φ' H' → SR ζ K φ' H' m' → RRs K φ' H' vs rs → Q vs H'
def tT (ζ : Tbs) (K : PySem.W.Frag) (f : TF) : TT := fun σ H Q => ∃ φ env m b m', SR ζ K φ H m ∧ ER K φ H σ env ∧ f env m = some (b, m') ∧
  ∀ φ' H', Gr φ H φ' H' → SR ζ K φ' H' m' → Q b H'
/-- an operation of two values -/
def r2P (ζ : Tbs) (K : PySem.W.Frag) (p : R → R → M → Option (R × M)) : R2 := fun x y H Q => ∃ φ m r1 r2 r m', SR ζ K φ H m ∧ RR K φ H x r1 ∧ RR K φ H y r2 ∧ p r1 r2 m = some (r, m') ∧
  ∀ φ' H' v, Gr φ H φ' H' → SR ζ K φ' H' m' → RR K φ' H' v r → Q v H'
def r1P (ζ : Tbs) (K : PySem.W.Frag) (p : R → M → Option (R × M)) : V → Hp → VK → Prop := fun x H Q => ∃ φ m r1 r m', SR ζ K φ H m ∧ RR K φ H x r1 ∧ p r1 m = some (r, m') ∧
  ∀ φ' H' v, Gr φ H φ' H' → SR ζ K φ' H' m' → RR K φ' H' v r → Q v H'
def rsP (ζ : Tbs) (K : PySem.W.Frag) (p : List R → M → Option (R × M)) : List V → Hp → VK → Prop := fun xs H Q => ∃ φ m rs r m', SR ζ K φ H m ∧ RRs K φ H xs rs ∧ p rs m = some (r, m') ∧
  ∀ φ' H' v, Gr φ H φ' H' → SR ζ K φ' H' m' → RR K φ' H' v r → Q v H'

theorem pe_imp {X : Cx} {e : Expr} {t t' : TE} (h : PE X e t) (k : ∀ σ H Q, t' σ H Q → t σ H Q) : PE X e t' := ⟨fun pins s σ H Q I q => h.run pins s σ H Q I (k σ H Q q)⟩
theorem pt_imp {X : Cx} {e : Expr} {t t' : TT} (h : PT X e t) (k : ∀ σ H Q, t' σ H Q → t σ H Q) : PT X e t' := ⟨fun pins s σ H Q I q => h.run pins s σ H Q I (k σ H Q q)⟩
theorem pw_imp {X : Cx} {e : Expr} {t t' : TT} (h : PW X e t) (k : ∀ σ H Q, t' σ H Q → t σ H Q) : PW X e t' := ⟨fun wh pins s σ H Q I q => h.run wh pins s σ H Q I (k σ H Q q)⟩
theorem pa_imp {X : Cx} {e : List Expr} {t t' : TA} (h : PA X e t) (k : ∀ σ H Q, t' σ H Q → t σ H Q) : PA X e t' := ⟨fun ps pins s σ H Q I q => h.run ps pins s σ H Q I (k σ H Q q)⟩
theorem ps_imp {X : Cx} {e : Stmt} {t t' : TS} (h : PS X e t) (k : ∀ D σ H, t' D σ H → t D σ H) : PS X e t' := ⟨fun pins s σ H D I q => h.run pins s σ H D I (k D σ H q)⟩
theorem pss_imp {X : Cx} {e : List Stmt} {t t' : TS} (h : PSs X e t) (k : ∀ D σ H, t' D σ H → t D σ H) : PSs X e t' := ⟨fun pins s σ H D I q => h.run pins s σ H D I (k D σ H q)⟩
theorem pi_imp {X : Cx} {tg e : Expr} {t t' : TI} (h : PI X tg e t) (k : ∀ σ H R, t' σ H R → t σ H R) : PI X tg e t' := ⟨fun pins s σ H R I q => h.run pins s σ H R I (k σ H R q)⟩

/-! ### the functions -/
def eVar (i : Nat) : EF := fun env m => match env[i]? with
  | some (some r) => some (r, m)
  | _ => none
def eC (d : D) : EF := fun _ m => some (.val d, m)
def eBin (p : R → R → M → Option (R × M)) (f g : EF) : EF := fun env m => (f env m).bind fun x => (g env x.2).bind fun y => p x.1 y.1 y.2
def eUn (p : R → M → Option (R × M)) (f : EF) : EF := fun env m => (f env m).bind fun x => p x.1 x.2
def aNil : AF := fun _ m => some ([], m)
def aCons (f : EF) (g : AF) : AF := fun env m => (f env m).bind fun x => (g env x.2).bind fun y => some (x.1 :: y.1, y.2)
def eAp (p : List R → M → Option (R × M)) (f : AF) : EF := fun env m => (f env m).bind fun x => p x.1 x.2
def asB : R → Option Bool
  | .val (.bool b) => some b
  | _ => none
def tOf (f : EF) : TF := fun env m => (f env m).bind fun x => (asB x.1).bind fun b => some (b, x.2)
def tNotF (f : TF) : TF := fun env m => (f env m).bind fun x => some (!x.1, x.2)
def tAndF (f g : TF) : TF := fun env m => (f env m).bind fun x => if x.1 = true then g env x.2 else some (false, x.2)
def tOrF (f g : TF) : TF := fun env m => (f env m).bind fun x => if x.1 = true then some (true, x.2) else g env x.2
def eOf (f : TF) : EF := fun env m => (f env m).bind fun x => some (.val (.bool x.1), x.2)
def eIf (c : TF) (f g : EF) : EF := fun env m => (c env m).bind fun x => if x.1 = true then f env x.2 else g env x.2
/-- a op b op' c -/
def eChain (p q : R → R → M → Option (R × M)) (f g h : EF) : EF := fun env m => (f env m).bind fun x => (g env x.2).bind fun y => (p x.1 y.1 y.2).bind fun z =>
  (asB z.1).bind fun b => if b = true then (h env z.2).bind fun w => q y.1 w.1 w.2 else some (.val (.bool false), z.2)
theorem bind_some_iff {α β : Type} {o : Option α} {f : α → Option β} {b : β} (h : o.bind f = some b) : ∃ a, o = some a ∧ f a = some b := by
  cases o with
  | none => cases h
  | some a => exact ⟨a, rfl, h⟩
theorem asB_some {r : R} {b : Bool} (h : asB r = some b) : r = .val (.bool b) := by
  cases r with
  | ref i => cases h
  | tp i => cases h
  | val d =>
    cases d with
    | bool c =>
      cases h
      rfl
    | _ => cases h
theorem rr_bool {K : PySem.W.Frag} {φ : Ad} {H : Hp} {v : V} {b : Bool} (h : RR K φ H v (.val (.bool b))) : v = .bl b := by
  have h' : Dp K (off φ H) v (.bool b) := h
  cases h'
  rfl

section
variable {X : Cx} {a b c e : Expr} {es : List Expr} {f g h : EF} {fa : AF} {tf tg : TF} {pos : Pos}
theorem x_var {i : Nat} {x : Str} (hp : PE X (.Name x pos) (tVar i)) : PE X (.Name x pos) (tE ζ X.K (eVar i)) := pe_imp hp fun σ H Q q => by
  obtain ⟨φ, env, m, r, m', S, E, hf, k⟩ := q
  have hr : env[i]? = some (some r) ∧ m = m' := by
    unfold eVar at hf
    split at hf
    · rename_i r' h
      cases hf
      exact ⟨h, rfl⟩
    · cases hf
  obtain ⟨v, h1, h2⟩ := E.get hr.1
  exact ⟨v, h1, k φ H v .refl (hr.2 ▸ S) h2⟩
theorem x_c {d : D} {v : V} (hp : PE X e (tC v)) (hv : ∀ H, Dp X.K H v d) : PE X e (tE ζ X.K (eC d)) := pe_imp hp fun σ H Q q => by
  obtain ⟨φ, env, m, r, m', S, E, hf, k⟩ := q
  cases hf
  exact k φ H v .refl S (hv _)
theorem x_int {i : Int} {j : Nat} : PE X (.Constant (.int i) j pos) (tE ζ X.K (eC (.int i))) := x_c pe_int fun _ => .int i
theorem x_bl {i : Bool} {j : Nat} : PE X (.Constant (.bool i) j pos) (tE ζ X.K (eC (.bool i))) := x_c pe_bl fun _ => .bl i
theorem x_non {j : Nat} : PE X (.Constant .none j pos) (tE ζ X.K (eC .none)) := x_c pe_non fun _ => .non
theorem x_str {z : Str} {j : Nat} : PE X (.Constant (.str z) j pos) (tE ζ X.K (eC (.str z))) := x_c pe_str fun _ => .str z
/-- two values one after the other, then an operation -/
theorem two_imp {K : PySem.W.Frag} {p : R → R → M → Option (R × M)} {σ : L2.St} {H : Hp} {Q : VK} (q : tE ζ K (eBin p f g) σ H Q) : tOp (r2P ζ K p) (tE ζ K f) (tE ζ K g) σ H Q := by
  obtain ⟨φ, env, m, r, m', S, E, hf, k⟩ := q
  obtain ⟨⟨r1, m1⟩, h1, hf⟩ := bind_some_iff hf
  obtain ⟨⟨r2, m2⟩, h2, hf⟩ := bind_some_iff hf
  refine ⟨φ, env, m, r1, m1, S, E, h1, fun φ1 H1 v1 g1 S1 R1 => ?_⟩
  refine ⟨φ1, env, m1, r2, m2, S1, E.mono g1, h2, fun φ2 H2 v2 g2 S2 R2 => ?_⟩
  exact ⟨φ2, m2, r1, r2, r, m', S2, R1.mono g2, R2, hf, fun φ3 H3 v3 g3 S3 R3 => k φ3 H3 v3 (g1.trans (g2.trans g3)) S3 R3⟩
theorem x_bin {op : Operator} {p : R → R → M → Option (R × M)} (ho : OpR X (binaryOp op) (r2P ζ X.K p)) (ha : PE X a (tE ζ X.K f)) (hb : PE X b (tE ζ X.K g)) : PE X (.BinOp a op b pos) (tE ζ X.K (eBin p f g)) :=
  pe_imp (pe_op ho ha hb) fun _ _ _ q => two_imp q
theorem x_cmp {op : CmpOp} {p : R → R → M → Option (R × M)} (ho : OpR X (compareOp op) (r2P ζ X.K p)) (ha : PE X a (tE ζ X.K f)) (hb : PE X b (tE ζ X.K g)) (hm : behindInMarks op b = false) : PE X (.Compare a [op] [b] pos) (tE ζ X.K (eBin p f g)) :=
  pe_imp (pe_cmpR ho ha hb hm) fun _ _ _ q => two_imp q
theorem x_un {op : UnaryOp} {p : R → M → Option (R × M)} (ho : UnR X (unaryOp op) (r1P ζ X.K p)) (ha : PE X a (tE ζ X.K f)) : PE X (.UnaryOp op a pos) (tE ζ X.K (eUn p f)) :=
  pe_imp (pe_un ho ha) fun σ H Q q => by
    obtain ⟨φ, env, m, r, m', S, E, hf, k⟩ := q
    obtain ⟨⟨r1, m1⟩, h1, hf⟩ := bind_some_iff hf
    refine ⟨φ, env, m, r1, m1, S, E, h1, fun φ1 H1 v1 g1 S1 R1 => ?_⟩
    exact ⟨φ1, m1, r1, r, m', S1, R1, hf, fun φ3 H3 v3 g3 S3 R3 => k φ3 H3 v3 (g1.trans g3) S3 R3⟩
/-- a value known to be a bool, as a test -/
theorem tst_imp {K : PySem.W.Frag} {σ : L2.St} {H : Hp} {Q : Bool → Hp → Prop} (q : tT ζ K (tOf f) σ H Q) : tTest (tE ζ K f) σ H Q := by
  obtain ⟨φ, env, m, r, m', S, E, hf, k⟩ := q
  obtain ⟨⟨r1, m1⟩, h1, hf⟩ := bind_some_iff hf
  obtain ⟨b, hb, hf⟩ := bind_some_iff hf
  cases hf
  have hb' := asB_some hb
  simp only at hb'
  subst hb'
  exact ⟨φ, env, m, _, m1, S, E, h1, fun φ1 H1 v1 g1 S1 R1 => ⟨_, rr_bool R1, k φ1 H1 g1 S1⟩⟩
theorem y_cmp {op : CmpOp} {p : R → R → M → Option (R × M)} (ho : OpR X (compareOp op) (r2P ζ X.K p)) (ha : PE X a (tE ζ X.K f)) (hb : PE X b (tE ζ X.K g)) (hm : behindInMarks op b = false) : PT X (.Compare a [op] [b] pos) (tT ζ X.K (tOf (eBin p f g))) :=
  pt_imp (pt_cmpR ho ha hb hm) fun σ H Q q => by
    have h1 := tst_imp q
    exact two_imp (Q := fun x H' => ∃ k, x = .bl k ∧ Q k H') h1
/-- any expression without a way of its own as a test -/
theorem y_val (he : PE X e (tE ζ X.K f)) (hw : ∀ whole, isTrue e X.env whole = (do let v ← whole; standAt e.pos; holding [v] (truthy v)) := by intro _; rfl) : PT X e (tT ζ X.K (tOf f)) :=
  pt_imp (pt_val he hw) fun _ _ _ q => tst_imp q
theorem chain_imp {K : PySem.W.Frag} {p p' : R → R → M → Option (R × M)} {σ : L2.St} {H : Hp} {Q : VK} (q : tE ζ K (eChain p p' f g h) σ H Q) : tChain (r2P ζ K p) (r2P ζ K p') (tE ζ K f) (tE ζ K g) (tE ζ K h) σ H Q := by
  obtain ⟨φ, env, m, r, m', S, E, hf, k⟩ := q
  obtain ⟨⟨r1, m1⟩, h1, hf⟩ := bind_some_iff hf
  obtain ⟨⟨r2, m2⟩, h2, hf⟩ := bind_some_iff hf
  obtain ⟨⟨r3, m3⟩, h3, hf⟩ := bind_some_iff hf
  obtain ⟨b, hb, hf⟩ := bind_some_iff hf
  have hb' := asB_some hb
  simp only at hb'
  subst hb'
  refine ⟨φ, env, m, r1, m1, S, E, h1, fun φ1 H1 v1 g1 S1 R1 => ?_⟩
  refine ⟨φ1, env, m1, r2, m2, S1, E.mono g1, h2, fun φ2 H2 v2 g2 S2 R2 => ?_⟩
  refine ⟨φ2, m2, r1, r2, _, m3, S2, R1.mono g2, R2, h3, fun φ3 H3 v3 g3 S3 R3 => ⟨b, rr_bool R3, ?_⟩⟩
  cases b with
  | false =>
    rw [if_neg Bool.false_ne_true]
    simp only [Bool.false_eq_true, if_false] at hf
    cases hf
    exact k φ3 H3 _ (g1.trans (g2.trans g3)) S3 (Dp.bl false)
  | true =>
    rw [if_pos rfl]
    simp only [if_true] at hf
    obtain ⟨⟨r4, m4⟩, h4, hf⟩ := bind_some_iff hf
    refine ⟨φ3, env, m3, r4, m4, S3, E.mono (g1.trans (g2.trans g3)), h4, fun φ4 H4 v4 g4 S4 R4 => ?_⟩
    exact ⟨φ4, m4, r2, r4, r, m', S4, R2.mono (g3.trans g4), R4, hf, fun φ5 H5 v5 g5 S5 R5 => k φ5 H5 v5 (g1.trans (g2.trans (g3.trans (g4.trans g5)))) S5 R5⟩
theorem x_chain {op op' : CmpOp} {p p' : R → R → M → Option (R × M)} (ho : OpR X (compareOp op) (r2P ζ X.K p)) (ho' : OpR X (compareOp op') (r2P ζ X.K p')) (ha : PE X a (tE ζ X.K f)) (hb : PE X b (tE ζ X.K g)) (hc : PE X c (tE ζ X.K h))
    (hm : lastMarks [op, op'] [b, c] = false := by with_unfolding_all rfl) : PE X (.Compare a [op, op'] [b, c] pos) (tE ζ X.K (eChain p p' f g h)) :=
  pe_imp (pe_chain ho ho' ha hb hc hm) fun _ _ _ q => chain_imp q
theorem y_chain {op op' : CmpOp} {p p' : R → R → M → Option (R × M)} (ho : OpR X (compareOp op) (r2P ζ X.K p)) (ho' : OpR X (compareOp op') (r2P ζ X.K p')) (ha : PE X a (tE ζ X.K f)) (hb : PE X b (tE ζ X.K g)) (hc : PE X c (tE ζ X.K h))
    (hm : lastMarks [op, op'] [b, c] = false := by with_unfolding_all rfl) : PT X (.Compare a [op, op'] [b, c] pos) (tT ζ X.K (tOf (eChain p p' f g h))) :=
  pt_imp (pt_chain ho ho' ha hb hc hm) fun σ H Q q => by
    have h1 := tst_imp q
    exact chain_imp (Q := fun x H' => ∃ k, x = .bl k ∧ Q k H') h1
theorem y_not (ha : PT X a (tT ζ X.K tf)) : PT X (.UnaryOp .Not a pos) (tT ζ X.K (tNotF tf)) := pt_imp (pt_not ha) fun σ H Q q => by
  obtain ⟨φ, env, m, r, m', S, E, hf, k⟩ := q
  obtain ⟨⟨r1, m1⟩, h1, hf⟩ := bind_some_iff hf
  cases hf
  exact ⟨φ, env, m, r1, m1, S, E, h1, fun φ1 H1 g1 S1 => k φ1 H1 g1 S1⟩
theorem w_and1 (ha : PT X a (tT ζ X.K tf)) : PW X (.BoolOp .And [a] pos) (tT ζ X.K tf) := pw_and1 ha
theorem w_or1 (ha : PT X a (tT ζ X.K tf)) : PW X (.BoolOp .Or [a] pos) (tT ζ X.K tf) := pw_or1 ha
theorem w_and (ha : PT X a (tT ζ X.K tf)) (hb : PW X (.BoolOp .And (b :: es) pos) (tT ζ X.K tg)) : PW X (.BoolOp .And (a :: b :: es) pos) (tT ζ X.K (tAndF tf tg)) := pw_imp (pw_and ha hb) fun σ H Q q => by
  obtain ⟨φ, env, m, r, m', S, E, hf, k⟩ := q
  obtain ⟨⟨r1, m1⟩, h1, hf⟩ := bind_some_iff hf
  refine ⟨φ, env, m, r1, m1, S, E, h1, fun φ1 H1 g1 S1 => ?_⟩
  cases r1 with
  | false =>
    rw [if_neg Bool.false_ne_true]
    simp only [Bool.false_eq_true, if_false] at hf
    cases hf
    exact k φ1 H1 g1 S1
  | true =>
    rw [if_pos rfl]
    simp only [if_true] at hf
    exact ⟨φ1, env, m1, r, m', S1, E.mono g1, hf, fun φ2 H2 g2 S2 => k φ2 H2 (g1.trans g2) S2⟩
theorem w_or (ha : PT X a (tT ζ X.K tf)) (hb : PW X (.BoolOp .Or (b :: es) pos) (tT ζ X.K tg)) : PW X (.BoolOp .Or (a :: b :: es) pos) (tT ζ X.K (tOrF tf tg)) := pw_imp (pw_or ha hb) fun σ H Q q => by
  obtain ⟨φ, env, m, r, m', S, E, hf, k⟩ := q
  obtain ⟨⟨r1, m1⟩, h1, hf⟩ := bind_some_iff hf
  refine ⟨φ, env, m, r1, m1, S, E, h1, fun φ1 H1 g1 S1 => ?_⟩
  cases r1 with
  | true =>
    rw [if_pos rfl]
    simp only [if_true] at hf
    cases hf
    exact k φ1 H1 g1 S1
  | false =>
    rw [if_neg Bool.false_ne_true]
    simp only [Bool.false_eq_true, if_false] at hf
    exact ⟨φ1, env, m1, r, m', S1, E.mono g1, hf, fun φ2 H2 g2 S2 => k φ2 H2 (g1.trans g2) S2⟩
/-- the same as values (bools) -/
theorem x_not (ha : PE X a (tE ζ X.K (eOf tf))) : PE X (.UnaryOp .Not a pos) (tE ζ X.K (eOf (tNotF tf))) := pe_imp (pe_not ha) fun σ H Q q => by
  obtain ⟨φ, env, m, r, m', S, E, hf, k⟩ := q
  obtain ⟨⟨r0, m0⟩, h0, hf⟩ := bind_some_iff hf
  obtain ⟨⟨r1, m1⟩, h1, h0⟩ := bind_some_iff h0
  cases h0
  cases hf
  exact ⟨φ, env, m, .val (.bool r1), m1, S, E, by unfold eOf; rw [h1]; rfl, fun φ1 H1 v1 g1 S1 R1 => ⟨r1, rr_bool R1, k φ1 H1 _ g1 S1 (Dp.bl _)⟩⟩
theorem x_eOf (ha : PE X a (tE ζ X.K f)) : PE X a (tE ζ X.K (eOf (tOf f))) := pe_imp ha fun σ H Q q => by
  obtain ⟨φ, env, m, r, m', S, E, hf, k⟩ := q
  obtain ⟨⟨r0, m0⟩, h0, hf⟩ := bind_some_iff hf
  obtain ⟨⟨r1, m1⟩, h1, h0⟩ := bind_some_iff h0
  obtain ⟨b, hb, h0⟩ := bind_some_iff h0
  cases h0
  cases hf
  have hb' := asB_some hb
  simp only at hb'
  subst hb'
  exact ⟨φ, env, m, _, m1, S, E, h1, fun φ1 H1 v1 g1 S1 R1 => k φ1 H1 v1 g1 S1 R1⟩
theorem x_and1 (ha : PE X a (tE ζ X.K (eOf tf))) : PE X (.BoolOp .And [a] pos) (tE ζ X.K (eOf tf)) := pe_one ha
theorem x_or1 (ha : PE X a (tE ζ X.K (eOf tf))) : PE X (.BoolOp .Or [a] pos) (tE ζ X.K (eOf tf)) := pe_one ha
theorem x_and (ha : PE X a (tE ζ X.K (eOf tf))) (hb : PE X (.BoolOp .And (b :: es) pos) (tE ζ X.K (eOf tg))) : PE X (.BoolOp .And (a :: b :: es) pos) (tE ζ X.K (eOf (tAndF tf tg))) := pe_imp (pe_and ha hb) fun σ H Q q => by
  obtain ⟨φ, env, m, r, m', S, E, hf, k⟩ := q
  obtain ⟨⟨r0, m0⟩, h0, hf⟩ := bind_some_iff hf
  obtain ⟨⟨r1, m1⟩, h1, h0⟩ := bind_some_iff h0
  cases hf
  refine ⟨φ, env, m, .val (.bool r1), m1, S, E, by unfold eOf; rw [h1]; rfl, fun φ1 H1 v1 g1 S1 R1 => ⟨r1, rr_bool R1, ?_⟩⟩
  cases r1 with
  | false =>
    rw [if_neg Bool.false_ne_true]
    simp only [Bool.false_eq_true, if_false] at h0
    cases h0
    exact k φ1 H1 _ g1 S1 (Dp.bl _)
  | true =>
    rw [if_pos rfl]
    simp only [if_true] at h0
    exact ⟨φ1, env, m1, _, m0, S1, E.mono g1, by unfold eOf; rw [h0]; rfl, fun φ2 H2 v2 g2 S2 R2 => k φ2 H2 v2 (g1.trans g2) S2 R2⟩
theorem x_or (ha : PE X a (tE ζ X.K (eOf tf))) (hb : PE X (.BoolOp .Or (b :: es) pos) (tE ζ X.K (eOf tg))) : PE X (.BoolOp .Or (a :: b :: es) pos) (tE ζ X.K (eOf (tOrF tf tg))) := pe_imp (pe_or ha hb) fun σ H Q q => by
  obtain ⟨φ, env, m, r, m', S, E, hf, k⟩ := q
  obtain ⟨⟨r0, m0⟩, h0, hf⟩ := bind_some_iff hf
  obtain ⟨⟨r1, m1⟩, h1, h0⟩ := bind_some_iff h0
  cases hf
  refine ⟨φ, env, m, .val (.bool r1), m1, S, E, by unfold eOf; rw [h1]; rfl, fun φ1 H1 v1 g1 S1 R1 => ⟨r1, rr_bool R1, ?_⟩⟩
  cases r1 with
  | true =>
    rw [if_pos rfl]
    simp only [if_true] at h0
    cases h0
    exact k φ1 H1 _ g1 S1 (Dp.bl _)
  | false =>
    rw [if_neg Bool.false_ne_true]
    simp only [Bool.false_eq_true, if_false] at h0
    exact ⟨φ1, env, m1, _, m0, S1, E.mono g1, by unfold eOf; rw [h0]; rfl, fun φ2 H2 v2 g2 S2 R2 => k φ2 H2 v2 (g1.trans g2) S2 R2⟩
theorem x_if (hc : PT X c (tT ζ X.K tf)) (ha : PE X a (tE ζ X.K f)) (hb : PE X b (tE ζ X.K g)) : PE X (.IfExp c a b pos) (tE ζ X.K (eIf tf f g)) := pe_imp (pe_ifExp hc ha hb) fun σ H Q q => by
  obtain ⟨φ, env, m, r, m', S, E, hf, k⟩ := q
  obtain ⟨⟨r1, m1⟩, h1, hf⟩ := bind_some_iff hf
  refine ⟨φ, env, m, r1, m1, S, E, h1, fun φ1 H1 g1 S1 => ?_⟩
  cases r1 with
  | false =>
    rw [if_neg Bool.false_ne_true]
    simp only [Bool.false_eq_true, if_false] at hf
    exact ⟨φ1, env, m1, r, m', S1, E.mono g1, hf, fun φ2 H2 v2 g2 S2 R2 => k φ2 H2 v2 (g1.trans g2) S2 R2⟩
  | true =>
    rw [if_pos rfl]
    simp only [if_true] at hf
    exact ⟨φ1, env, m1, r, m', S1, E.mono g1, hf, fun φ2 H2 v2 g2 S2 R2 => k φ2 H2 v2 (g1.trans g2) S2 R2⟩
theorem x_nil : PA X [] (tA ζ X.K aNil) := pa_imp pa_nil fun σ H Q q => by
  obtain ⟨φ, env, m, r, m', S, E, hf, k⟩ := q
  cases hf
  exact k φ H [] .refl S .nil
theorem x_cons (ha : PE X e (tE ζ X.K f)) (hr : PA X es (tA ζ X.K fa)) (hs : starEach (e :: es) X.env = (false, eval e X.env) :: starEach es X.env := by rfl) : PA X (e :: es) (tA ζ X.K (aCons f fa)) := pa_imp (pa_cons ha hr hs) fun σ H Q q => by
  obtain ⟨φ, env, m, r, m', S, E, hf, k⟩ := q
  obtain ⟨⟨r1, m1⟩, h1, hf⟩ := bind_some_iff hf
  obtain ⟨⟨r2, m2⟩, h2, hf⟩ := bind_some_iff hf
  cases hf
  refine ⟨φ, env, m, r1, m1, S, E, h1, fun φ1 H1 v1 g1 S1 R1 => ?_⟩
  exact ⟨φ1, env, m1, r2, m2, S1, E.mono g1, h2, fun φ2 H2 v2 g2 S2 R2 => k φ2 H2 _ (g1.trans g2) S2 (.cons (R1.mono g2) R2)⟩
/-- all of them data -/
def vals : List R → Option (List D)
  | [] => some []
  | .val d :: rs => (vals rs).bind fun ds => some (d :: ds)
  | .ref _ :: _ => none
  | .tp _ :: _ => none
theorem vals_rr {K : PySem.W.Frag} {φ : Ad} {H : Hp} : ∀ {rs : List R} {ds : List D} {vs : List V}, vals rs = some ds → RRs K φ H vs rs → DpAll K (off φ H) vs ds
  | [], _, _, e, h => by
    cases e
    cases h
    exact .nil
  | .val d :: rs, _, _, e, h => by
    obtain ⟨ds', e1, e2⟩ := bind_some_iff e
    cases e2
    cases h with
    | cons a t => exact .cons a (vals_rr e1 t)
  | .ref _ :: _, _, _, e, _ => by cases e
  | .tp _ :: _, _, _, e, _ => by cases e
def pTup (rs : List R) (m : M) : Option (R × M) := (vals rs).bind fun ds => if ds.length ≤ sizeLine then some (.val (.tuple ds), m) else none
def pLst (rs : List R) (m : M) : Option (R × M) := (vals rs).bind fun ds => if ds.length ≤ sizeLine then some (.val (.list ds), m) else none
theorem rr_newT {K : PySem.W.Frag} {φ : Ad} {H : Hp} {m : M} {vs : List V} {ds : List D} {p : Addr} {o : Obj} (S : SR ζ K φ H m) (hp : H p = none) (h : DpAll K (off φ H) vs ds) : RR K φ (upd H p (.frz o (.tup vs))) (.ref p) (.val (.tuple ds)) :=
  Dp.tup (.inl (.inr ⟨o, off_some.mpr ⟨S.new hp, upd_same, rfl⟩⟩)) (dps_mono (gr_alloc hp).same h)
theorem rr_newL {K : PySem.W.Frag} {φ : Ad} {H : Hp} {m : M} {vs : List V} {ds : List D} {p : Addr} (S : SR ζ K φ H m) (hp : H p = none) (h : DpAll K (off φ H) vs ds) : RR K φ (upd H p (.lst vs)) (.ref p) (.val (.list ds)) :=
  Dp.lst (.inl (.inl (off_some.mpr ⟨S.new hp, upd_same, rfl⟩))) (dps_mono (gr_alloc hp).same h)
theorem x_tup {x1} (h : PA X es (tA ζ X.K fa)) : PE X (.Tuple es x1 pos) (tE ζ X.K (eAp pTup fa)) := pe_imp (pe_tupF h) fun σ H Q q => by
  obtain ⟨φ, env, m, r, m', S, E, hf, k⟩ := q
  obtain ⟨⟨rs, m1⟩, h1, hf⟩ := bind_some_iff hf
  obtain ⟨ds, h2, hf⟩ := bind_some_iff hf
  split at hf
  · rename_i hl
    cases hf
    refine ⟨φ, env, m, rs, m1, S, E, h1, fun φ1 H1 vs g1 S1 R1 => ?_⟩
    have hd := vals_rr h2 R1
    exact ⟨by rw [DpAll.len hd]; exact hl, fun p o hp ho => k φ1 _ _ (g1.trans (gr_alloc hp)) (S1.alloc hp ho) (rr_newT S1 hp hd)⟩
  · cases hf
theorem x_lst (h : PA X es (tA ζ X.K fa)) : PE X (.List es pos) (tE ζ X.K (eAp pLst fa)) := pe_imp (pe_lst h) fun σ H Q q => by
  obtain ⟨φ, env, m, r, m', S, E, hf, k⟩ := q
  obtain ⟨⟨rs, m1⟩, h1, hf⟩ := bind_some_iff hf
  obtain ⟨ds, h2, hf⟩ := bind_some_iff hf
  split at hf
  · rename_i hl
    cases hf
    refine ⟨φ, env, m, rs, m1, S, E, h1, fun φ1 H1 vs g1 S1 R1 => ?_⟩
    have hd := vals_rr h2 R1
    exact ⟨by rw [DpAll.len hd]; exact hl, fun p hp => k φ1 _ _ (g1.trans (gr_alloc hp)) (S1.alloc hp) (rr_newL S1 hp hd)⟩
  · cases hf
/-- a call of a builtin by values -/
theorem ap_imp {K : PySem.W.Frag} {p : List R → M → Option (R × M)} {σ : L2.St} {H : Hp} {Q : VK} (q : tE ζ K (eAp p fa) σ H Q) : tCB (rsP ζ K p) (tA ζ K fa) σ H Q := by
  obtain ⟨φ, env, m, r, m', S, E, hf, k⟩ := q
  obtain ⟨⟨rs, m1⟩, h1, hf⟩ := bind_some_iff hf
  exact ⟨φ, env, m, rs, m1, S, E, h1, fun φ1 H1 vs g1 S1 R1 => ⟨φ1, m1, rs, r, m', S1, R1, hf, fun φ2 H2 v g2 S2 R2 => k φ2 H2 v (g1.trans g2) S2 R2⟩⟩
theorem x_callB {id : String} {x : Str} {p0 : Pos} {p : List R → M → Option (R × M)} (hc : CallR X (.builtin id) (rsP ζ X.K p)) (hg : Gl X x) (hm : X.mg x = none) (hv : bootBuiltins x = some (.builtin id)) (ha : PA X (e :: es) (tA ζ X.K fa)) (hn : x ≠ "__name__" := by decide) (hdb : (x == ("__debug__" : Str)) = false := by decide)
    (he : starEach (e :: es) X.env = (false, eval e X.env) :: starEach es X.env := by rfl) (hpl : (backTo pos (starEach es X.env)).any (·.1) = false := by rfl) : PE X (.Call (.Name x p0) (e :: es) [] pos) (tE ζ X.K (eAp p fa)) :=
  pe_imp (pe_callB hc hg hm hv ha hn hdb he hpl) fun _ _ _ q => ap_imp q
theorem x_callTy {T : String} {x : Str} {p0 : Pos} {p : List R → M → Option (R × M)} (hc : CallR X (.type T) (rsP ζ X.K p)) (hg : Gl X x) (hm : X.mg x = none) (hv : bootBuiltins x = some (.type T)) (ha : PA X (e :: es) (tA ζ X.K fa)) (hn : x ≠ "__name__" := by decide) (hdb : (x == ("__debug__" : Str)) = false := by decide)
    (he : starEach (e :: es) X.env = (false, eval e X.env) :: starEach es X.env := by rfl) (hpl : (backTo pos (starEach es X.env)).any (·.1) = false := by rfl) : PE X (.Call (.Name x p0) (e :: es) [] pos) (tE ζ X.K (eAp p fa)) :=
  pe_imp (pe_callTy hc hg hm hv ha hn hdb he hpl) fun _ _ _ q => ap_imp q
end
end Ev

set_option Elab.async false
set_option linter.all false
set_option maxRecDepth 100000
/-! Statements, loops, functions. -/
namespace Ev
open PySem PySem.Spec PyProof.Rows L2

inductive Fl where
  | nx (env : Sl) (m : M)
  | rt (r : R) (m : M)
  | bk (env : Sl) (m : M)
  | ct (env : Sl) (m : M)
abbrev SF := Sl → M → Option Fl
abbrev GF := R → Sl → M → Option (Sl × M)
abbrev GsF := List R → Sl → M → Option (Sl × M)

def EnvK (ζ : Tbs) (K : PySem.W.Frag) (φ : Ad) (H : Hp) (env : Sl) (m : M) (Q : L2.St → Hp → Prop) : Prop := ∀ φ' σ' H', Gr φ H φ' H' → SR ζ K φ' H' m → ER K φ' H' σ' env → Q σ' H'
def ValK (ζ : Tbs) (K : PySem.W.Frag) (φ : Ad) (H : Hp) (r : R) (m : M) (Q : VK) : Prop := ∀ φ' H' v, Gr φ H φ' H' → SR ζ K φ' H' m → RR K φ' H' v r → Q v H'
def FlOk (ζ : Tbs) (K : PySem.W.Frag) (φ : Ad) (H : Hp) (W : Ends) : Fl → Prop
  | .nx env m => EnvK ζ K φ H env m W.nx
  | .rt r m => ValK ζ K φ H r m W.rt
  | .bk env m => EnvK ζ K φ H env m W.bk
  | .ct env m => EnvK ζ K φ H env m W.ct
def tS (ζ : Tbs) (K : PySem.W.Frag) (f : SF) : TS := fun W σ H => ∃ φ env m fl, SR ζ K φ H m ∧ ER K φ H σ env ∧ f env m = some fl ∧ FlOk ζ K φ H W fl
def tG (ζ : Tbs) (K : PySem.W.Frag) (g : GF) : TG := fun v σ H Q => ∃ φ env m r env' m', SR ζ K φ H m ∧ ER K φ H σ env ∧ RR K φ H v r ∧ g r env m = some (env', m') ∧ EnvK ζ K φ H env' m' Q
def tGs (ζ : Tbs) (K : PySem.W.Frag) (g : GsF) : TGs := fun vs σ H Q => ∃ φ env m rs env' m', SR ζ K φ H m ∧ ER K φ H σ env ∧ RRs K φ H vs rs ∧ g rs env m = some (env', m') ∧ EnvK ζ K φ H env' m' Q
section
variable {K : PySem.W.Frag} {φ φ' : Ad} {H H' : Hp} {m : M} {env : Sl} {r : R} {Q : L2.St → Hp → Prop} {P : VK} {W : Ends} {fl : Fl}
theorem EnvK.mono (g : Gr φ H φ' H') (h : EnvK ζ K φ H env m Q) : EnvK ζ K φ' H' env m Q := fun _ _ _ g2 S E => h _ _ _ (g.trans g2) S E
theorem ValK.mono (g : Gr φ H φ' H') (h : ValK ζ K φ H r m P) : ValK ζ K φ' H' r m P := fun _ _ _ g2 S E => h _ _ _ (g.trans g2) S E
theorem FlOk.mono (g : Gr φ H φ' H') (h : FlOk ζ K φ H W fl) : FlOk ζ K φ' H' W fl := by
  cases fl with
  | nx e m => exact EnvK.mono g h
  | rt e m => exact ValK.mono g h
  | bk e m => exact EnvK.mono g h
  | ct e m => exact EnvK.mono g h
end
theorem tg_imp {X : Cx} {e : Expr} {t t' : TG} (h : PG X e t) (k : ∀ v σ H Q, t' v σ H Q → t v σ H Q) : PG X e t' := ⟨fun pins s σ H v u Q I r q => h.run pins s σ H v u Q I r (k v σ H Q q)⟩
theorem tgs_imp {X : Cx} {e : List Expr} {t t' : TGs} (h : PGs X e t) (k : ∀ v σ H Q, t' v σ H Q → t v σ H Q) : PGs X e t' := ⟨fun pins s σ H v u Q I r q => h.run pins s σ H v u Q I r (k v σ H Q q)⟩

/-! ### the functions -/
def sNext : SF := fun env m => some (.nx env m)
def sNever : SF := fun _ _ => none
def sBreak : SF := fun env m => some (.bk env m)
def sCont : SF := fun env m => some (.ct env m)
def thenF (fl : Fl) (g : SF) : Option Fl := match fl with
  | .nx e m => g e m
  | x => some x
def sSeq (f g : SF) : SF := fun env m => (f env m).bind fun fl => thenF fl g
def sRet (f : EF) : SF := fun env m => (f env m).bind fun x => some (.rt x.1 x.2)
def sRetN : SF := fun _ m => some (.rt (.val .none) m)
def sExpr (f : EF) : SF := fun env m => (f env m).bind fun x => some (.nx env x.2)
def sIf (c : TF) (f g : SF) : SF := fun env m => (c env m).bind fun x => if x.1 = true then f env x.2 else g env x.2
def sAsg (f : EF) (g : GF) : SF := fun env m => (f env m).bind fun x => (g x.1 env x.2).bind fun y => some (.nx y.1 y.2)
def gNm (i : Nat) : GF := fun r env m => some (env.set i (some r), m)
def gsNil : GsF := fun rs env m => match rs with
  | [] => some (env, m)
  | _ => none
def gsCons (g : GF) (h : GsF) : GsF := fun rs env m => match rs with
  | r :: rs => (g r env m).bind fun x => h rs x.1 x.2
  | [] => none
def gTp (n : Nat) (g : GsF) : GF := fun r env m => match r with
  | .val (.tuple ds) => if ds.length = n then g (ds.map R.val) env m else none
  | _ => none
/-- a, b = x, y by names -/
def sPar (i j : Nat) (f : AF) : SF := fun env m => (f env m).bind fun x => match x.1 with
  | [a, b] => some (.nx ((env.set i (some a)).set j (some b)) x.2)
  | _ => none

theorem dpAll_rrs {K : PySem.W.Frag} {φ : Ad} {H : Hp} : ∀ {ds : List D} {vs : List V}, DpAll K (off φ H) vs ds → RRs K φ H vs (ds.map R.val)
  | _, _, .nil => .nil
  | _, _, .cons a t => .cons a (dpAll_rrs t)
theorem off_same {φ : Ad} {H : Hp} : Same (off φ H) H := fun b o e => (off_some.mp e).2.1

section
variable {X : Cx} {e e2 c : Expr} {es : List Expr} {st : Stmt} {sts sts2 : List Stmt} {f : EF} {fa : AF} {tc : TF} {sf sg : SF} {gf : GF} {gsf : GsF} {pos : Pos}
theorem z_nil : PSs X [] (tS ζ X.K sNext) := pss_imp pss_nil fun W σ H q => by
  obtain ⟨φ, env, m, fl, S, E, hf, k⟩ := q
  cases hf
  exact k φ σ H .refl S E
theorem z_cons (h1 : PS X st (tS ζ X.K sf)) (h2 : PSs X sts (tS ζ X.K sg)) : PSs X (st :: sts) (tS ζ X.K (sSeq sf sg)) := pss_imp (pss_cons h1 h2) fun W σ H q => by
  obtain ⟨φ, env, m, fl, S, E, hf, k⟩ := q
  obtain ⟨fl1, h1, hf⟩ := bind_some_iff hf
  refine ⟨φ, env, m, fl1, S, E, h1, ?_⟩
  cases fl1 with
  | nx e1 m1 => exact fun φ1 σ1 H1 g1 S1 E1 => ⟨φ1, e1, m1, fl, S1, E1, hf, k.mono g1⟩
  | rt r1 m1 =>
    cases hf
    exact k
  | bk e1 m1 =>
    cases hf
    exact k
  | ct e1 m1 =>
    cases hf
    exact k
theorem z_one (h1 : PS X st (tS ζ X.K sf)) : PSs X [st] (tS ζ X.K sf) := pss_one h1
theorem s_pass : PS X (.Pass pos) (tS ζ X.K sNext) := ps_imp ps_pass fun W σ H q => by
  obtain ⟨φ, env, m, fl, S, E, hf, k⟩ := q
  cases hf
  exact k φ σ H .refl S E
theorem s_break : PS X (.Break pos) (tS ζ X.K sBreak) := ps_imp ps_break fun W σ H q => by
  obtain ⟨φ, env, m, fl, S, E, hf, k⟩ := q
  cases hf
  exact k φ σ H .refl S E
theorem s_cont : PS X (.Continue pos) (tS ζ X.K sCont) := ps_imp ps_continue fun W σ H q => by
  obtain ⟨φ, env, m, fl, S, E, hf, k⟩ := q
  cases hf
  exact k φ σ H .refl S E
theorem s_never : PS X st (tS ζ X.K sNever) := ps_imp ps_never fun W σ H q => by
  obtain ⟨φ, env, m, fl, S, E, hf, k⟩ := q
  cases hf
theorem s_expr (he : PE X e (tE ζ X.K f)) (hs : swapsWith e none pos.line X.env = pure false := by rfl) : PS X (.Expr e pos) (tS ζ X.K (sExpr f)) := ps_imp (ps_expr he hs) fun W σ H q => by
  obtain ⟨φ, env, m, fl, S, E, hf, k⟩ := q
  obtain ⟨⟨r1, m1⟩, h1, hf⟩ := bind_some_iff hf
  cases hf
  exact ⟨φ, env, m, r1, m1, S, E, h1, fun φ1 H1 v g1 S1 R1 => k φ1 σ H1 g1 S1 (E.mono g1)⟩
theorem s_ret (he : PE X e (tE ζ X.K f)) : PS X (.Return (some e) pos) (tS ζ X.K (sRet f)) := ps_imp (ps_ret he) fun W σ H q => by
  obtain ⟨φ, env, m, fl, S, E, hf, k⟩ := q
  obtain ⟨⟨r1, m1⟩, h1, hf⟩ := bind_some_iff hf
  cases hf
  exact ⟨φ, env, m, r1, m1, S, E, h1, fun φ1 H1 v g1 S1 R1 => k φ1 H1 v g1 S1 R1⟩
theorem s_retN : PS X (.Return none pos) (tS ζ X.K sRetN) := ps_imp ps_retN fun W σ H q => by
  obtain ⟨φ, env, m, fl, S, E, hf, k⟩ := q
  cases hf
  exact k φ H _ .refl S Dp.non
theorem s_if (hc : PT X c (tT ζ X.K tc)) (ha : PSs X sts (tS ζ X.K sf)) (hb : PSs X sts2 (tS ζ X.K sg)) : PS X (.If c sts sts2 pos) (tS ζ X.K (sIf tc sf sg)) := ps_imp (ps_if hc ha hb) fun W σ H q => by
  obtain ⟨φ, env, m, fl, S, E, hf, k⟩ := q
  obtain ⟨⟨r1, m1⟩, h1, hf⟩ := bind_some_iff hf
  refine ⟨φ, env, m, r1, m1, S, E, h1, fun φ1 H1 g1 S1 => ?_⟩
  cases r1 with
  | false =>
    rw [if_neg Bool.false_ne_true]
    simp only [Bool.false_eq_true, if_false] at hf
    exact ⟨φ1, env, m1, fl, S1, E.mono g1, hf, k.mono g1⟩
  | true =>
    rw [if_pos rfl]
    simp only [if_true] at hf
    exact ⟨φ1, env, m1, fl, S1, E.mono g1, hf, k.mono g1⟩
theorem g_imp {K : PySem.W.Frag} {W : Ends} {σ : L2.St} {H : Hp} (q : tS ζ K (sAsg f gf) W σ H) : tAsg (tE ζ K f) (tG ζ K gf) W σ H := by
  obtain ⟨φ, env, m, fl, S, E, hf, k⟩ := q
  obtain ⟨⟨r1, m1⟩, h1, hf⟩ := bind_some_iff hf
  obtain ⟨⟨e2, m2⟩, h2, hf⟩ := bind_some_iff hf
  cases hf
  exact ⟨φ, env, m, r1, m1, S, E, h1, fun φ1 H1 v g1 S1 R1 => ⟨φ1, env, m1, r1, e2, m2, S1, E.mono g1, R1, h2, EnvK.mono g1 k⟩⟩
theorem gnm_imp {K : PySem.W.Frag} {i : Nat} {v : V} {σ : L2.St} {H : Hp} {Q : L2.St → Hp → Prop} (q : tG ζ K (gNm i) v σ H Q) : gName i v σ H Q := by
  obtain ⟨φ, env, m, r, e', m', S, E, Rv, hf, k⟩ := q
  cases hf
  exact k φ _ H .refl S (E.set Rv i)
theorem s_set {i : Nat} {x : Str} {pos' : Pos} (hN : X.N.Nodup) (hi : X.N[i]? = some x) (hx : Loc X.env.scope x) (he : PE X e (tE ζ X.K f)) (hs : swapsWith e (some (.Name x pos')) pos.line X.env = pure false := by rfl) (hf : X.fn x = true ∨ X.env.scope.names.lookup x = some .local := by first | exact .inl rfl | exact .inr rfl | assumption) :
    PS X (.Assign [.Name x pos'] e pos) (tS ζ X.K (sAsg f (gNm i))) := ps_imp (ps_set hN hi hx he hs hf) fun W σ H q => by
  obtain ⟨φ, env, m, r, m', S, E, h1, k⟩ := g_imp q
  exact ⟨φ, env, m, r, m', S, E, h1, fun φ1 H1 v g1 S1 R1 => gnm_imp (k φ1 H1 v g1 S1 R1)⟩
theorem g_name {i : Nat} {x : Str} (hN : X.N.Nodup) (hi : X.N[i]? = some x) (hx : Loc X.env.scope x) (hf : X.fn x = true ∨ X.env.scope.names.lookup x = some .local := by first | exact .inl rfl | exact .inr rfl | assumption) : PG X (.Name x pos) (tG ζ X.K (gNm i)) :=
  tg_imp (pg_name hN hi hx hf) fun _ _ _ _ q => gnm_imp q
theorem g_nil : PGs X [] (tGs ζ X.K gsNil) := tgs_imp pgs_nil fun vs σ H Q q => by
  obtain ⟨φ, env, m, rs, e', m', S, E, Rv, hf, k⟩ := q
  cases Rv with
  | nil =>
    cases hf
    exact ⟨rfl, k φ σ H .refl S E⟩
  | cons a t => cases hf
theorem g_cons (h1 : PG X e (tG ζ X.K gf)) (h2 : PGs X es (tGs ζ X.K gsf)) (hs : (assignEach (e :: es) X.env).map (·.2) = assign e X.env :: (assignEach es X.env).map (·.2) := by rfl) : PGs X (e :: es) (tGs ζ X.K (gsCons gf gsf)) :=
  tgs_imp (pgs_cons h1 h2 hs) fun vs σ H Q q => by
  obtain ⟨φ, env, m, rs, e', m', S, E, Rv, hf, k⟩ := q
  cases Rv with
  | nil => cases hf
  | cons a t =>
    obtain ⟨⟨e1, m1⟩, h1, hf⟩ := bind_some_iff hf
    exact ⟨_, _, rfl, φ, env, m, _, e1, m1, S, E, a, h1, fun φ1 σ1 H1 g1 S1 E1 => ⟨φ1, e1, m1, _, e', m', S1, E1, RRs.mono g1 t, hf, EnvK.mono g1 k⟩⟩
theorem g_tup {k n : Nat} (hc : X.calm = true) (h : PGs X es (tGs ζ X.K gsf)) (hn : (assignEach es X.env).length = n := by rfl) (hst : (assignEach es X.env).findIdx? (·.1) = none := by rfl) : PG X (.Tuple es k pos) (tG ζ X.K (gTp n gsf)) :=
  tg_imp (pg_tup hc h hn hst) fun v σ H Q q => by
  obtain ⟨φ, env, m, r, e', m', S, E, Rv, hf, k⟩ := q
  unfold gTp at hf
  split at hf
  · rename_i ds
    split at hf
    · rename_i hl
      have Rv' : Dp X.K (off φ H) v (.tuple ds) := Rv
      cases Rv' with
      | tup hs ha => exact ⟨_, _, rfl, sqT_mono off_same hs, by rw [DpAll.len ha]; exact hl, φ, env, m, _, e', m', S, E, dpAll_rrs ha, hf, k⟩
    · cases hf
  · cases hf
theorem s_asg {tg : Expr} (he : PE X e (tE ζ X.K f)) (hg : PG X tg (tG ζ X.K gf)) (hs : swapsWithSole [tg] e pos.line X.env = pure false := by rfl) (hw : swappedStores [tg] e X.env = pure none := by rfl)
    (h1 : (assignEach [tg] X.env).map (·.2) = [assign tg X.env] := by rfl) : PS X (.Assign [tg] e pos) (tS ζ X.K (sAsg f gf)) := ps_imp (ps_asg he hg hs hw h1) fun _ _ _ q => g_imp q
theorem s_par {i j : Nat} {x y : Str} {a b : Expr} {px py pt : Pos} {kt k2 : Nat} {pt2 : Pos} (hc : X.calm = true) (hN : X.N.Nodup) (hi : X.N[i]? = some x) (hj : X.N[j]? = some y) (hij : i ≠ j)
    (hx : X.env.scope.names.lookup x = some .local) (hy : X.env.scope.names.lookup y = some .local) (ha : PA X [a, b] (tA ζ X.K fa))
    (hw : swappedStores [.Tuple [.Name x px, .Name y py] kt pt] (.Tuple [a, b] k2 pt2) X.env = pure (some [x, y]))
    (hs : swapsWithSole [.Tuple [.Name x px, .Name y py] kt pt] (.Tuple [a, b] k2 pt2) pos.line X.env = pure false := by rfl) :
    PS X (.Assign [.Tuple [.Name x px, .Name y py] kt pt] (.Tuple [a, b] k2 pt2) pos) (tS ζ X.K (sPar i j fa)) := ps_imp (ps_par hc hN hi hj hij hx hy ha hw hs) fun W σ H q => by
  obtain ⟨φ, env, m, fl, S, E, hf, k⟩ := q
  obtain ⟨⟨rs, m1⟩, h1, hf⟩ := bind_some_iff hf
  simp only at hf
  split at hf
  · cases hf
    refine ⟨φ, env, m, _, m1, S, E, h1, fun φ1 H1 vs g1 S1 R1 => ?_⟩
    cases R1 with
    | cons a1 t1 =>
      cases t1 with
      | cons a2 t2 =>
        cases t2
        exact ⟨_, _, rfl, k φ1 _ H1 g1 S1 (((E.mono g1).set a1 i).set a2 j)⟩
  · cases hf
end

/-! ### loops -/
/-- where the items come from: stuck, at the end, or an item -/
abbrev Src := Nat → M → Option (Option D)
def srcL (ds : List D) : Src := fun i _ => some ds[i]?
def srcR (k : Nat) : Src := fun i m => match m[k]? with
  | some (.lst ds) => some ds[i]?
  | _ => none
structure JOk (ζ : Tbs) (K : PySem.W.Frag) (J : It) (φ : Ad) (H : Hp) (src : Src) : Prop where
  stop : ∀ φ' H' m i, Gw φ H φ' H' → SR ζ K φ' H' m → src i m = some none → J.stop i H'
  go : ∀ φ' H' m i d, Gw φ H φ' H' → SR ζ K φ' H' m → src i m = some (some d) → J.go i H'
  yld : ∀ φ' H' m i d x H'', Gw φ H φ' H' → SR ζ K φ' H' m → src i m = some (some d) → J.yld i H' x H'' → Gr φ' H' φ' H'' ∧ SR ζ K φ' H'' m ∧ RR K φ' H'' x (.val d)
/-- the source, a bound of turns, the store -/
abbrev IF := Sl → M → Option ((Src × Nat) × M)
def tI (ζ : Tbs) (K : PySem.W.Frag) (f : IF) : TI := fun σ H Q => ∃ φ env m src n m', SR ζ K φ H m ∧ ER K φ H σ env ∧ f env m = some ((src, n), m') ∧
  ∀ φ' H' J, Gr φ H φ' H' → SR ζ K φ' H' m' → JOk ζ K J φ' H' src → Q J H'
/-- behind a turn: on, or out -/
def aftF (fl : Fl) (next : Sl → M → Option Fl) : Option Fl := match fl with
  | .nx e m => next e m
  | .ct e m => next e m
  | .bk e m => some (.nx e m)
  | .rt r m => some (.rt r m)
def loop (src : Src) (g : GF) (body : SF) : Nat → Nat → SF
  | 0, i => fun env m => (src i m).bind fun o => match o with
    | none => some (.nx env m)
    | some _ => none
  | n + 1, i => fun env m => (src i m).bind fun o => match o with
    | none => some (.nx env m)
    | some d => (g (.val d) env m).bind fun x => (body x.1 x.2).bind fun fl => aftF fl (loop src g body n (i + 1))
def sFor (it : IF) (g : GF) (body : SF) : SF := fun env m => (it env m).bind fun x => loop x.1.1 g body x.1.2 0 env x.2
/-- the same over a list -/
def loopL (g : GF) (body : SF) : List D → SF
  | [] => sNext
  | d :: ds => fun env m => (g (.val d) env m).bind fun x => (body x.1 x.2).bind fun fl => aftF fl (loopL g body ds)
def iL (ds : List D) (m : M) : Option ((Src × Nat) × M) := some ((srcL ds, ds.length), m)
theorem loop_srcL {g : GF} {body : SF} : ∀ (ds all : List D) (i : Nat) (env : Sl) (m : M), all.drop i = ds → loop (srcL all) g body ds.length i env m = loopL g body ds env m
  | [], all, i, env, m, h => by
    have e : all[i]? = none := List.getElem?_eq_none (by simpa using h)
    simp [loop, srcL, e, loopL, sNext]
  | d :: ds, all, i, env, m, h => by
    have e : all[i]? = some d := by
      have := congrArg (·[0]?) h
      simpa using this
    have h' : all.drop (i + 1) = ds := by
      have := congrArg (List.drop 1) h
      simpa [List.drop_drop, Nat.add_comm] using this
    have ih := fun env m => loop_srcL (g := g) (body := body) ds all (i + 1) env m h'
    have ih' : loop (srcL all) g body ds.length (i + 1) = loopL g body ds := by
      funext env m
      exact ih env m
    simp only [List.length_cons, loop, srcL, e, Option.bind_some, loopL]
    rw [ih']
theorem sFor_L {it : IF} {g : GF} {body : SF} {env : Sl} {m m' : M} {ds : List D} (h : it env m = iL ds m') : sFor it g body env m = loopL g body ds env m' := by
  unfold sFor
  rw [h]
  exact loop_srcL ds ds 0 env m' rfl
def wloop (c : TF) (body : SF) : Nat → SF
  | 0 => fun _ _ => none
  | n + 1 => fun env m => (c env m).bind fun x => if x.1 = true then (body env x.2).bind fun fl => aftF fl (wloop c body n) else some (.nx env x.2)
section
variable {X : Cx} {c e tg : Expr} {sts : List Stmt} {tc : TF} {sf : SF} {gf : GF} {it : IF} {pos : Pos}
theorem s_while {n : Nat} (hp : PassesOwn (model X.prog X.w) X.A X.env X.xe) (hc : PT X c (tT ζ X.K tc)) (hb : PSs X sts (tS ζ X.K sf)) : PS X (.While c sts [] pos) (tS ζ X.K (wloop tc sf n)) := ps_imp (ps_while hp hc hb) fun W σ H q => by
  obtain ⟨φ, env, m, fl, S, E, hf, k⟩ := q
  refine ⟨fun n σ1 H1 => ∃ φ1 env1 m1 fl1, SR ζ X.K φ1 H1 m1 ∧ ER X.K φ1 H1 σ1 env1 ∧ wloop tc sf n env1 m1 = some fl1 ∧ FlOk ζ X.K φ1 H1 W fl1, ⟨n, φ, env, m, fl, S, E, hf, k⟩, ?_⟩
  intro n σ1 H1 ⟨φ1, env1, m1, fl1, S1, E1, hf1, k1⟩
  cases n with
  | zero => cases hf1
  | succ n =>
    obtain ⟨⟨b, m2⟩, h1, hf1⟩ := bind_some_iff hf1
    refine ⟨φ1, env1, m1, b, m2, S1, E1, h1, fun φ2 H2 g2 S2 => ?_⟩
    cases b with
    | false =>
      rw [if_neg Bool.false_ne_true]
      simp only [Bool.false_eq_true, if_false] at hf1
      cases hf1
      exact k1 φ2 σ1 H2 g2 S2 (E1.mono g2)
    | true =>
      rw [if_pos rfl]
      simp only [if_true] at hf1
      obtain ⟨fl2, h2, hf1⟩ := bind_some_iff hf1
      refine ⟨fun σ3 H3 => ∃ φ3 env3 m3, SR ζ X.K φ3 H3 m3 ∧ ER X.K φ3 H3 σ3 env3 ∧ wloop tc sf n env3 m3 = some fl1 ∧ FlOk ζ X.K φ3 H3 W fl1, fun σ3 H3 ⟨φ3, env3, m3, S3, E3, h3, k3⟩ => ⟨n, Nat.lt_succ_self n, φ3, env3, m3, fl1, S3, E3, h3, k3⟩, ?_⟩
      refine ⟨φ2, env1, m2, fl2, S2, E1.mono g2, h2, ?_⟩
      cases fl2 with
      | nx e4 m4 => exact fun φ3 σ3 H3 g3 S3 E3 => ⟨φ3, e4, m4, S3, E3, hf1, k1.mono (g2.trans g3)⟩
      | ct e4 m4 => exact fun φ3 σ3 H3 g3 S3 E3 => ⟨φ3, e4, m4, S3, E3, hf1, k1.mono (g2.trans g3)⟩
      | bk e4 m4 =>
        cases hf1
        exact EnvK.mono g2 k1
      | rt e4 m4 =>
        cases hf1
        exact ValK.mono g2 k1
theorem for_imp {K : PySem.W.Frag} {W : Ends} {σ : L2.St} {H : Hp} (q : tS ζ K (sFor it gf sf) W σ H) : tFor (tI ζ K it) (tG ζ K gf) (tS ζ K sf) W σ H := by
  obtain ⟨φ, env, m, fl, S, E, hf, k⟩ := q
  obtain ⟨⟨⟨src, n⟩, m'⟩, h1, hf⟩ := bind_some_iff hf
  refine ⟨φ, env, m, src, n, m', S, E, h1, fun φ1 H1 J g1 S1 JJ => ?_⟩
  refine ⟨fun i n σ2 H2 => ∃ φ2 env2 m2, Gr φ1 H1 φ2 H2 ∧ SR ζ K φ2 H2 m2 ∧ ER K φ2 H2 σ2 env2 ∧ loop src gf sf n i env2 m2 = some fl ∧ FlOk ζ K φ2 H2 W fl, ⟨n, φ1, env, m', .refl, S1, E.mono g1, hf, k.mono g1⟩, ?_⟩
  intro i n σ2 H2 ⟨φ2, env2, m2, g2, S2, E2, h2, k2⟩
  have cas : ∃ o, src i m2 = some o := by
    cases n <;> (obtain ⟨o, ho, _⟩ := bind_some_iff h2; exact ⟨o, ho⟩)
  obtain ⟨o, ho⟩ := cas
  cases o with
  | none =>
    refine .inl ⟨JJ.stop φ2 H2 m2 i g2.w S2 ho, ?_⟩
    have e : loop src gf sf n i env2 m2 = some (.nx env2 m2) := by
      cases n <;> simp [loop, ho]
    rw [e] at h2
    cases h2
    exact k2 φ2 σ2 H2 .refl S2 E2
  | some d =>
    cases n with
    | zero => simp [loop, ho] at h2
    | succ n =>
      refine .inr ⟨JJ.go φ2 H2 m2 i d g2.w S2 ho, fun σ3 H3 => ∃ φ3 env3 m3, Gr φ1 H1 φ3 H3 ∧ SR ζ K φ3 H3 m3 ∧ ER K φ3 H3 σ3 env3 ∧ loop src gf sf n (i + 1) env3 m3 = some fl ∧ FlOk ζ K φ3 H3 W fl, fun σ3 H3 z => ⟨n, Nat.lt_succ_self n, z⟩, fun x H3 hy => ?_⟩
      obtain ⟨g3, S3, R3⟩ := JJ.yld φ2 H2 m2 i d x H3 g2.w S2 ho hy
      simp only [loop, ho, Option.bind_some] at h2
      obtain ⟨⟨e4, m4⟩, h4, h2⟩ := bind_some_iff h2
      obtain ⟨fl5, h5, h2⟩ := bind_some_iff h2
      refine ⟨φ2, env2, m2, .val d, e4, m4, S3, E2.mono g3, R3, h4, fun φ6 σ6 H6 g6 S6 E6 => ?_⟩
      refine ⟨φ6, e4, m4, fl5, S6, E6, h5, ?_⟩
      cases fl5 with
      | nx e7 m7 => exact fun φ7 σ7 H7 g7 S7 E7 => ⟨φ7, e7, m7, g2.trans (g3.trans (g6.trans g7)), S7, E7, h2, k2.mono (g3.trans (g6.trans g7))⟩
      | ct e7 m7 => exact fun φ7 σ7 H7 g7 S7 E7 => ⟨φ7, e7, m7, g2.trans (g3.trans (g6.trans g7)), S7, E7, h2, k2.mono (g3.trans (g6.trans g7))⟩
      | bk e7 m7 =>
        cases h2
        exact EnvK.mono (g3.trans g6) k2
      | rt e7 m7 =>
        cases h2
        exact ValK.mono (g3.trans g6) k2
theorem s_for (hp : PassesOwn (model X.prog X.w) X.A X.env X.xe) (hc : X.calm = true) (hi : PI X tg e (tI ζ X.K it)) (hg : PG X tg (tG ζ X.K gf)) (hb : PSs X sts (tS ζ X.K sf)) (hs : ∀ x, foldedSetIterable e X.env x = pure x := by intro _; rfl) :
    PS X (.For tg e sts [] pos) (tS ζ X.K (sFor it gf sf)) := ps_imp (ps_for hp hc hi hg hb hs) fun _ _ _ q => for_imp q
end

/-! ### what is walked -/
theorem off_of_same {φ φ' : Ad} {H H' : Hp} (g : Gr φ H φ' H') {a : Addr} {o : HO} (h : off φ H a = some o) : H' a = some o := (off_some.mp (g.same a o h)).2.1
theorem jok_list {K : PySem.W.Frag} {φ : Ad} {H : Hp} {a : Addr} {xs : List V} {ds : List D} (h : SqL K (off φ H) a xs) (hd : DpAll K (off φ H) xs ds) : JOk ζ K (Itl K a) φ H (srcL ds) where
  stop := fun φ' H' m i g S e => ⟨xs, (off_same.seq (g.same.seq h)), by
    have e' : ds[i]? = none := Option.some.inj e
    rw [DpAll.len hd]
    exact List.getElem?_eq_none_iff.mp e'⟩
  go := fun φ' H' m i d g S e => by
    have e' : ds[i]? = some d := Option.some.inj e
    obtain ⟨v, h1, h2⟩ := DpAll.get hd e'
    exact ⟨xs, v, off_same.seq (g.same.seq h), h1⟩
  yld := fun φ' H' m i d x H'' g S e y => by
    have e' : ds[i]? = some d := Option.some.inj e
    obtain ⟨v, h1, h2⟩ := DpAll.get hd e'
    obtain ⟨rfl, y⟩ := y
    have q := y xs (off_same.seq (g.same.seq h))
    rw [h1] at q
    cases q
    exact ⟨.refl, S, dp_mono g.same h2⟩
theorem jok_tup {K : PySem.W.Frag} {φ : Ad} {H : Hp} {a : Addr} {xs : List V} {ds : List D} (h : SqT K (off φ H) a xs) (hd : DpAll K (off φ H) xs ds) : JOk ζ K (Itt K a) φ H (srcL ds) where
  stop := fun φ' H' m i g S e => ⟨xs, (sqT_mono off_same (sqT_mono g.same h)), by
    have e' : ds[i]? = none := Option.some.inj e
    rw [DpAll.len hd]
    exact List.getElem?_eq_none_iff.mp e'⟩
  go := fun φ' H' m i d g S e => by
    have e' : ds[i]? = some d := Option.some.inj e
    obtain ⟨v, h1, h2⟩ := DpAll.get hd e'
    exact ⟨xs, v, sqT_mono off_same (sqT_mono g.same h), h1⟩
  yld := fun φ' H' m i d x H'' g S e y => by
    have e' : ds[i]? = some d := Option.some.inj e
    obtain ⟨v, h1, h2⟩ := DpAll.get hd e'
    obtain ⟨rfl, y⟩ := y
    have q := y xs (sqT_mono off_same (sqT_mono g.same h))
    rw [h1] at q
    cases q
    exact ⟨.refl, S, dp_mono g.same h2⟩
theorem jok_live {K : PySem.W.Frag} {φ : Ad} {H : Hp} {k : Nat} {a : Addr} (h : φ.s[k]? = some a) : JOk ζ K (Itl K a) φ H (srcR k) where
  stop := fun φ' H' m i g S e => by
    unfold srcR at e
    split at e
    · rename_i ds hm
      obtain ⟨xs, h1, h2⟩ := S.obj k _ a hm (prefix_get g.pre h)
      have e' : ds[i]? = none := Option.some.inj e
      exact ⟨xs, .inl (.inl h1), by rw [DpAll.len h2]; exact List.getElem?_eq_none_iff.mp e'⟩
    · cases e
  go := fun φ' H' m i d g S e => by
    unfold srcR at e
    split at e
    · rename_i ds hm
      obtain ⟨xs, h1, h2⟩ := S.obj k _ a hm (prefix_get g.pre h)
      have e' : ds[i]? = some d := Option.some.inj e
      obtain ⟨v, h3, h4⟩ := DpAll.get h2 e'
      exact ⟨xs, v, .inl (.inl h1), h3⟩
    · cases e
  yld := fun φ' H' m i d x H'' g S e y => by
    unfold srcR at e
    split at e
    · rename_i ds hm
      obtain ⟨xs, h1, h2⟩ := S.obj k _ a hm (prefix_get g.pre h)
      have e' : ds[i]? = some d := Option.some.inj e
      obtain ⟨v, h3, h4⟩ := DpAll.get h2 e'
      obtain ⟨rfl, y⟩ := y
      have q := y xs (.inl (.inl h1))
      rw [h3] at q
      cases q
      exact ⟨.refl, S, h4⟩
    · cases e
theorem jok_range {K : PySem.W.Frag} {φ : Ad} {H : Hp} {lo : Int} {n : Nat} : JOk ζ K (Itr lo n) φ H (srcL ((List.range n).map fun j : Nat => PyData.int (lo + (j : Int)))) where
  stop := fun φ' H' m i g S e => by
    have e' := List.getElem?_eq_none_iff.mp (Option.some.inj e)
    have e2 : n ≤ i := by simpa using e'
    exact e2
  go := fun φ' H' m i d g S e => by
    have e' := (List.getElem?_eq_some_iff.mp (Option.some.inj e)).1
    have e2 : i < n := by simpa using e'
    exact e2
  yld := fun φ' H' m i d x H'' g S e y => by
    obtain ⟨hi, e'⟩ := List.getElem?_eq_some_iff.mp (Option.some.inj e)
    simp at e'
    obtain ⟨rfl, rfl⟩ := y
    subst e'
    exact ⟨.refl, S, Dp.int _⟩
/-- a list (of the store or not) or a tuple walked -/
def itSeq (f : EF) : IF := fun env m => (f env m).bind fun x => match x.1 with
  | .val (.list ds) => iL ds x.2
  | .ref k => match x.2[k]? with
    | some (.lst ds) => some ((srcR k, ds.length), x.2)
    | _ => none
  | _ => none
def itTup (f : EF) : IF := fun env m => (f env m).bind fun x => match x.1 with
  | .val (.tuple ds) => iL ds x.2
  | _ => none
def rngD (lo : Int) (n : Nat) : List D := (List.range n).map fun j : Nat => PyData.int (lo + (j : Int))
def itRng1 (f : AF) : IF := fun env m => (f env m).bind fun x => match x.1 with
  | [.val (.int j)] => if -(2 ^ 62) ≤ j ∧ j < 2 ^ 62 then iL (rngD 0 j.toNat) x.2 else none
  | _ => none
def itRng2 (f : AF) : IF := fun env m => (f env m).bind fun x => match x.1 with
  | [.val (.int i), .val (.int j)] => if -(2 ^ 62) ≤ i ∧ i < 2 ^ 62 ∧ -(2 ^ 62) ≤ j ∧ j < 2 ^ 62 then iL (rngD i (j - i).toNat) x.2 else none
  | _ => none
section
variable {X : Cx} {tg e a b : Expr} {f : EF} {fa : AF} {p pos : Pos}
theorem i_list (he : PE X e (tE ζ X.K f)) : PI X tg e (tI ζ X.K (itSeq f)) := pi_imp (pi_list he) fun σ H Q q => by
  obtain ⟨φ, env, m, src, n, m', S, E, hf, k⟩ := q
  obtain ⟨⟨r, m1⟩, h1, hf⟩ := bind_some_iff hf
  refine ⟨φ, env, m, r, m1, S, E, h1, fun φ1 H1 v g1 S1 R1 => ?_⟩
  cases r with
  | tp j => cases hf
  | val d =>
    cases d with
    | list ds =>
      cases hf
      have R1' : Dp X.K (off φ1 H1) v (.list ds) := R1
      cases R1' with
      | lst hs ha => exact ⟨_, rfl, ⟨_, off_same.seq hs⟩, k φ1 H1 _ g1 S1 (jok_list hs ha)⟩
    | _ => cases hf
  | ref j =>
    simp only at hf
    split at hf
    · rename_i ds hm
      cases hf
      obtain ⟨ad, e1, e2⟩ := R1
      obtain ⟨xs, h3, h4⟩ := S1.obj j _ ad hm e2
      exact ⟨ad, e1, ⟨xs, .inl (.inl h3)⟩, k φ1 H1 _ g1 S1 (jok_live e2)⟩
    · cases hf
theorem i_tup (he : PE X e (tE ζ X.K f)) : PI X tg e (tI ζ X.K (itTup f)) := pi_imp (pi_tup he) fun σ H Q q => by
  obtain ⟨φ, env, m, src, n, m', S, E, hf, k⟩ := q
  obtain ⟨⟨r, m1⟩, h1, hf⟩ := bind_some_iff hf
  refine ⟨φ, env, m, r, m1, S, E, h1, fun φ1 H1 v g1 S1 R1 => ?_⟩
  cases r with
  | tp j => cases hf
  | val d =>
    cases d with
    | tuple ds =>
      cases hf
      have R1' : Dp X.K (off φ1 H1) v (.tuple ds) := R1
      cases R1' with
      | tup hs ha => exact ⟨_, rfl, ⟨_, sqT_mono off_same hs⟩, k φ1 H1 _ g1 S1 (jok_tup hs ha)⟩
    | _ => cases hf
  | ref j => cases hf
theorem i_range1 (hg : Gl X "range") (hm : X.mg "range" = none) (ha : PA X [a] (tA ζ X.K fa)) (hs : starEach [a] X.env = [(false, eval a X.env)] := by rfl) : PI X tg (.Call (.Name "range" p) [a] [] pos) (tI ζ X.K (itRng1 fa)) :=
  pi_imp (pi_range1 hg hm ha hs) fun σ H Q q => by
  obtain ⟨φ, env, m, src, n, m', S, E, hf, k⟩ := q
  obtain ⟨⟨rs, m1⟩, h1, hf⟩ := bind_some_iff hf
  simp only at hf
  split at hf
  · rename_i j
    split at hf
    · rename_i hj
      cases hf
      refine ⟨φ, env, m, _, _, S, E, h1, fun φ1 H1 vs g1 S1 R1 => ?_⟩
      cases R1 with
      | cons a1 t1 =>
        cases t1
        have a1' : Dp X.K (off φ1 H1) _ (.int j) := a1
        cases a1'
        exact ⟨j, rfl, hj.1, hj.2, k φ1 H1 _ g1 S1 jok_range⟩
    · cases hf
  · cases hf
theorem i_range2 (hg : Gl X "range") (hm : X.mg "range" = none) (ha : PA X [a, b] (tA ζ X.K fa)) (hs : starEach [a, b] X.env = [(false, eval a X.env), (false, eval b X.env)] := by rfl) (hs2 : starEach [b] X.env = [(false, eval b X.env)] := by rfl) : PI X tg (.Call (.Name "range" p) [a, b] [] pos) (tI ζ X.K (itRng2 fa)) :=
  pi_imp (pi_range2 hg hm ha hs hs2) fun σ H Q q => by
  obtain ⟨φ, env, m, src, n, m', S, E, hf, k⟩ := q
  obtain ⟨⟨rs, m1⟩, h1, hf⟩ := bind_some_iff hf
  simp only at hf
  split at hf
  · rename_i i j
    split at hf
    · rename_i hj
      cases hf
      refine ⟨φ, env, m, _, _, S, E, h1, fun φ1 H1 vs g1 S1 R1 => ?_⟩
      cases R1 with
      | cons a1 t1 =>
        cases t1 with
        | cons a2 t2 =>
          cases t2
          have a1' : Dp X.K (off φ1 H1) _ (.int i) := a1
          have a2' : Dp X.K (off φ1 H1) _ (.int j) := a2
          cases a1'
          cases a2'
          exact ⟨i, j, rfl, hj, k φ1 H1 _ g1 S1 jok_range⟩
    · cases hf
  · cases hf
end

/-! ### functions -/
abbrev Fn := List R → M → Option (R × M)
def spF (ζ : Tbs) (K : PySem.W.Frag) (n : Nat) (F : Fn) : Sp := fun vs H Q _ => vs.length = n ∧ ∃ φ m rs r m', SR ζ K φ H m ∧ RRs K φ H vs rs ∧ F rs m = some (r, m') ∧ ValK ζ K φ H r m' Q
/-- a tuple's own objects become data -/
def freezeT (b : Nat) (m : M) : List (D ⊕ Nat) → Option (List D)
  | [] => some []
  | .inl d :: rs => (freezeT b m rs).bind fun ds => some (d :: ds)
  | .inr i :: rs => if i < b then none else match m[i]? with
    | some (.lst ds) => (freezeT b m rs).bind fun es => some (.list ds :: es)
    | _ => none
/-- what a function hands back, its own objects dropped -/
def leave (b : Nat) (r : R) (m : M) : Option (R × M) := match r with
  | .val d => some (.val d, m.take b)
  | .ref i => if i < b then some (.ref i, m.take b) else match m[i]? with
    | some (.lst ds) => some (.val (.list ds), m.take b)
    | some (.dct t false kvs) => some (.ref b, m.take b ++ [.dct t false kvs])
    | _ => none
  | .tp rs => (freezeT b m rs).bind fun ds => some (.val (.tuple ds), m.take b)
def bodyF (n : Nat) (body : SF) : Fn := fun rs m => (body (rs.map some ++ List.replicate (n - rs.length) none) m).bind fun fl => match fl with
  | .rt r m' => leave m.length r m'
  | .nx _ m' => some (.val .none, m'.take m.length)
  | _ => none
/-- .. its own objects kept -/
def bodyK (n : Nat) (body : SF) : Fn := fun rs m => (body (rs.map some ++ List.replicate (n - rs.length) none) m).bind fun fl => match fl with
  | .rt r m' => some (r, m')
  | .nx _ m' => some (.val .none, m')
  | _ => none
section
variable {K : PySem.W.Frag} {φ φ' : Ad} {H H' : Hp} {m m' : M}
theorem Paired.len {α β : Type} {F : α → β → Prop} : ∀ {l₁ : List α} {l₂ : List β}, Paired F l₁ l₂ → l₁.length = l₂.length
  | _, _, .nil => rfl
  | _, _, .cons _ t => by rw [List.length_cons, List.length_cons, Paired.len t]
theorem Paired.at_ {α β : Type} {F : α → β → Prop} : ∀ {l₁ : List α} {l₂ : List β} {i : Nat} {b : β}, Paired F l₁ l₂ → l₂[i]? = some b → ∃ a, l₁[i]? = some a ∧ F a b
  | _, _, _, _, .nil, e => by simp at e
  | _, _, 0, _, .cons (a := a) h t, e => by
    simp at e
    subst e
    exact ⟨a, rfl, h⟩
  | _, _, i + 1, _, .cons _ t, e => by
    obtain ⟨v, h1, h2⟩ := Paired.at_ (i := i) t (by simpa using e)
    exact ⟨v, by simpa using h1, h2⟩
theorem er_start {N : List Str} {vs : List V} {rs : List R} (h : RRs K φ H vs rs) : ER K φ H (L2.start N vs) (rs.map some ++ List.replicate (N.length - rs.length) none) := by
  have hl := Paired.len h
  unfold L2.start
  refine ⟨by simp [hl], fun i r e => ?_⟩
  by_cases hi : i < rs.length
  · rw [List.getElem?_append_left (by simpa using hi), List.getElem?_map] at e
    cases q : rs[i]? with
    | none => rw [q] at e; cases e
    | some r' =>
      rw [q] at e
      cases e
      obtain ⟨v, h1, h2⟩ := Paired.at_ h q
      exact ⟨v, by rw [List.getElem?_append_left (by rw [List.length_map, hl]; exact hi), List.getElem?_map, h1]; rfl, h2⟩
  · rw [List.getElem?_append_right (by simpa using hi), List.getElem?_replicate] at e
    split at e <;> cases e
theorem gr_cut (g : Gr φ H φ' H') : Same (off φ' H') (off φ H') := fun b o e => by
  rw [off_some] at e ⊢
  refine ⟨fun z => e.1 ?_, e.2⟩
  rcases Ad.mem.mp z with z | z
  · exact Ad.mem.mpr (.inl (g.pre.subset z))
  · exact Ad.mem.mpr (.inr (by rw [g.eqh]; exact z))
theorem Gr.cut (g : Gr φ H φ' H') : Gr φ H φ H' := ⟨List.prefix_refl _, rfl, rfl, fun b o e => gr_cut g b o (g.same b o e), g.stay, g.frz⟩
theorem SR.cut (S : SR ζ K φ H m) (S' : SR ζ K φ' H' m') (g : Gr φ H φ' H') : SR ζ K φ H' (m'.take m.length) := by
  obtain ⟨t, ht⟩ := g.pre
  refine ⟨?_, S.nd, fun i o a e1 e2 => ?_, fun a ha => ?_, S.teq, S.tin, by have q := S'.tab; rw [g.eqt] at q; exact q, S'.pl, S.kt⟩
  · rw [List.length_take, ← S'.len, ← ht, List.length_append, S.len]
    omega
  · have hi : i < m.length := by
      rw [← S.len]
      exact (List.getElem?_eq_some_iff.mp e2).1
    rw [List.getElem?_take_of_lt hi] at e1
    exact (S'.obj i o a e1 (prefix_get g.pre e2)).mono (gr_cut g) fun _ z => z
  · have q := S'.hid a (by rw [g.eqh]; exact ha)
    rw [g.eqt] at q
    exact q
theorem own_out (S : SR ζ K φ H m) (S' : SR ζ K φ' H' m') (g : Gr φ H φ' H') {i : Nat} {a : Addr} (hi : ¬ i < m.length) (h : φ'.s[i]? = some a) : a ∉ φ.all := fun z => by
  rcases Ad.mem.mp z with z | z
  · obtain ⟨j, hj, e⟩ := List.mem_iff_getElem.mp z
    have q : φ'.s[j]? = some a := prefix_get g.pre (by rw [List.getElem?_eq_getElem hj, e])
    have := nodup_at S'.nds h q
    rw [S.len] at hj
    omega
  · exact S'.apart (List.mem_of_getElem? h) (by rw [g.eqh]; exact z)
theorem freeze_ok (S : SR ζ K φ H m) (S' : SR ζ K φ' H' m') (g : Gr φ H φ' H') : ∀ {rs : List (D ⊕ Nat)} {vs : List V} {ds : List D}, Paired (RI K φ' H') vs rs → freezeT m.length m' rs = some ds → DpAll K (off φ H') vs ds
  | [], _, _, .nil, e => by
    cases e
    exact .nil
  | .inl d :: rs, _, _, .cons h t, e => by
    obtain ⟨es, e1, e2⟩ := bind_some_iff e
    cases e2
    exact .cons (dp_mono (gr_cut g) h) (freeze_ok S S' g t e1)
  | .inr i :: rs, _, _, .cons h t, e => by
    obtain ⟨a, rfl, h⟩ := h
    unfold freezeT at e
    split at e
    · cases e
    · rename_i hi
      split at e
      · rename_i ds hm
        obtain ⟨es, e1, e2⟩ := bind_some_iff e
        cases e2
        obtain ⟨xs, h1, h2⟩ := S'.obj i _ a hm h
        exact .cons (Dp.lst (.inl (.inl (off_some.mpr ⟨own_out S S' g hi h, h1, rfl⟩))) (dps_mono (gr_cut g) h2)) (freeze_ok S S' g t e1)
      · cases e
theorem leave_ok {v : V} {r r2 : R} {m2 : M} (S : SR ζ K φ H m) (S' : SR ζ K φ' H' m') (g : Gr φ H φ' H') (h : RR K φ' H' v r) (e : leave m.length r m' = some (r2, m2)) : ∃ φ2, Gr φ H φ2 H' ∧ SR ζ K φ2 H' m2 ∧ RR K φ2 H' v r2 := by
  cases r with
  | tp rs =>
    obtain ⟨a, vs, rfl, h1, h2⟩ := h
    obtain ⟨ds, e1, e2⟩ := bind_some_iff e
    cases e2
    exact ⟨φ, g.cut, S.cut S' g, Dp.tup (sqT_mono (gr_cut g) h1) (freeze_ok S S' g h2 e1)⟩
  | val d =>
    cases e
    exact ⟨φ, g.cut, S.cut S' g, dp_mono (gr_cut g) h⟩
  | ref i =>
    obtain ⟨a, rfl, h⟩ := h
    unfold leave at e
    simp only at e
    split at e
    · rename_i hi
      cases e
      refine ⟨φ, g.cut, S.cut S' g, a, rfl, ?_⟩
      obtain ⟨t, ht⟩ := g.pre
      rw [← ht, List.getElem?_append_left (by rw [S.len]; exact hi)] at h
      exact h
    · rename_i hi
      have na : a ∉ φ.all := fun z => by
        rcases Ad.mem.mp z with z | z
        · obtain ⟨j, hj, e⟩ := List.mem_iff_getElem.mp z
          have q : φ'.s[j]? = some a := prefix_get g.pre (by rw [List.getElem?_eq_getElem hj, e])
          have := nodup_at S'.nds h q
          rw [S.len] at hj
          omega
        · exact S'.apart (List.mem_of_getElem? h) (by rw [g.eqh]; exact z)
      split at e
      · rename_i ds hm
        cases e
        obtain ⟨xs, h1, h2⟩ := S'.obj i _ a hm h
        exact ⟨φ, g.cut, S.cut S' g, Dp.lst (.inl (.inl (off_some.mpr ⟨na, h1, rfl⟩))) (dps_mono (gr_cut g) h2)⟩
      · rename_i t kvs hm
        cases e
        have C := S.cut S' g
        have sm : Same (off φ' H') (off (φ.add a) H') := fun b o e => by
          rw [off_some] at e ⊢
          refine ⟨fun z => e.1 ?_, e.2⟩
          rcases Ad.mem.mp z with z | z
          · rcases List.mem_append.mp z with z | z
            · exact Ad.mem.mpr (.inl (g.pre.subset z))
            · simp at z
              subst z
              exact Ad.mem.mpr (.inl (List.mem_of_getElem? h))
          · exact Ad.mem.mpr (.inr (by rw [g.eqh]; exact z))
        refine ⟨φ.add a, ⟨List.prefix_append _ _, rfl, rfl, fun b o e => sm b o (g.same b o e), g.stay, g.frz⟩, ⟨?_, nodup_add S.nd na, fun j o b e1 e2 => ?_, C.hid, C.teq, C.tin, C.tab, C.pl, C.kt⟩, a, rfl, ?_⟩
        · show (φ.s ++ [a]).length = _
          rw [List.length_append, List.length_append, C.len]
          rfl
        · have e2' : (φ.s ++ [a])[j]? = some b := e2
          by_cases hj : j < φ.s.length
          · have hj' : j < m.length := by rw [← S.len]; exact hj
            have hm' : m.length ≤ m'.length := by
              rw [← S.len, ← S'.len]
              exact g.pre.length_le
            rw [List.getElem?_append_left hj] at e2'
            rw [List.getElem?_append_left (by rw [List.length_take]; omega), List.getElem?_take_of_lt hj'] at e1
            exact (S'.obj j o b e1 (prefix_get g.pre e2')).mono sm fun _ z => z
          · have hl : (m'.take m.length).length = φ.s.length := C.len.symm
            have q : j = φ.s.length := by
              have := (List.getElem?_eq_some_iff.mp e2').1
              rw [List.length_append] at this
              simp at this
              omega
            subst q
            rw [List.getElem?_append_right (Nat.le_refl _), Nat.sub_self] at e2'
            rw [← hl, List.getElem?_append_right (Nat.le_refl _), Nat.sub_self] at e1
            simp at e1 e2'
            subst e1 e2'
            exact (S'.obj i _ a hm h).mono sm fun _ z => z
        · show (φ.s ++ [a])[m.length]? = some a
          rw [← S.len, List.getElem?_append_right (Nat.le_refl _), Nat.sub_self]
          rfl
      · cases e
end
structure FnG (P : Program) (w : World) (K : PySem.W.Frag) (mg : Str → Option Value) (base : Heap) (k : Nat) (f : Addr) (fd : FuncData) (ps : List Str) (sp : Sp) : Prop where
  len : ∀ vs H Q E, sp vs H Q E → vs.length = ps.length
  go : ∀ (A : Around) (outer : List Env) (s : Shared) (H : Hp) (args : Args) (us : List Value) (vs : List V) (Q : VK) (E : XK), A.guards = some [] → Room k A → Env0 P w K mg base A outer s H → BindsTo s fd args (ps.zip us) → Vals vs us → sp vs H Q E →
    codeAny (model P w) A (.call (.ref f) args) (CR CX0 outer P w H s Q E) s
section
variable {P : Program} {w : World} {K : PySem.W.Frag} {mg : Str → Option Value} {base : Heap}
theorem guards_deeper {A : Around} {env : Env} (h : A.guards = some []) : (A.deeper env).guards = some [] := h
/-- the context of a def's body -/
abbrev Cf (P : Program) (w : World) (K : PySem.W.Frag) (mg : Str → Option Value) (base : Heap) (N : List Str) (qual : Str) (st : Stmt) (f : Addr) (cdv : Value) (A : Around) (outer : List Env) (s : Shared) (H : Hp) (E : XK) : Cx := (cxOf CX0 P w K mg base N qual (defScope st) f cdv A outer s H E).nox
/-- the rule of a def -/
theorem fnG {x qual : Str} {st : Stmt} {f : Addr} {fd : FuncData} {N ps : List Str} {k : Nat} {sp : Sp} {t : TS} (F : Fun K x qual st f fd) (S : FnScope N ps (defScope st)) (len : ∀ vs H Q E, sp vs H Q E → vs.length = ps.length)
    (hb : ∀ cdv A outer s H E, fd.code = cdv → A.guards = some [] → Room k (A.deeper (envOfC qual (defScope st) s.heap.objs.size f cdv)) → PSs (Cf P w K mg base N qual st f cdv A outer s H E) (defBody st) t)
    (hq : ∀ vs H Q E, sp vs H Q E → t { nx := fun _ H' => Q .non H', rt := Q } (L2.start N vs) H) : FnG P w K mg base (k + 1) f fd ps sp := by
  obtain ⟨oc, od, kV, doc, pm, an, cdv, ct, osl, rfl, lk, hcd⟩ := F.ex
  refine ⟨len, fun A outer s H args us vs Q E hg hr e0 hbd r hsp => ?_⟩
  have hl := len _ _ _ _ hsp
  have stay : ∀ b o, base.get? b = some o → s.heap.get? b = some o := fun b o e => (e0.bs b o e).1
  have KX : K.In s.heap := e0.mod.kin.keeps stay
  have lim : s.heap.NoLimit := e0.mod.nolimit.keeps stay
  have kinds : ∀ y ∈ ps.zip us, (defScope st).names.lookup y.1 = some .local ∨ ((defScope st).names.lookup y.1 = some .cell ∧ ((cellsFrom (s.heap.objs.size + 1) (defScope st).names []).lookup y.1).isSome = true) := by
    rintro ⟨n, v⟩ hy
    rcases S.par n (List.of_mem_zip hy).1 with q | q
    · exact Or.inl q
    · exact Or.inr ⟨q, PySem.W.cellsFrom_some _ _ _ (Or.inl q)⟩
  refine codeAny_call_function hr.depth (KX _ _ lk) rfl S.co S.gen rfl (PySem.W.codeRec_of KX hcd) (hbd _ _ _ _ ?_)
  refine wpAny_newFunctionEnv_cells S.kind kinds fun env he s1 x => ?_
  subst he
  refine ⟨lim.keeps x.toInCall.keep, codeAny_func ?_⟩
  have ht := hb cdv A outer s H E rfl hg (hr.deeper _)
  have I : Inv (cxOf CX0 P w K mg base N qual (defScope st) f cdv A outer s H E) [] (L2.start N vs) H s1 := inv_start S hr.hd e0 hl r x
  refine wpAny_mono ((PSs.nox ht).run [] s1 (L2.start N vs) H _ I (hq vs H Q E hsp)) (fun fl s' hs => ?_) fun e s' hs => hs
  have fin : ∀ {σ' : L2.St} {H' : Hp} {v : V} {u : Value}, Inv (cxOf CX0 P w K mg base N qual (defScope st) f cdv A outer s H E) [] σ' H' s' → RelV v u → Q v H' → CE outer P w H s Q u s' :=
    fun {σ' H' v u} J rv q => ⟨v, H', J.os, J.bare, J.base, J.hok, rv, q⟩
  cases fl with
  | ret u =>
    obtain ⟨v, σ', H', J, rv, q⟩ := hs
    exact fin J rv q
  | next =>
    obtain ⟨σ', H', J, q⟩ := hs
    exact fin (v := V.non) (u := Value.none) J rfl q
  | brk =>
    obtain ⟨_, _, _, q⟩ := hs
    exact q.elim
  | cont =>
    obtain ⟨_, _, _, q⟩ := hs
    exact q.elim
/-- .. by its function -/
theorem fnF {x qual : Str} {st : Stmt} {f : Addr} {fd : FuncData} {N ps : List Str} {k n : Nat} {body : SF} (F : Fun K x qual st f fd) (S : FnScope N ps (defScope st)) (hn : N.length = n)
    (hb : ∀ cdv A outer s H E, fd.code = cdv → A.guards = some [] → Room k (A.deeper (envOfC qual (defScope st) s.heap.objs.size f cdv)) → PSs (Cf P w K mg base N qual st f cdv A outer s H E) (defBody st) (tS ζ K body)) :
    FnG P w K mg base (k + 1) f fd ps (spF ζ K ps.length (bodyF n body)) := by
  refine fnG F S (fun vs H Q E h => h.1) hb fun vs H Q E h => ?_
  obtain ⟨_, φ, m, rs, r, m', SS, RS, hf, k⟩ := h
  obtain ⟨fl, hfl, hf⟩ := bind_some_iff hf
  rw [← hn] at hfl
  refine ⟨φ, _, m, fl, SS, er_start RS, hfl, ?_⟩
  cases fl with
  | nx e m1 =>
    cases hf
    exact fun φ1 σ1 H1 g1 S1 E1 => k φ H1 _ g1.cut (SS.cut S1 g1) Dp.non
  | rt r1 m1 =>
    intro φ1 H1 v g1 S1 R1
    obtain ⟨φ2, g2, S2, R2⟩ := leave_ok SS S1 g1 R1 hf
    exact k φ2 H1 v g2 S2 R2
  | bk e m1 => cases hf
  | ct e m1 => cases hf
theorem fnK {x qual : Str} {st : Stmt} {f : Addr} {fd : FuncData} {N ps : List Str} {k n : Nat} {body : SF} (F : Fun K x qual st f fd) (S : FnScope N ps (defScope st)) (hn : N.length = n)
    (hb : ∀ cdv A outer s H E, fd.code = cdv → A.guards = some [] → Room k (A.deeper (envOfC qual (defScope st) s.heap.objs.size f cdv)) → PSs (Cf P w K mg base N qual st f cdv A outer s H E) (defBody st) (tS ζ K body)) :
    FnG P w K mg base (k + 1) f fd ps (spF ζ K ps.length (bodyK n body)) := by
  refine fnG F S (fun vs H Q E h => h.1) hb fun vs H Q E h => ?_
  obtain ⟨_, φ, m, rs, r, m', SS, RS, hf, k⟩ := h
  obtain ⟨fl, hfl, hf⟩ := bind_some_iff hf
  rw [← hn] at hfl
  refine ⟨φ, _, m, fl, SS, er_start RS, hfl, ?_⟩
  cases fl with
  | nx e m1 =>
    cases hf
    exact fun φ1 σ1 H1 g1 S1 E1 => k φ1 H1 _ g1 S1 Dp.non
  | rt r1 m1 =>
    cases hf
    exact k
  | bk e m1 => cases hf
  | ct e m1 => cases hf
end
section
variable {X : Cx} {k : Nat} {f : Addr} {fd : FuncData} {ps : List Str} {x : Str} {p pos : Pos} {e : Expr} {es : List Expr} {fa : AF} {n : Nat} {F : Fn}
/-- f(..) of a def -/
theorem x_call (F0 : FnG X.prog X.w X.K X.mg X.base k f fd ps (spF ζ X.K n F)) (hr : Room k X.A) (hgd : X.A.guards = some []) (hg : Gl X x) (hm : X.mg x = some (.ref f)) (hk : PySem.W.keepIn X.K (.ref f) = true) (hb : Binds X.K fd ps []) (hnn : ps.length = n)
    (ha : PA X (e :: es) (tA ζ X.K fa)) (hl : ∀ env m rs m', fa env m = some (rs, m') → rs.length = n) (hdb : (x == ("__debug__" : Str)) = false := by decide) (he : starEach (e :: es) X.env = (false, eval e X.env) :: starEach es X.env := by rfl) (hpl : (backTo pos (starEach es X.env)).any (·.1) = false := by rfl) :
    PE X (.Call (.Name x p) (e :: es) [] pos) (tE ζ X.K (eAp F fa)) := by
  refine ⟨fun pins s σ H Q I h => ?_⟩
  obtain ⟨φ, env, m, r, m', S, E, hf, q⟩ := h
  obtain ⟨⟨rs, m1⟩, h1, hf⟩ := bind_some_iff hf
  refine wpAny_Call_Name_kw (ld_glob I hg hm ?_ hdb)
  have hA := ha.run pos pins s σ H (fun vs H1 => ∃ φ1, Gr φ H φ1 H1 ∧ SR ζ X.K φ1 H1 m1 ∧ RRs X.K φ1 H1 vs rs) I ⟨φ, env, m, rs, m1, S, E, h1, fun φ1 H1 vs g1 S1 R1 => ⟨φ1, g1, S1, R1⟩⟩
  refine PySem.W.callWith_K (h₀ := X.base) I.ok.mod.kin hk (thn hA fun us s1 ⟨vs, H1, I1, rv, φ1, g1, S1, R1⟩ => ⟨I1.kIn, ?_⟩) he hpl
  have hvs : vs.length = n := by rw [Paired.len R1]; exact hl env m rs m1 h1
  have hlen : (us ++ []).length = ps.length := by rw [List.append_nil, ← rv.length, hvs, hnn]
  have hbd := hb s1 us I1.kIn hlen
  rw [List.append_nil] at hbd
  have sp : spF ζ X.K n F vs H1 Q E0 := ⟨hvs, φ1, m1, rs, r, m', S1, R1, hf, fun φ2 H2 v g2 S2 R2 => q φ2 H2 v (g1.trans g2) S2 R2⟩
  refine wpAny_call (codeAny_mono (F0.go X.A X.stack s1 H1 ⟨us, []⟩ us vs Q E0 hgd hr I1.env0 hbd rv sp) fun r s' hq => ?_)
  cases r with
  | error e => exact (show False from hq).elim
  | ok fl =>
    cases fl with
    | ret u => exact I1.after hq
    | next => exact (show False from hq).elim
    | brk => exact (show False from hq).elim
    | cont => exact (show False from hq).elim
end
/-- a tuple display that may hold objects of the store -/
def toI : R → Option (D ⊕ Nat)
  | .val d => some (.inl d)
  | .ref i => some (.inr i)
  | .tp _ => none
def toIs : List R → Option (List (D ⊕ Nat))
  | [] => some []
  | r :: rs => (toI r).bind fun x => (toIs rs).bind fun xs => some (x :: xs)
def pTupR (rs : List R) (m : M) : Option (R × M) := (toIs rs).bind fun xs => if xs.length ≤ sizeLine then some (.tp xs, m) else none
theorem toIs_rr {K : PySem.W.Frag} {φ : Ad} {H : Hp} : ∀ {rs : List R} {xs : List (D ⊕ Nat)} {vs : List V}, toIs rs = some xs → RRs K φ H vs rs → Paired (RI K φ H) vs xs
  | [], _, _, e, h => by
    cases e
    cases h
    exact .nil
  | r :: rs, _, _, e, h => by
    obtain ⟨x, e1, e⟩ := bind_some_iff e
    obtain ⟨xs, e2, e⟩ := bind_some_iff e
    cases e
    cases h with
    | cons a t =>
      refine .cons ?_ (toIs_rr e2 t)
      cases r with
      | val d => cases e1; exact a
      | ref i => cases e1; exact a
      | tp s => cases e1
theorem x_tupR {X : Cx} {es : List Expr} {fa : AF} {pos : Pos} {x1} (h : PA X es (tA ζ X.K fa)) : PE X (.Tuple es x1 pos) (tE ζ X.K (eAp pTupR fa)) := pe_imp (pe_tupF h) fun σ H Q q => by
  obtain ⟨φ, env, m, r, m', S, E, hf, k⟩ := q
  obtain ⟨⟨rs, m1⟩, h1, hf⟩ := bind_some_iff hf
  obtain ⟨xs, h2, hf⟩ := bind_some_iff hf
  split at hf
  · rename_i hl
    cases hf
    refine ⟨φ, env, m, rs, m1, S, E, h1, fun φ1 H1 vs g1 S1 R1 => ?_⟩
    have hd := toIs_rr h2 R1
    refine ⟨by rw [Paired.len hd]; exact hl, fun p o hp ho => k φ1 _ _ (g1.trans (gr_alloc hp)) (S1.alloc hp ho) ⟨p, vs, rfl, .inl (.inr ⟨o, off_some.mpr ⟨S1.new hp, upd_same, rfl⟩⟩), ?_⟩⟩
    exact Paired.mapP hd fun _ _ z => RI.monoS (List.prefix_refl _) (gr_alloc hp).same z
  · cases hf
end Ev

set_option Elab.async false
set_option linter.all false
set_option maxRecDepth 100000
/-! Operators, comparisons, subscripts. -/
namespace Ev
open PySem PySem.Spec PyProof.Rows L2

/-- the items of a list, of the store or not -/
def asL (r : R) (m : M) : Option (List D) := match r with
  | .val (.list ds) => some ds
  | .ref k => match m[k]? with
    | some (.lst ds) => some ds
    | _ => none
  | _ => none
/-- .. of a list or a tuple -/
def asLT (r : R) (m : M) : Option (List D) := match r with
  | .val (.tuple ds) => some ds
  | r => asL r m
section
variable {K : PySem.W.Frag} {φ : Ad} {H : Hp} {m : M} {v : V} {r : R} {ds : List D}
theorem seqL_of (S : SR ζ K φ H m) (h : RR K φ H v r) (e : asL r m = some ds) : ∃ a xs, v = .ref a ∧ SqL K H a xs ∧ DpAll K (off φ H) xs ds := by
  cases r with
  | tp j => first | (cases hf; done) | (cases e; done) | (cases h1; done) | (cases h; done) | (cases h7; done) | (cases h2; done)
  | val d =>
    cases d with
    | list es =>
      cases e
      have h' : Dp K (off φ H) v (.list ds) := h
      cases h' with
      | lst hs ha => exact ⟨_, _, rfl, off_same.seq hs, ha⟩
    | _ => cases e
  | ref k =>
    obtain ⟨a, rfl, h⟩ := h
    unfold asL at e
    simp only at e
    split at e
    · rename_i es hm
      cases e
      obtain ⟨xs, h1, h2⟩ := S.obj k _ a hm h
      exact ⟨a, xs, rfl, .inl (.inl h1), h2⟩
    · cases e
theorem seqT_of (h : RR K φ H v (.val (.tuple ds))) : ∃ a xs, v = .ref a ∧ SqT K H a xs ∧ DpAll K (off φ H) xs ds := by
  have h' : Dp K (off φ H) v (.tuple ds) := h
  cases h' with
  | tup hs ha => exact ⟨_, _, rfl, sqT_mono off_same hs, ha⟩
theorem seqLT_of (S : SR ζ K φ H m) (h : RR K φ H v r) (e : asLT r m = some ds) : ∃ a xs, v = .ref a ∧ (SqL K H a xs ∨ SqT K H a xs) ∧ DpAll K (off φ H) xs ds := by
  unfold asLT at e
  split at e
  · cases e
    obtain ⟨a, xs, h1, h2, h3⟩ := seqT_of h
    exact ⟨a, xs, h1, .inr h2, h3⟩
  · obtain ⟨a, xs, h1, h2, h3⟩ := seqL_of S h e
    exact ⟨a, xs, h1, .inl h2, h3⟩
theorem rr_int {i : Int} (h : RR K φ H v (.val (.int i))) : v = .int i := by
  have h' : Dp K (off φ H) v (.int i) := h
  cases h'
  rfl
theorem rr_str {i : Str} (h : RR K φ H v (.val (.str i))) : v = .str i := by
  have h' : Dp K (off φ H) v (.str i) := h
  cases h'
  rfl
theorem rr_dp {d : D} (h : RR K φ H v (.val d)) : Dp K H v d := dp_mono off_same h
end

def asI : R → Option Int
  | .val (.int i) => some i
  | _ => none
theorem asI_some {r : R} {i : Int} (h : asI r = some i) : r = .val (.int i) := by
  cases r with
  | tp j => first | (cases hf; done) | (cases e; done) | (cases h1; done) | (cases h; done) | (cases h7; done) | (cases h2; done)
  | ref i => cases h
  | val d =>
    cases d with
    | int c =>
      cases h
      rfl
    | _ => cases h

/-- an operation of two ints -/
def pII (C : Int → Int → Bool) (g : Int → Int → D) (a b : R) (m : M) : Option (R × M) := (asI a).bind fun i => (asI b).bind fun j => ite (C i j = true) (some (.val (g i j), m)) none
/-- a raw rule of two ints gives one here -/
theorem o_ii {X : Cx} {f : Value → Value → Sem Value} {C : Int → Int → Bool} {C' : Int → Int → Prop} {g : Int → Int → D} {g' : Int → Int → V} (h : OpR X f (rI C' g')) (hc : ∀ i j, C i j = true → C' i j) (hg : ∀ H i j, Dp X.K H (g' i j) (g i j)) : OpR X f (r2P ζ X.K (pII C g)) := by
  intro pins s σ H x y v u Q I rx ry q
  obtain ⟨φ, m, r1, r2, r, m', S, R1, R2, hf, k⟩ := q
  obtain ⟨i, h1, hf⟩ := bind_some_iff hf
  obtain ⟨j, h2, hf⟩ := bind_some_iff hf
  have e1 := asI_some h1
  have e2 := asI_some h2
  subst e1 e2
  have x1 := rr_int R1
  have x2 := rr_int R2
  replace hf : (if C i j = true then some (R.val (g i j), m) else none) = some (r, m') := hf
  split at hf
  · rename_i hcc
    cases hf
    exact h pins s σ H x y v u Q I rx ry ⟨i, j, x1, x2, hc i j hcc, k φ H _ .refl S (hg _ i j)⟩
  · cases hf
theorem o_ii0 {X : Cx} {f : Value → Value → Sem Value} {g : Int → Int → D} {g' : Int → Int → V} (h : OpR X f (rI0 g')) (hg : ∀ H i j, Dp X.K H (g' i j) (g i j)) : OpR X f (r2P ζ X.K (pII (fun _ _ => true) g)) := by
  intro pins s σ H x y v u Q I rx ry q
  obtain ⟨φ, m, r1, r2, r, m', S, R1, R2, hf, k⟩ := q
  obtain ⟨i, h1, hf⟩ := bind_some_iff hf
  obtain ⟨j, h2, hf⟩ := bind_some_iff hf
  have e1 := asI_some h1
  have e2 := asI_some h2
  subst e1 e2
  have x1 := rr_int R1
  have x2 := rr_int R2
  cases hf
  exact h pins s σ H x y v u Q I rx ry ⟨i, j, x1, x2, k φ H _ .refl S (hg _ i j)⟩
/-- one of two operations -/
def pOr (p q : R → R → M → Option (R × M)) (a b : R) (m : M) : Option (R × M) := match p a b m with
  | some x => some x
  | none => q a b m
theorem o_or {X : Cx} {f : Value → Value → Sem Value} {p q : R → R → M → Option (R × M)} (h1 : OpR X f (r2P ζ X.K p)) (h2 : OpR X f (r2P ζ X.K q)) : OpR X f (r2P ζ X.K (pOr p q)) := by
  intro pins s σ H x y v u Q I rx ry z
  obtain ⟨φ, m, r1, r2, r, m', S, R1, R2, hf, k⟩ := z
  unfold pOr at hf
  split at hf
  · rename_i e
    cases hf
    exact h1 pins s σ H x y v u Q I rx ry ⟨φ, m, r1, r2, r, m', S, R1, R2, e, k⟩
  · exact h2 pins s σ H x y v u Q I rx ry ⟨φ, m, r1, r2, r, m', S, R1, R2, hf, k⟩

/-! ### + -/
def pCatT (a b : R) (m : M) : Option (R × M) := match a, b with
  | .val (.tuple xs), .val (.tuple ys) => if xs.length + ys.length ≤ sizeLine then some (.val (.tuple (xs ++ ys)), m) else none
  | _, _ => none
def pCatL (a b : R) (m : M) : Option (R × M) := (asL a m).bind fun xs => (asL b m).bind fun ys => if xs.length + ys.length ≤ sizeLine then some (.val (.list (xs ++ ys)), m) else none
def pAdd : R → R → M → Option (R × M) := pOr (pII (fun _ _ => true) fun i j => .int (i + j)) (pOr pCatT pCatL)
section
variable {X : Cx}
theorem o_catT : OpR X (binaryOp .Add) (r2P ζ X.K pCatT) := by
  intro pins s σ H x y v u Q I rx ry q
  obtain ⟨φ, m, r1, r2, r, m', S, R1, R2, hf, k⟩ := q
  unfold pCatT at hf
  split at hf
  · rename_i xs ys
    split at hf
    · rename_i hl
      cases hf
      obtain ⟨a, vs, rfl, ha, da⟩ := seqT_of R1
      obtain ⟨b, us, rfl, hb, db⟩ := seqT_of R2
      have l1 := DpAll.len da
      have l2 := DpAll.len db
      refine op_catF pins s σ H _ _ v u Q I rx ry ⟨a, b, vs, us, rfl, rfl, ha, hb, by rw [l1, l2]; exact hl, fun e => ?_, fun e1 e2 => ?_, fun _ _ p o hp ho => ?_⟩
      · subst e
        have : xs = [] := List.length_eq_zero_iff.mp l1.symm
        subst this
        exact k φ H _ .refl S R2
      · subst e2
        have : ys = [] := List.length_eq_zero_iff.mp l2.symm
        subst this
        rw [List.append_nil] at k
        exact k φ H _ .refl S R1
      · exact k φ _ _ (gr_alloc hp) (S.alloc hp ho) (rr_newT S hp (DpAll.append da db))
    · cases hf
  · cases hf
theorem o_catL : OpR X (binaryOp .Add) (fun x y H Q => ∃ φ m r1 r2 xs ys, SR ζ X.K φ H m ∧ RR X.K φ H x r1 ∧ RR X.K φ H y r2 ∧ asL r1 m = some xs ∧ asL r2 m = some ys ∧ xs.length + ys.length ≤ sizeLine ∧
    ∀ p vs, H p = none → DpAll X.K (off φ H) vs (xs ++ ys) → Q (.ref p) (upd H p (.lst vs))) := by
  intro pins s σ H x y v u Q I rx ry q
  obtain ⟨φ, m, r1, r2, xs, ys, S, R1, R2, h1, h2, hl, k⟩ := q
  obtain ⟨a, vs, rfl, ha, da⟩ := seqL_of S R1 h1
  obtain ⟨b, us, rfl, hb, db⟩ := seqL_of S R2 h2
  cases rx
  cases ry
  obtain ⟨its, rv, pl, z1⟩ := I.list ha
  obtain ⟨its2, rv2, pl2, z2⟩ := I.list hb
  obtain ⟨⟨cl1, dd1, dt1, sl1⟩, n1, g1, c1, d1, e1⟩ := pl
  obtain ⟨⟨cl2, dd2, dt2, sl2⟩, n2, g2, c2, d2, e2⟩ := pl2
  simp only at c1 e1 c2 e2
  subst c1 e1 c2 e2
  have l1 := DpAll.len da
  have l2 := DpAll.len db
  have l3 := rv.length
  have l4 := rv2.length
  have ea : its.toArray ++ its2.toArray = (its ++ its2).toArray := by simp
  refine concat_meets ⟨_, g1, rfl⟩ ⟨_, g2, rfl⟩ noFill_list_add seq_list_add
    PySem.F.slot_list_add PySem.F.entry_list_add (PySem.F.args_list_add_2 _ _)
    (PyProof.Rows.list_addW a b its.toArray its2.toArray n1 n2 dd1 dd2 sl1 sl2
      (by simp only [List.size_toArray]; omega)) ⟨g1, g2, ?_⟩
  rw [ea]
  exact ⟨.ref _, _, I.lnew (t' := s.toks) (rv.append rv2) (by rw [List.length_append]; omega), rfl, k _ _ I.fresh (DpAll.append da db)⟩
end

/-! ### expressions that make a new list -/
abbrev NF := Sl → M → Option (List D × M)
def tN (ζ : Tbs) (K : PySem.W.Frag) (f : NF) : TE := fun σ H Q => ∃ φ env m ds m', SR ζ K φ H m ∧ ER K φ H σ env ∧ f env m = some (ds, m') ∧
  ∀ φ' H' p vs, Gr φ H φ' H' → SR ζ K φ' H' m' → H' p = none → DpAll K (off φ' H') vs ds → Q (.ref p) (upd H' p (.lst vs))
/-- as data -/
def eL (f : NF) : EF := fun env m => (f env m).bind fun x => some (.val (.list x.1), x.2)
/-- as a new object of the store -/
def eNew (f : NF) : EF := fun env m => (f env m).bind fun x => some (.ref x.2.length, x.2 ++ [.lst x.1])
def nLst (f : AF) : NF := fun env m => (f env m).bind fun x => (vals x.1).bind fun ds => if ds.length ≤ sizeLine then some (ds, x.2) else none
def nCat (f g : EF) : NF := fun env m => (f env m).bind fun x => (g env x.2).bind fun y => (asL x.1 y.2).bind fun xs => (asL y.1 y.2).bind fun ys => if xs.length + ys.length ≤ sizeLine then some (xs ++ ys, y.2) else none
def nRep (f : NF) (g : EF) : NF := fun env m => (f env m).bind fun x => (g env x.2).bind fun y => (asI y.1).bind fun k => if -(2 ^ 63) ≤ k ∧ k < 2 ^ 63 ∧ x.1.length * k.toNat ≤ sizeLine then some ((List.replicate k.toNat x.1).flatten, y.2) else none
theorem DpAll.rep {K : PySem.W.Frag} {H : Hp} {ds : List D} {vs : List V} (h : DpAll K H vs ds) : ∀ n : Nat, DpAll K H (List.replicate n vs).flatten (List.replicate n ds).flatten
  | 0 => by simp; exact .nil
  | n + 1 => by
    rw [List.replicate_succ, List.replicate_succ, List.flatten_cons, List.flatten_cons]
    exact DpAll.append h (DpAll.rep h n)
section
variable {X : Cx} {a b e : Expr} {es : List Expr} {f g : EF} {fa : AF} {nf : NF} {pos : Pos}
theorem x_ofN (h : PE X e (tN ζ X.K nf)) : PE X e (tE ζ X.K (eL nf)) := pe_imp h fun σ H Q q => by
  obtain ⟨φ, env, m, r, m', S, E, hf, k⟩ := q
  obtain ⟨⟨ds, m1⟩, h1, hf⟩ := bind_some_iff hf
  cases hf
  exact ⟨φ, env, m, ds, m1, S, E, h1, fun φ1 H1 p vs g1 S1 hp hd => k φ1 _ _ (g1.trans (gr_alloc hp)) (S1.alloc hp) (rr_newL S1 hp hd)⟩
theorem x_new (h : PE X e (tN ζ X.K nf)) : PE X e (tE ζ X.K (eNew nf)) := pe_imp h fun σ H Q q => by
  obtain ⟨φ, env, m, r, m', S, E, hf, k⟩ := q
  obtain ⟨⟨ds, m1⟩, h1, hf⟩ := bind_some_iff hf
  cases hf
  refine ⟨φ, env, m, ds, m1, S, E, h1, fun φ1 H1 p vs g1 S1 hp hd => k _ _ _ (g1.trans (gr_enter (o := .lst vs) hp)) (S1.enter hp hd) ⟨p, rfl, ?_⟩⟩
  show (φ1.s ++ [p])[m1.length]? = some p
  rw [← S1.len, List.getElem?_append_right (Nat.le_refl _), Nat.sub_self]
  rfl
theorem n_lst (h : PA X es (tA ζ X.K fa)) : PE X (.List es pos) (tN ζ X.K (nLst fa)) := pe_imp (pe_lst h) fun σ H Q q => by
  obtain ⟨φ, env, m, r, m', S, E, hf, k⟩ := q
  obtain ⟨⟨rs, m1⟩, h1, hf⟩ := bind_some_iff hf
  obtain ⟨ds, h2, hf⟩ := bind_some_iff hf
  split at hf
  · rename_i hl
    cases hf
    refine ⟨φ, env, m, rs, m1, S, E, h1, fun φ1 H1 vs g1 S1 R1 => ?_⟩
    have hd := vals_rr h2 R1
    exact ⟨by rw [DpAll.len hd]; exact hl, fun p hp => k φ1 H1 p vs g1 S1 hp hd⟩
  · cases hf
theorem n_cat (ha : PE X a (tE ζ X.K f)) (hb : PE X b (tE ζ X.K g)) : PE X (.BinOp a .Add b pos) (tN ζ X.K (nCat f g)) := pe_imp (pe_op o_catL ha hb) fun σ H Q q => by
  obtain ⟨φ, env, m, ds, m', S, E, hf, k⟩ := q
  obtain ⟨⟨r1, m1⟩, h1, hf⟩ := bind_some_iff hf
  obtain ⟨⟨r2, m2⟩, h2, hf⟩ := bind_some_iff hf
  obtain ⟨xs, h3, hf⟩ := bind_some_iff hf
  obtain ⟨ys, h4, hf⟩ := bind_some_iff hf
  split at hf
  · rename_i hl
    cases hf
    refine ⟨φ, env, m, r1, m1, S, E, h1, fun φ1 H1 v1 g1 S1 R1 => ?_⟩
    refine ⟨φ1, env, m1, r2, m2, S1, E.mono g1, h2, fun φ2 H2 v2 g2 S2 R2 => ?_⟩
    exact ⟨φ2, m2, r1, r2, xs, ys, S2, R1.mono g2, R2, h3, h4, hl, fun p vs hp hd => k φ2 H2 p vs (g1.trans g2) S2 hp hd⟩
  · cases hf
theorem upd_none {H : Hp} {p : Addr} {o : HO} : (fun b => if b = p then none else upd H p o b) = fun b => if b = p then none else H b := by
  funext b
  by_cases h : b = p
  · rw [if_pos h, if_pos h]
  · rw [if_neg h, if_neg h, upd_ne h]
theorem n_rep (ha : PE X a (tN ζ X.K nf)) (hb : PE X b (tE ζ X.K g)) : PE X (.BinOp a .Mult b pos) (tN ζ X.K (nRep nf g)) := pe_imp (pe_op op_rep ha hb) fun σ H Q q => by
  obtain ⟨φ, env, m, ds, m', S, E, hf, k⟩ := q
  obtain ⟨⟨xs, m1⟩, h1, hf⟩ := bind_some_iff hf
  obtain ⟨⟨r2, m2⟩, h2, hf⟩ := bind_some_iff hf
  obtain ⟨n, h3, hf⟩ := bind_some_iff hf
  split at hf
  · rename_i hl
    cases hf
    have e2 := asI_some h3
    simp only at e2
    subst e2
    refine ⟨φ, env, m, xs, m1, S, E, h1, fun φ1 H1 p vs g1 S1 hp hd => ?_⟩
    refine ⟨φ1, env, m1, _, m2, S1.alloc hp, E.mono (g1.trans (gr_alloc hp)), h2, fun φ2 H2 v2 g2 S2 R2 => ?_⟩
    have hp2 : off φ2 H2 p = some (.lst vs) := g2.same _ _ (off_some.mpr ⟨S1.new hp, upd_same, rfl⟩)
    have hd2 := dps_mono g2.same (dps_mono (gr_alloc (o := .lst vs) hp).same hd)
    refine ⟨p, n, vs, rfl, rr_int R2, (off_some.mp hp2).2.1, hl.1, hl.2.1, by rw [DpAll.len hd]; exact hl.2.2, fun q hq => ?_⟩
    exact k φ2 H2 q _ (g1.trans ((gr_alloc hp).trans g2)) S2 hq (DpAll.rep hd2 _)
  · cases hf
end

/-! ### numbers -/
def mulOk (i j : Int) : Bool := decide (i.natAbs.log2 + j.natAbs.log2 < 1000000)
def divOk (_ j : Int) : Bool := decide (0 < j ∧ j.natAbs.log2 < 9000)
def modOk (_ j : Int) : Bool := decide (0 < j)
def shlOk (i j : Int) : Bool := decide (0 ≤ j ∧ j ≤ 1000000 ∧ i.natAbs < 2 ^ 64)
def shrOk (_ j : Int) : Bool := decide (0 ≤ j)
abbrev pNum (g : Int → Int → Int) := pII (fun _ _ => true) fun i j => .int (g i j)
abbrev pRel (g : Int → Int → Bool) := pII (fun _ _ => true) fun i j => .bool (g i j)
def pSub := pNum (· - ·)
def pMul := pII mulOk fun i j => .int (i * j)
def pDiv := pII divOk fun i j => .int (i / j)
def pMod := pII modOk fun i j => .int (i % j)
def pShl := pII shlOk fun i j => .int (i * 2 ^ j.toNat)
def pShr := pII shrOk fun i j => .int (i / 2 ^ j.toNat)
def pAnd := pNum Builtin.bitAnd
def pBor := pNum Builtin.bitOr
def pXor := pNum Builtin.bitXor
def pLt := pRel fun i j => decide (i < j)
def pLe := pRel fun i j => decide (i ≤ j)
def pGt := pRel fun i j => decide (j < i)
def pGe := pRel fun i j => decide (j ≤ i)
def pAddI := pNum (· + ·)
def pAddN : R → R → M → Option (R × M) := pOr pAddI pCatT
section
variable {X : Cx}
theorem o_addI : OpR X (binaryOp .Add) (r2P ζ X.K pAddI) := o_ii0 op_add fun _ _ _ => .int _
theorem o_add : OpR X (binaryOp .Add) (r2P ζ X.K pAddN) := o_or o_addI o_catT
theorem o_sub : OpR X (binaryOp .Sub) (r2P ζ X.K pSub) := o_ii0 op_sub fun _ _ _ => .int _
theorem o_mul : OpR X (binaryOp .Mult) (r2P ζ X.K pMul) := o_ii op_mulW (fun i j h => (of_decide_eq_true h : i.natAbs.log2 + j.natAbs.log2 < 1000000)) fun _ _ _ => .int _
theorem o_div : OpR X (binaryOp .FloorDiv) (r2P ζ X.K pDiv) := o_ii op_fdivW (fun i j h => (of_decide_eq_true h : 0 < j ∧ j.natAbs.log2 < 9000)) fun _ _ _ => .int _
theorem o_mod : OpR X (binaryOp .Mod) (r2P ζ X.K pMod) := o_ii op_mod (fun _ _ h => of_decide_eq_true h) fun _ _ _ => .int _
theorem o_shl : OpR X (binaryOp .LShift) (r2P ζ X.K pShl) := o_ii op_shl (fun i j h => (of_decide_eq_true h : 0 ≤ j ∧ j ≤ 1000000 ∧ i.natAbs < 2 ^ 64)) fun _ _ _ => .int _
theorem o_shr : OpR X (binaryOp .RShift) (r2P ζ X.K pShr) := o_ii op_shr (fun _ _ h => of_decide_eq_true h) fun _ _ _ => .int _
theorem o_and : OpR X (binaryOp .BitAnd) (r2P ζ X.K pAnd) := o_ii0 op_and fun _ _ _ => .int _
theorem o_bor : OpR X (binaryOp .BitOr) (r2P ζ X.K pBor) := o_ii0 op_or fun _ _ _ => .int _
theorem o_xor : OpR X (binaryOp .BitXor) (r2P ζ X.K pXor) := o_ii0 op_xor fun _ _ _ => .int _
theorem o_lt : OpR X (compareOp .Lt) (r2P ζ X.K pLt) := o_ii0 op_lt fun _ _ _ => .bl _
theorem o_le : OpR X (compareOp .LtE) (r2P ζ X.K pLe) := o_ii0 op_le fun _ _ _ => .bl _
theorem o_gt : OpR X (compareOp .Gt) (r2P ζ X.K pGt) := o_ii0 op_gt fun _ _ _ => .bl _
theorem o_ge : OpR X (compareOp .GtE) (r2P ζ X.K pGe) := o_ii0 op_ge fun _ _ _ => .bl _
end

/-! ### == and in, of data at any depth -/
/-- a value as data -/
def asD (r : R) (m : M) : Option D := match r with
  | .val d => some d
  | .ref k => match m[k]? with
    | some (.lst ds) => some (.list ds)
    | _ => none
  | .tp _ => none
theorem asD_dp {K : PySem.W.Frag} {φ : Ad} {H : Hp} {m : M} {v : V} {r : R} {d : D} (S : SR ζ K φ H m) (h : RR K φ H v r) (e : asD r m = some d) : Dp K H v d := by
  cases r with
  | tp j => first | (cases hf; done) | (cases e; done) | (cases h1; done) | (cases h; done) | (cases h7; done) | (cases h2; done)
  | val c =>
    cases e
    exact rr_dp h
  | ref k =>
    obtain ⟨a, rfl, h⟩ := h
    unfold asD at e
    simp only at e
    split at e
    · rename_i ds hm
      cases e
      obtain ⟨xs, h1, h2⟩ := S.obj k _ a hm h
      exact Dp.lst (.inl (.inl h1)) (dps_mono off_same h2)
    · cases e
def pEqD (neg : Bool) (a b : R) (m : M) : Option (R × M) := (asD a m).bind fun d => (asD b m).bind fun e => if (SeqAt.shaped d && SeqAt.shaped e) = true then some (.val (.bool (if neg then !PyData.eqv d e else PyData.eqv d e)), m) else none
def pEq := pEqD false
def pNe := pEqD true
def pInD (neg : Bool) (a b : R) (m : M) : Option (R × M) := (asD a m).bind fun d => (asLT b m).bind fun es => if (SeqAt.shaped d && PyData.canLayAll0 es) = true then some (.val (.bool (if neg then !(es.any fun z => PyData.eqv z d) else es.any fun z => PyData.eqv z d)), m) else none
def pIn := pInD false
def pNin := pInD true
def isNone : R → Bool
  | .val .none => true
  | _ => false
def pIs (neg : Bool) (a b : R) (m : M) : Option (R × M) := if isNone b = true then some (.val (.bool (if neg then !isNone a else isNone a)), m) else none
def pIsN := pIs false
def pIsnt := pIs true
section
variable {X : Cx} {k : Nat}
theorem o_eq (hr : Room k X.A) : OpR X (compareOp .Eq) (r2P ζ X.K pEq) := by
  intro pins s σ H x y v u Q I rx ry q
  obtain ⟨φ, m, r1, r2, r, m', S, R1, R2, hf, k⟩ := q
  obtain ⟨d, h1, hf⟩ := bind_some_iff hf
  obtain ⟨e, h2, hf⟩ := bind_some_iff hf
  split at hf
  · rename_i hc
    cases hf
    rw [Bool.and_eq_true] at hc
    exact op_eqD hr.units pins s σ H x y v u Q I rx ry ⟨d, e, asD_dp S R1 h1, asD_dp S R2 h2, hc.1, hc.2, k φ H _ .refl S (Dp.bl _)⟩
  · cases hf
theorem o_ne (hr : Room k X.A) : OpR X (compareOp .NotEq) (r2P ζ X.K pNe) := by
  intro pins s σ H x y v u Q I rx ry q
  obtain ⟨φ, m, r1, r2, r, m', S, R1, R2, hf, k⟩ := q
  obtain ⟨d, h1, hf⟩ := bind_some_iff hf
  obtain ⟨e, h2, hf⟩ := bind_some_iff hf
  split at hf
  · rename_i hc
    cases hf
    rw [Bool.and_eq_true] at hc
    exact op_neD hr.units pins s σ H x y v u Q I rx ry ⟨d, e, asD_dp S R1 h1, asD_dp S R2 h2, hc.1, hc.2, k φ H _ .refl S (Dp.bl _)⟩
  · cases hf
theorem in_ok {K : PySem.W.Frag} {φ : Ad} {H : Hp} {m : M} {v : V} {r : R} {es : List D} (S : SR ζ K φ H m) (h : RR K φ H v r) (e : asLT r m = some es) : Dp K H v (.list es) ∨ Dp K H v (.tuple es) := by
  unfold asLT at e
  split at e
  · cases e
    exact .inr (rr_dp h)
  · obtain ⟨a, xs, rfl, h2, h3⟩ := seqL_of S h e
    exact .inl (.lst h2 (dps_mono off_same h3))
theorem in_room {d : D} {es : List D} (hr : Room k X.A) (h : SeqAt.shaped d = true) : X.A.units + 1 + min (PyData.depthAll es) d.depth < cLine := by
  have h1 := hr.un
  have h2 := SeqAt.depth_of_shaped h
  have h3 := Nat.min_le_right (PyData.depthAll es) d.depth
  omega
theorem o_in (hr : Room k X.A) : OpR X (compareOp .In) (r2P ζ X.K pIn) := by
  intro pins s σ H x y v u Q I rx ry q
  obtain ⟨φ, m, r1, r2, r, m', S, R1, R2, hf, k⟩ := q
  obtain ⟨d, h1, hf⟩ := bind_some_iff hf
  obtain ⟨es, h2, hf⟩ := bind_some_iff hf
  split at hf
  · rename_i hc
    cases hf
    rw [Bool.and_eq_true] at hc
    obtain ⟨as, q1⟩ := Dp.reads I d x v (asD_dp S R1 h1) rx
    rcases in_ok S R2 h2 with hd | hd
    · obtain ⟨bs, q2⟩ := Dp.reads I _ y u hd ry
      exact SeqAt.in_list_reads q2 q1 hc.2 (SeqAt.canLay_of_shaped hc.1) (in_room hr hc.1) ⟨.bl _, H, I, rfl, k φ H _ .refl S (Dp.bl _)⟩
    · obtain ⟨bs, q2⟩ := Dp.reads I _ y u hd ry
      exact SeqAt.in_tuple_reads q2 q1 hc.2 (SeqAt.canLay_of_shaped hc.1) (in_room hr hc.1) ⟨.bl _, H, I, rfl, k φ H _ .refl S (Dp.bl _)⟩
  · cases hf
theorem o_nin (hr : Room k X.A) : OpR X (compareOp .NotIn) (r2P ζ X.K pNin) := by
  intro pins s σ H x y v u Q I rx ry q
  obtain ⟨φ, m, r1, r2, r, m', S, R1, R2, hf, k⟩ := q
  obtain ⟨d, h1, hf⟩ := bind_some_iff hf
  obtain ⟨es, h2, hf⟩ := bind_some_iff hf
  split at hf
  · rename_i hc
    cases hf
    rw [Bool.and_eq_true] at hc
    obtain ⟨as, q1⟩ := Dp.reads I d x v (asD_dp S R1 h1) rx
    rcases in_ok S R2 h2 with hd | hd
    · obtain ⟨bs, q2⟩ := Dp.reads I _ y u hd ry
      exact SeqAt.notIn_list_reads q2 q1 hc.2 (SeqAt.canLay_of_shaped hc.1) (in_room hr hc.1) ⟨.bl _, H, I, rfl, k φ H _ .refl S (Dp.bl _)⟩
    · obtain ⟨bs, q2⟩ := Dp.reads I _ y u hd ry
      exact SeqAt.notIn_tuple_reads q2 q1 hc.2 (SeqAt.canLay_of_shaped hc.1) (in_room hr hc.1) ⟨.bl _, H, I, rfl, k φ H _ .refl S (Dp.bl _)⟩
  · cases hf
theorem isN_val {K : PySem.W.Frag} {φ : Ad} {H : Hp} {v : V} {r : R} (h : RR K φ H v r) : decide (v = .non) = isNone r := by
  cases r with
  | tp j =>
    obtain ⟨a, vs, e, _⟩ := h
    rw [e]
    rfl
  | ref i =>
    obtain ⟨a, rfl, _⟩ := h
    rfl
  | val d =>
    have h' : Dp K (off φ H) v d := h
    cases h' <;> rfl
theorem isN_non {K : PySem.W.Frag} {φ : Ad} {H : Hp} {v : V} {r : R} (h : RR K φ H v r) (e : isNone r = true) : v = .non := by
  rw [← isN_val h] at e
  exact of_decide_eq_true e
theorem o_isN : OpR X (compareOp .Is) (r2P ζ X.K pIsN) := by
  intro pins s σ H x y v u Q I rx ry q
  obtain ⟨φ, m, r1, r2, r, m', S, R1, R2, hf, k⟩ := q
  unfold pIsN pIs at hf
  split at hf
  · rename_i he
    cases hf
    exact op_isN pins s σ H x y v u Q I rx ry ⟨isN_non R2 he, by rw [isN_val R1]; exact k φ H _ .refl S (Dp.bl _)⟩
  · cases hf
theorem o_isnt : OpR X (compareOp .IsNot) (r2P ζ X.K pIsnt) := by
  intro pins s σ H x y v u Q I rx ry q
  obtain ⟨φ, m, r1, r2, r, m', S, R1, R2, hf, k⟩ := q
  unfold pIsnt pIs at hf
  split at hf
  · rename_i he
    cases hf
    exact op_notN pins s σ H x y v u Q I rx ry ⟨isN_non R2 he, by rw [isN_val R1]; exact k φ H _ .refl S (Dp.bl _)⟩
  · cases hf
end

/-! ### -x, xs[i], xs[i:j] -/
def pNeg (a : R) (m : M) : Option (R × M) := (asI a).bind fun i => some (.val (.int (-i)), m)
def pIdx (a b : R) (m : M) : Option (R × M) := (asLT a m).bind fun ds => (asI b).bind fun i => (atI ds i).bind fun d => some (.val d, m)
theorem DpAll.atI {K : PySem.W.Frag} {H : Hp} {ds : List D} {vs : List V} {i : Int} {d : D} (h : DpAll K H vs ds) (e : L2.atI ds i = some d) : ∃ v, L2.atI vs i = some v ∧ Dp K H v d := by
  unfold L2.atI at e ⊢
  rw [DpAll.len h]
  obtain ⟨j, h1, h2⟩ := bind_some_iff e
  obtain ⟨v, h3, h4⟩ := DpAll.get h h2
  exact ⟨v, by rw [h1]; exact h3, h4⟩
def cutD (xs : List D) (lo hi : Option Int) : List D := (xs.drop (HT.sIx xs.length 0 lo)).take (HT.sIx xs.length xs.length hi - HT.sIx xs.length 0 lo)
theorem DpAll.cut {K : PySem.W.Frag} {H : Hp} {ds : List D} {vs : List V} (h : DpAll K H vs ds) (lo hi : Option Int) : DpAll K H (cutV vs lo hi) (cutD ds lo hi) := by
  unfold cutV cutD
  rw [DpAll.len h]
  exact DpAll.take _ (DpAll.drop _ h)
abbrev OF := Sl → M → Option (Option Int × M)
def tO' (ζ : Tbs) (K : PySem.W.Frag) (f : OF) : TO := fun σ H Q => ∃ φ env m o m', SR ζ K φ H m ∧ ER K φ H σ env ∧ f env m = some (o, m') ∧ ∀ φ' H', Gr φ H φ' H' → SR ζ K φ' H' m' → Q o H'
def oNone : OF := fun _ m => some (none, m)
def oSome (f : EF) : OF := fun env m => (f env m).bind fun x => (asI x.1).bind fun i => some (some i, x.2)
def eSlT (f : EF) (l h : OF) : EF := fun env m => (f env m).bind fun x => (l env x.2).bind fun y => (h env y.2).bind fun z => match x.1 with
  | .val (.tuple ds) => some (.val (.tuple (cutD ds y.1 z.1)), z.2)
  | _ => none
def nSlL (f : EF) (l h : OF) : NF := fun env m => (f env m).bind fun x => (l env x.2).bind fun y => (h env y.2).bind fun z => (asL x.1 z.2).bind fun ds => some (cutD ds y.1 z.1, z.2)
section
variable {X : Cx} {a b e : Expr} {oe lo hi : Option Expr} {f g : EF} {fl fh : OF} {pos p2 : Pos}
theorem u_neg : UnR X (unaryOp .USub) (r1P ζ X.K pNeg) := by
  intro pins s σ H x v Q I rx q
  obtain ⟨φ, m, r1, r, m', S, R1, hf, k⟩ := q
  obtain ⟨i, h1, hf⟩ := bind_some_iff hf
  have e1 := asI_some h1
  subst e1
  have x1 := rr_int R1
  cases hf
  exact un_neg pins s σ H x v Q I rx ⟨i, x1, k φ H _ .refl S (Dp.int _)⟩
theorem ix_p : IxR X (r2P ζ X.K pIdx) := by
  intro value slice pins s σ H x y v u Q I rx ry q hsub
  obtain ⟨φ, m, r1, r2, r, m', S, R1, R2, hf, k⟩ := q
  obtain ⟨ds, h1, hf⟩ := bind_some_iff hf
  obtain ⟨i, h2, hf⟩ := bind_some_iff hf
  obtain ⟨d, h3, hf⟩ := bind_some_iff hf
  cases hf
  have e2 := asI_some h2
  subst e2
  have x2 := rr_int R2
  obtain ⟨p, xs, rfl, hs, hd⟩ := seqLT_of S R1 h1
  obtain ⟨z, h4, h5⟩ := DpAll.atI hd h3
  have q := k φ H z .refl S h5
  rcases hs with hs | hs
  · exact ix_list value slice pins s σ H _ y v u Q I rx ry ⟨p, xs, i, z, rfl, x2, hs, h4, q⟩ hsub
  · exact ix_tup value slice pins s σ H _ y v u Q I rx ry ⟨p, xs, i, z, rfl, x2, hs, h4, q⟩ hsub
theorem x_ix (ha : PE X a (tE ζ X.K f)) (hb : PE X b (tE ζ X.K g)) (hs : PlainIx b := by exact fun _ _ => rfl) : PE X (.Subscript a b pos) (tE ζ X.K (eBin pIdx f g)) :=
  pe_imp (pe_ix ix_p ha hb hs) fun _ _ _ q => two_imp q
theorem po_n : PO X none (tO' ζ X.K oNone) := ⟨fun pins s σ H Q I q => by
  obtain ⟨φ, env, m, o, m', S, E, hf, k⟩ := q
  cases hf
  exact po_none.run pins s σ H Q I (k φ H .refl S)⟩
theorem po_s (h : PE X e (tE ζ X.K f)) : PO X (some e) (tO' ζ X.K (oSome f)) := ⟨fun pins s σ H Q I q => by
  refine (po_some h).run pins s σ H Q I ?_
  obtain ⟨φ, env, m, o, m', S, E, hf, k⟩ := q
  obtain ⟨⟨r1, m1⟩, h1, hf⟩ := bind_some_iff hf
  obtain ⟨i, h2, hf⟩ := bind_some_iff hf
  cases hf
  have e2 := asI_some h2
  simp only at e2
  subst e2
  exact ⟨φ, env, m, _, m1, S, E, h1, fun φ1 H1 v g1 S1 R1 => ⟨i, rr_int R1, k φ1 H1 g1 S1⟩⟩⟩
theorem x_slT (ha : PE X a (tE ζ X.K f)) (hl : PO X lo (tO' ζ X.K fl)) (hh : PO X hi (tO' ζ X.K fh)) : PE X (.Subscript a (.Slice lo hi none p2) pos) (tE ζ X.K (eSlT f fl fh)) := pe_imp (pe_slice sl_tupF ha hl hh) fun σ H Q q => by
  obtain ⟨φ, env, m, r, m', S, E, hf, k⟩ := q
  obtain ⟨⟨r1, m1⟩, h1, hf⟩ := bind_some_iff hf
  obtain ⟨⟨o1, m2⟩, h2, hf⟩ := bind_some_iff hf
  obtain ⟨⟨o2, m3⟩, h3, hf⟩ := bind_some_iff hf
  cases r1 with
  | tp j => first | (cases hf; done) | (cases e; done) | (cases h1; done) | (cases h; done) | (cases h7; done) | (cases h2; done)
  | ref j => cases hf
  | val d1 => cases d1 with
  | tuple ds =>
    cases hf
    refine ⟨φ, env, m, _, m1, S, E, h1, fun φ1 H1 v g1 S1 R1 => ?_⟩
    refine ⟨φ1, env, m1, o1, m2, S1, E.mono g1, h2, fun φ2 H2 g2 S2 => ?_⟩
    refine ⟨φ2, env, m2, o2, _, S2, E.mono (g1.trans g2), h3, fun φ3 H3 g3 S3 => ?_⟩
    obtain ⟨p, xs, rfl, hs, hd⟩ := seqT_of (R1.mono (g2.trans g3))
    have hn := DpAll.len hd
    refine ⟨p, xs, rfl, hs, fun hw => ?_, fun hw q o hq ho => ?_⟩
    · have e : cutD ds o1 o2 = ds := by
        unfold cutD
        rw [← hn, hw.1, hw.2, List.drop_zero, Nat.sub_zero, hn, List.take_length]
      rw [e] at k
      exact k φ3 H3 _ (g1.trans (g2.trans g3)) S3 (R1.mono (g2.trans g3))
    · exact k φ3 _ _ (g1.trans (g2.trans (g3.trans (gr_alloc hq)))) (S3.alloc hq ho) (rr_newT S3 hq (DpAll.cut hd o1 o2))
  | _ => cases hf
theorem n_slL (ha : PE X a (tE ζ X.K f)) (hl : PO X lo (tO' ζ X.K fl)) (hh : PO X hi (tO' ζ X.K fh)) : PE X (.Subscript a (.Slice lo hi none p2) pos) (tN ζ X.K (nSlL f fl fh)) := pe_imp (pe_slice sl_list ha hl hh) fun σ H Q q => by
  obtain ⟨φ, env, m, r, m', S, E, hf, k⟩ := q
  obtain ⟨⟨r1, m1⟩, h1, hf⟩ := bind_some_iff hf
  obtain ⟨⟨o1, m2⟩, h2, hf⟩ := bind_some_iff hf
  obtain ⟨⟨o2, m3⟩, h3, hf⟩ := bind_some_iff hf
  obtain ⟨ds, h4, hf⟩ := bind_some_iff hf
  cases hf
  refine ⟨φ, env, m, _, m1, S, E, h1, fun φ1 H1 v g1 S1 R1 => ?_⟩
  refine ⟨φ1, env, m1, o1, m2, S1, E.mono g1, h2, fun φ2 H2 g2 S2 => ?_⟩
  refine ⟨φ2, env, m2, o2, _, S2, E.mono (g1.trans g2), h3, fun φ3 H3 g3 S3 => ?_⟩
  obtain ⟨p, xs, rfl, hs, hd⟩ := seqL_of S3 (R1.mono (g2.trans g3)) h4
  exact ⟨p, xs, rfl, hs, fun q hq => k φ3 H3 q _ (g1.trans (g2.trans g3)) S3 hq (DpAll.cut hd o1 o2)⟩
end
end Ev

set_option Elab.async false
set_option linter.all false
set_option maxRecDepth 100000
/-! Comprehensions. -/
namespace Ev
open PySem PySem.Spec PyProof.Rows L2

/-! ### targets: names, tuples of targets -/
mutual
inductive Pat where
  | nm (i : Nat)
  | tp (ps : Pats)
inductive Pats where
  | nil
  | cons (p : Pat) (ps : Pats)
end
def Pats.len : Pats → Nat
  | .nil => 0
  | .cons _ ps => ps.len + 1
mutual
def gPat (ζ : Tbs) (K : PySem.W.Frag) : Pat → TG
  | .nm i => gName i
  | .tp ps => gTup K ps.len (gPats ζ K ps)
def gPats (ζ : Tbs) (K : PySem.W.Frag) : Pats → TGs
  | .nil => gNil
  | .cons p ps => gCons (gPat ζ K p) (gPats ζ K ps)
end
mutual
def bindP : Pat → D → Sl → Option Sl
  | .nm i, d, env => some (env.set i (some (.val d)))
  | .tp ps, d, env => match d with
    | .tuple ds => bindPs ps ds env
    | _ => none
def bindPs : Pats → List D → Sl → Option Sl
  | .nil, ds, env => match ds with
    | [] => some env
    | _ => none
  | .cons p ps, ds, env => match ds with
    | d :: ds => (bindP p d env).bind (bindPs ps ds)
    | [] => none
end
mutual
def Pat.within (vs : List Nat) : Pat → Bool
  | .nm i => decide (i ∈ vs)
  | .tp ps => ps.within vs
def Pats.within (vs : List Nat) : Pats → Bool
  | .nil => true
  | .cons p ps => p.within vs && ps.within vs
end
def wipeE (env : Sl) : List Nat → Sl
  | [] => env
  | v :: vs => (wipeE env vs).set v none
theorem getElem?_wipe {σ : L2.St} {i : Nat} : ∀ {vs : List Nat}, i ∈ vs → ∀ x, (wipe σ vs)[i]? ≠ some (some x)
  | vs, hi, x, e => (wipe_some e).2 hi
theorem wipe_set {σ : L2.St} {i : Nat} {x : Option V} {vs : List Nat} (hi : i ∈ vs) : wipe (σ.set i x) vs = wipe σ vs := by
  induction vs with
  | nil => cases hi
  | cons v vs ih =>
    unfold wipe
    by_cases hv : i ∈ vs
    · rw [ih hv]
    · have e : i = v := (List.mem_cons.mp hi).resolve_right hv
      subst e
      have key : ∀ ws : List Nat, i ∉ ws → wipe (σ.set i x) ws = (wipe σ ws).set i x := by
        intro ws
        induction ws with
        | nil => intro _; rfl
        | cons w ws ihw =>
          intro hw
          unfold wipe
          rw [ihw (fun z => hw (List.mem_cons_of_mem _ z)), List.set_comm _ _ (fun z : i = w => hw (by rw [z]; exact List.mem_cons_self))]
      rw [key vs hv, List.set_set]
theorem er_wipe {K : PySem.W.Frag} {φ : Ad} {H : Hp} {σ : L2.St} {env : Sl} (e : ER K φ H σ env) : ∀ vs : List Nat, ER K φ H (wipe σ vs) (wipeE env vs)
  | [] => e
  | v :: vs => by
    have ih := er_wipe e vs
    unfold wipe wipeE
    refine ⟨by rw [List.length_set, List.length_set]; exact ih.len, fun i r he => ?_⟩
    by_cases hi : i = v
    · subst hi
      by_cases hl : i < (wipeE env vs).length
      · rw [List.getElem?_set_self hl] at he
        cases he
      · rw [List.getElem?_eq_none (by rw [List.length_set]; omega)] at he
        cases he
    · rw [List.getElem?_set_ne (fun z => hi z.symm)] at he ⊢
      exact ih.at_ i r he
section
variable {K : PySem.W.Frag} {φ : Ad} {H : Hp} {vs : List Nat}
mutual
theorem bindP_ok : ∀ (p : Pat) {d : D} {v : V} {σ : L2.St} {env env' : Sl}, ER K φ H σ env → Dp K (off φ H) v d → bindP p d env = some env' → p.within vs = true → ∃ σ', (∀ Q : L2.St → Hp → Prop, Q σ' H → gPat ζ K p v σ H Q) ∧ ER K φ H σ' env' ∧ wipe σ' vs = wipe σ vs
  | .nm i, d, v, σ, env, env', E, R, e, w => by
    simp only [bindP] at e
    cases e
    simp only [Pat.within, decide_eq_true_eq] at w
    exact ⟨σ.set i (some v), fun Q q => by simp only [gPat]; exact q, E.set (r := .val d) R i, wipe_set w⟩
  | .tp ps, d, v, σ, env, env', E, R, e, w => by
    simp only [bindP] at e
    split at e
    · rename_i ds
      simp only [Pat.within] at w
      cases R with
      | tup hs ha =>
        obtain ⟨σ', h1, h2, h3⟩ := bindPs_ok ps E ha e w
        refine ⟨σ', fun Q q => ?_, h2, h3⟩
        simp only [gPat]
        exact ⟨_, _, rfl, sqT_mono off_same hs, h4 ps _ _ ha e, h1 Q q⟩
    · cases e
where
  h4 : ∀ (ps : Pats) (env env' : Sl) {us : List V} {ds : List D}, DpAll K (off φ H) us ds → bindPs ps ds env = some env' → us.length = ps.len
    | .nil, _, _, _, ds, h, e => by
      simp only [bindPs] at e
      split at e
      · cases h
        rfl
      · cases e
    | .cons p ps, _, _, _, ds, h, e => by
      simp only [bindPs] at e
      split at e
      · obtain ⟨e1, h1, h2⟩ := bind_some_iff e
        cases h with
        | cons a t =>
          rw [List.length_cons, h4 ps _ _ t h2]
          rfl
      · cases e
theorem bindPs_ok : ∀ (ps : Pats) {ds : List D} {us : List V} {σ : L2.St} {env env' : Sl}, ER K φ H σ env → DpAll K (off φ H) us ds → bindPs ps ds env = some env' → ps.within vs = true → ∃ σ', (∀ Q : L2.St → Hp → Prop, Q σ' H → gPats ζ K ps us σ H Q) ∧ ER K φ H σ' env' ∧ wipe σ' vs = wipe σ vs
  | .nil, ds, us, σ, env, env', E, R, e, w => by
    simp only [bindPs] at e
    split at e
    · cases e
      cases R
      exact ⟨σ, fun Q q => by simp only [gPats]; exact ⟨rfl, q⟩, E, rfl⟩
    · cases e
  | .cons p ps, ds, us, σ, env, env', E, R, e, w => by
    simp only [bindPs] at e
    split at e
    · obtain ⟨e1, h1, h2⟩ := bind_some_iff e
      simp only [Pats.within, Bool.and_eq_true] at w
      cases R with
      | cons a t =>
        obtain ⟨σ1, q1, E1, w1⟩ := bindP_ok p E a h1 w.1
        obtain ⟨σ2, q2, E2, w2⟩ := bindPs_ok ps E1 t h2 w.2
        refine ⟨σ2, fun Q q => ?_, E2, w2.trans w1⟩
        simp only [gPats]
        exact ⟨_, _, rfl, q1 _ (q2 Q q)⟩
    · cases e
end
end
/-! ### [e for p in it if t] -/
def clp (src : Src) (p : Pat) (tt : TF) (te : EF) (env : Sl) : Nat → Nat → M → Option (List D × M)
  | 0, i, m => (src i m).bind fun o => match o with
    | none => some ([], m)
    | some _ => none
  | n + 1, i, m => (src i m).bind fun o => match o with
    | none => some ([], m)
    | some d => (bindP p d env).bind fun e => (tt e m).bind fun t => if t.1 = true then (te e t.2).bind fun y => (asD0 y.1).bind fun d' => (clp src p tt te env n (i + 1) y.2).bind fun z => some (d' :: z.1, z.2) else clp src p tt te env n (i + 1) t.2
where
  asD0 : R → Option D
    | .val d => some d
    | _ => none
def nComp (it : IF) (p : Pat) (vs : List Nat) (tt : TF) (te : EF) : NF := fun env m => (it env m).bind fun x => if x.1.2 ≤ sizeLine then clp x.1.1 p tt te (wipeE env vs) x.1.2 0 x.2 else none
/-- over a list -/
def clpL (p : Pat) (tt : TF) (te : EF) (env : Sl) : List D → M → Option (List D × M)
  | [], m => some ([], m)
  | d :: ds, m => (bindP p d env).bind fun e => (tt e m).bind fun t => if t.1 = true then (te e t.2).bind fun y => (clp.asD0 y.1).bind fun d' => (clpL p tt te env ds y.2).bind fun z => some (d' :: z.1, z.2) else clpL p tt te env ds t.2
theorem clp_srcL {p : Pat} {tt : TF} {te : EF} {env : Sl} : ∀ (ds all : List D) (i : Nat) (m : M), all.drop i = ds → clp (srcL all) p tt te env ds.length i m = clpL p tt te env ds m
  | [], all, i, m, h => by
    have e : all[i]? = none := List.getElem?_eq_none (by simpa using h)
    simp [clp, srcL, e, clpL]
  | d :: ds, all, i, m, h => by
    have e : all[i]? = some d := by
      have := congrArg (·[0]?) h
      simpa using this
    have h' : all.drop (i + 1) = ds := by
      have := congrArg (List.drop 1) h
      simpa [List.drop_drop, Nat.add_comm] using this
    have ih := fun m => clp_srcL (p := p) (tt := tt) (te := te) (env := env) ds all (i + 1) m h'
    simp only [List.length_cons, clp, srcL, e, Option.bind_some, clpL, ih]
theorem nComp_L {it : IF} {p : Pat} {vs : List Nat} {tt : TF} {te : EF} {env : Sl} {m m' : M} {ds : List D} (h : it env m = iL ds m') (hl : ds.length ≤ sizeLine) : nComp it p vs tt te env m = clpL p tt te (wipeE env vs) ds m' := by
  unfold nComp
  rw [h]
  show (if ds.length ≤ sizeLine then clp (srcL ds) p tt te (wipeE env vs) ds.length 0 m' else none) = _
  rw [if_pos hl]
  exact clp_srcL ds ds 0 m' rfl

/-- without one object -/
def drp (H : Hp) (p : Addr) : Hp := fun b => if b = p then none else H b
theorem drp_self {H : Hp} {p : Addr} : drp H p p = none := if_pos rfl
theorem drp_some {H : Hp} {p b : Addr} {u : HO} : drp H p b = some u ↔ b ≠ p ∧ H b = some u := by
  unfold drp
  by_cases h : b = p
  · rw [if_pos h]
    exact Iff.intro (fun z => nomatch z) (fun z => absurd h z.1)
  · rw [if_neg h]
    exact Iff.intro (fun z => And.intro h z) (fun z => z.2)
theorem drp_upd {H : Hp} {p : Addr} {o : HO} : drp (upd H p o) p = drp H p := by
  funext b
  unfold drp
  by_cases h : b = p
  · rw [if_pos h, if_pos h]
  · rw [if_neg h, if_neg h, upd_ne h]
theorem drp_none {H : Hp} {p : Addr} (h : H p = none) : drp H p = H := by
  funext b
  unfold drp
  by_cases e : b = p
  · rw [if_pos e, e, h]
  · rw [if_neg e]
theorem upd_drp {H : Hp} {p : Addr} {o : HO} (h : H p = some o) : upd (drp H p) p o = H := by
  funext b
  unfold upd drp
  by_cases e : b = p
  · rw [if_pos e, e, h]
  · rw [if_neg e, if_neg e]
theorem off_hide {φ : Ad} {H : Hp} {p : Addr} : off (φ.hide p) H = off φ (drp H p) := by
  funext b
  unfold off
  by_cases h : b ∈ φ.all
  · have h2 : b ∈ (φ.hide p).all := by
      rcases Ad.mem.mp h with z | z
      · exact Ad.mem.mpr (.inl z)
      · exact Ad.mem.mpr (.inr (List.mem_cons_of_mem _ z))
    rw [if_pos h, if_pos h2]
  · by_cases e : b = p
    · have h2 : b ∈ (φ.hide p).all := Ad.mem.mpr (.inr (by rw [e]; exact List.mem_cons_self))
      rw [if_pos h2, if_neg h, e, drp_self]
      rfl
    · have h2 : b ∉ (φ.hide p).all := fun z => by
        rcases Ad.mem.mp z with z | z
        · exact h (Ad.mem.mpr (.inl z))
        · rcases List.mem_cons.mp z with z | z
          · exact e z
          · exact h (Ad.mem.mpr (.inr z))
      rw [if_neg h, if_neg h2]
      unfold drp
      rw [if_neg e]
section
variable {K : PySem.W.Frag} {φ φ' : Ad} {H H' : Hp} {m m' : M} {p : Addr}
theorem nodup_hide (h : φ.all.Nodup) (np : p ∉ φ.all) : (φ.hide p).all.Nodup := by
  unfold Ad.all Ad.hide at *
  rw [List.nodup_append] at *
  obtain ⟨h1, h2, h3⟩ := h
  refine ⟨h1, ?_, fun a ha b hb => ?_⟩
  · exact List.nodup_cons.mpr ⟨fun z => np (List.mem_append_right _ z), h2⟩
  · rcases List.mem_cons.mp (show b ∈ p :: φ.h from hb) with e | e
    · subst e
      exact fun z => np (List.mem_append_left _ (z ▸ ha))
    · exact h3 a ha b e
theorem SR.hide (S : SR ζ K φ H m) {o : HO} (h : H p = none) (no : isTb o = false := by rfl) (ho : plO o := by exact trivial) : SR ζ K (φ.hide p) (upd H p o) m := by
  refine ⟨S.len, nodup_hide S.nd (S.new h), fun i ob a e1 e2 => ?_, fun a ha => ?_, S.teq, fun q hq => List.mem_cons_of_mem _ (S.tin q hq), S.tab.ext fun b u e => upd_stay h e, pl_upd S.pl ho, S.kt⟩
  · rw [off_hide, drp_upd, drp_none h]
    exact (S.obj i ob a e1 e2).mono (fun _ _ z => z) fun u z => upd_stay h z
  · rcases List.mem_cons.mp ha with e | e
    · exact .inl ⟨o, by rw [e]; exact upd_same, no⟩
    · exact (S.hid a e).imp (fun ⟨u, q, n⟩ => ⟨u, upd_stay h q, n⟩) id
theorem SR.show_ (S : SR ζ K (φ.hide p) H m) {xs : List V} (hp : H p = some (.lst xs)) : SR ζ K φ (drp H p) m := by
  have ntab : ∀ b u, H b = some u → ((∃ ps, u = .tbl ps) ∨ ∃ q, u = LamX.CodeO b q) → b ≠ p := fun b u e k z => by
    rw [z, hp] at e
    cases e
    rcases k with ⟨ps, k⟩ | ⟨q, k⟩
    · cases k
    · exact codeO_lst k
  have nd := S.nd
  have np : p ∉ φ.all := by
    unfold Ad.all Ad.hide at nd
    rw [List.nodup_append] at nd
    obtain ⟨h1, h2, h3⟩ := nd
    intro z
    rcases Ad.mem.mp z with z | z
    · exact h3 p z p List.mem_cons_self rfl
    · exact (List.nodup_cons.mp h2).1 z
  refine ⟨S.len, ?_, fun i ob a e1 e2 => ?_, fun a ha => ?_, S.teq, fun q hq => ?_, tabs_keep S.tab fun b u e k => drp_some.mpr ⟨ntab b u e k, e⟩, fun b u e => S.pl b u (drp_some.mp e).2, S.kt⟩
  · unfold Ad.all Ad.hide at nd
    rw [List.nodup_append] at nd
    unfold Ad.all
    rw [List.nodup_append]
    exact ⟨nd.1, (List.nodup_cons.mp nd.2.1).2, fun a ha b hb => nd.2.2 a ha b (List.mem_cons_of_mem _ hb)⟩
  · have q := S.obj i ob a e1 e2
    rw [off_hide] at q
    have na : a ≠ p := fun z => np (Ad.mem.mpr (.inl (z ▸ List.mem_of_getElem? e2)))
    exact q.mono (fun _ _ z => z) fun u z => drp_some.mpr ⟨na, z⟩
  · have na : a ≠ p := fun z => np (Ad.mem.mpr (.inr (z ▸ ha)))
    exact (S.hid a (List.mem_cons_of_mem _ ha)).imp (fun ⟨u, q, n⟩ => ⟨u, drp_some.mpr ⟨na, q⟩, n⟩) id
  · rcases List.mem_cons.mp (show q.1 ∈ p :: φ.h from S.tin q hq) with z | z
    · obtain ⟨ps, h1, _⟩ := S.tab q hq
      exact absurd z (ntab _ _ h1 (.inl ⟨ps, rfl⟩))
    · exact z
theorem SR.hidSet (S : SR ζ K (φ.hide p) H m) {o : HO} {xs : List V} (hp : H p = some (.lst xs)) (no : isTb o = false := by rfl) (ho : plO o := by exact trivial) : SR ζ K (φ.hide p) (upd H p o) m := by
  refine ⟨S.len, S.nd, fun i ob a e1 e2 => ?_, fun a ha => ?_, S.teq, S.tin, tabs_write S.tab hp, pl_upd S.pl ho, S.kt⟩
  · have q := S.obj i ob a e1 e2
    rw [off_hide] at q
    rw [off_hide, drp_upd]
    have na : a ≠ p := fun z => S.apart (List.mem_of_getElem? e2) (by rw [z]; exact List.mem_cons_self)
    exact q.mono (fun _ _ z => z) fun u z => by rw [upd_ne na]; exact z
  · by_cases e : a = p
    · exact .inl ⟨o, by rw [e]; exact upd_same, no⟩
    · exact (S.hid a ha).imp (fun ⟨u, q, n⟩ => ⟨u, by rw [upd_ne e]; exact q, n⟩) id
theorem Gr.unhide (g : Gr (φ.hide p) H φ' H') : ∃ φ2 : Ad, φ' = φ2.hide p ∧ Gr φ (drp H p) φ2 (drp H' p) := by
  obtain ⟨s', h', t'⟩ := φ'
  have e : h' = p :: φ.h := g.eqh
  subst e
  have et : t' = φ.t := g.eqt
  subst et
  refine ⟨⟨s', φ.h, φ.t⟩, rfl, g.pre, rfl, rfl, ?_, fun a ha u e n => ?_, fun a o u e => by rw [drp_some] at e ⊢; exact ⟨e.1, g.frz a o u e.2⟩⟩
  · have q := g.same
    rw [off_hide] at q
    rw [show (⟨s', p :: φ.h, φ.t⟩ : Ad) = (⟨s', φ.h, φ.t⟩ : Ad).hide p from rfl, off_hide] at q
    exact q
  · rw [drp_some] at e ⊢
    exact ⟨e.1, g.stay a (List.mem_cons_of_mem _ ha) u e.2 n⟩
theorem gw_hide : Gw φ (drp H p) (φ.hide p) H := ⟨List.prefix_refl _, by rw [off_hide]; exact fun _ _ z => z, fun a o u e => (drp_some.mp e).2⟩
end
theorem wipe_idem (σ : L2.St) (vs : List Nat) : wipe (wipe σ vs) vs = wipe σ vs := by
  apply List.ext_getElem?
  intro j
  by_cases hj : j ∈ vs
  · have a1 := @getElem?_wipe σ j vs hj
    have a2 := @getElem?_wipe (wipe σ vs) j vs hj
    have l1 := wipe_length σ vs
    have l2 := wipe_length (wipe σ vs) vs
    by_cases hl : j < σ.length
    · have b1 : (wipe σ vs)[j]? = some ((wipe σ vs)[j]'(by omega)) := List.getElem?_eq_getElem _
      have b2 : (wipe (wipe σ vs) vs)[j]? = some ((wipe (wipe σ vs) vs)[j]'(by omega)) := List.getElem?_eq_getElem _
      cases c1 : (wipe σ vs)[j]'(by omega) with
      | some x => rw [c1] at b1; exact absurd b1 (a1 x)
      | none =>
        cases c2 : (wipe (wipe σ vs) vs)[j]'(by omega) with
        | some x => rw [c2] at b2; exact absurd b2 (a2 x)
        | none => rw [b1, b2, c1, c2]
    · rw [List.getElem?_eq_none (by omega), List.getElem?_eq_none (by omega)]
  · rw [wipe_out hj]
theorem lc_imp {K : PySem.W.Frag} {it : IF} {p : Pat} {vs : List Nat} {tt : TF} {te : EF} {σ : L2.St} {H : Hp} {Q : VK} (hw : p.within vs = true) (q : tN ζ K (nComp it p vs tt te) σ H Q) : tLc (tI ζ K it) (gPat ζ K p) (tT ζ K tt) (tE ζ K te) vs σ H Q := by
  obtain ⟨φ, env, m, ds, m', S, E, hf, k⟩ := q
  obtain ⟨⟨⟨src, n⟩, m1⟩, h1, hf⟩ := bind_some_iff hf
  simp only at hf
  split at hf
  case isFalse => cases hf
  rename_i hn
  refine ⟨φ, env, m, src, n, m1, S, E, h1, fun φ1 H1 J g1 S1 JJ => fun P hP => ?_⟩
  have E1 := E.mono g1
  refine ⟨fun i nn H => ∃ φ2 m2 acc ads rest, Gr φ1 H1 φ2 (drp H P) ∧ SR ζ K (φ2.hide P) H m2 ∧ H P = some (.lst acc) ∧ DpAll K (off (φ2.hide P) H) acc ads ∧ ads.length ≤ i ∧ i + nn ≤ n ∧ clp src p tt te (wipeE env vs) nn i m2 = some (rest, m') ∧ ads ++ rest = ds, ⟨n, φ1, m1, [], [], ds, ?_, S1.hide hP, upd_same, .nil, Nat.zero_le _, by omega, hf, rfl⟩, ?_⟩
  · rw [drp_upd, drp_none hP]
    exact .refl
  intro i nn H2 ⟨φ2, m2, acc, ads, rest, g2, S2, hp2, hd2, hl2, hb2, hc2, ha2⟩
  have gw : Gw φ1 H1 (φ2.hide P) H2 := g2.w.trans gw_hide
  have cas : ∃ o, src i m2 = some o := by
    cases nn <;> (obtain ⟨o, ho, _⟩ := bind_some_iff hc2; exact ⟨o, ho⟩)
  obtain ⟨o, ho⟩ := cas
  cases o with
  | none =>
    have e : rest = [] ∧ m2 = m' := by
      cases nn <;> (simp only [clp, ho, Option.bind_some] at hc2; cases hc2; exact ⟨rfl, rfl⟩)
    obtain ⟨e1, e2⟩ := e
    subst e1 e2
    rw [List.append_nil] at ha2
    subst ha2
    refine .inl ⟨JJ.stop _ _ m2 i gw S2 ho, ?_⟩
    rw [off_hide] at hd2
    have := k φ2 (drp H2 P) P acc (g1.trans g2) (S2.show_ hp2) drp_self hd2
    rw [upd_drp hp2] at this
    exact this
  | some d =>
    cases nn with
    | zero => simp [clp, ho] at hc2
    | succ nn =>
      refine .inr ⟨JJ.go _ _ m2 i d gw S2 ho, fun H' => ∃ φ2 m2 acc ads rest, Gr φ1 H1 φ2 (drp H' P) ∧ SR ζ K (φ2.hide P) H' m2 ∧ H' P = some (.lst acc) ∧ DpAll K (off (φ2.hide P) H') acc ads ∧ ads.length ≤ i + 1 ∧ i + 1 + nn ≤ n ∧ clp src p tt te (wipeE env vs) nn (i + 1) m2 = some (rest, m') ∧ ads ++ rest = ds,
        fun H' z => ⟨nn, Nat.lt_succ_self nn, z⟩, fun x H3 hy => ?_⟩
      obtain ⟨g3, S3, R3⟩ := JJ.yld _ _ m2 i d x H3 gw S2 ho hy
      simp only [clp, ho, Option.bind_some] at hc2
      obtain ⟨e4, h4, hc2⟩ := bind_some_iff hc2
      obtain ⟨⟨b, m5⟩, h5, hc2⟩ := bind_some_iff hc2
      have E3 : ER K (φ2.hide P) H3 (wipe σ vs) (wipeE env vs) := (er_wipe (E1.monoW gw) vs).mono g3
      obtain ⟨σ4, q4, E4, w4⟩ := bindP_ok p E3 R3 h4 hw
      refine q4 _ ⟨w4.trans (by
        have := wipe_idem σ vs
        exact this), ?_⟩
      refine ⟨φ2.hide P, e4, m2, b, m5, S3, E4, h5, fun φ5' H5 g5 S5 => ?_⟩
      have g35 := g3.trans g5
      obtain ⟨φ5, rfl, g5'⟩ := Gr.unhide g35
      have hp5 : H5 P = some (.lst acc) := g35.stay P List.mem_cons_self _ hp2 (fun ps z => by cases z)
      have hd5 := dps_mono g35.same hd2
      cases b with
      | false =>
        refine iteF ?_
        simp only [Bool.false_eq_true, if_false] at hc2
        exact ⟨φ5, m5, acc, ads, rest, g2.trans g5', S5, hp5, hd5, by omega, by omega, hc2, ha2⟩
      | true =>
        refine iteT ?_
        simp only [if_true] at hc2
        obtain ⟨⟨y, m6⟩, h6, hc2⟩ := bind_some_iff hc2
        obtain ⟨d', h7, hc2⟩ := bind_some_iff hc2
        obtain ⟨⟨zs, m8⟩, h8, hc2⟩ := bind_some_iff hc2
        cases hc2
        have hyv : y = .val d' := by
          cases y with
          | tp j => first | (cases hf; done) | (cases e; done) | (cases h1; done) | (cases h; done) | (cases h7; done) | (cases h2; done)
          | ref j => cases h7
          | val d => cases h7; rfl
        subst hyv
        refine ⟨φ5.hide P, e4, m5, _, m6, S5, E4.mono g5, h6, fun φ6' H6 v6 g6 S6 R6 => ?_⟩
        have g36 := g35.trans g6
        obtain ⟨φ6, rfl, g6'⟩ := Gr.unhide g36
        have hp6 : H6 P = some (.lst acc) := g36.stay P List.mem_cons_self _ hp2 (fun ps z => by cases z)
        have hd6 := dps_mono g36.same hd2
        refine ⟨acc, hp6, ?_, φ6, m6, acc ++ [v6], ads ++ [d'], zs, ?_, S6.hidSet hp6, upd_same, ?_, ?_, by omega, h8, ?_⟩
        · rw [DpAll.len hd2]
          omega
        · rw [drp_upd]
          exact g2.trans g6'
        · rw [off_hide, drp_upd, ← off_hide]
          exact DpAll.append hd6 (.cons R6 .nil)
        · rw [List.length_append]
          simp
          exact hl2
        · rw [List.append_assoc]
          exact ha2
def tTrue : TF := fun _ m => some (true, m)
theorem pts_imp {X : Cx} {es : List Expr} {t t' : TT} (h : PTs X es t) (k : ∀ σ H Q, t' σ H Q → t σ H Q) : PTs X es t' := ⟨fun pins s σ H Q I q => h.run pins s σ H Q I (k σ H Q q)⟩
section
variable {X : Cx} {c : Expr} {tc : TF}
theorem ts_nil : PTs X [] (tT ζ X.K tTrue) := pts_imp pts_nil fun σ H Q q => by
  obtain ⟨φ, env, m, b, m', S, E, hf, k⟩ := q
  cases hf
  exact k φ H .refl S
theorem ts_one (h : PT X c (tT ζ X.K tc)) : PTs X [c] (tT ζ X.K tc) := pts_one h
/-- a block's context -/
abbrev Cb (X : Cx) (scope : Scope) (s : Shared) (H : Hp) (C : Addr) (cl : List (Str × Addr)) (fp : List Addr) : Cx := X.blk s H scope (compEnvC scope cl C X.env) fp
theorem n_comp {elt tg iter : Expr} {ifs : List Expr} {scope : Scope} {own : List (Str × Nat)} {pos : Pos} {it : IF} {p : Pat} {tt : TF} {te : EF} (hc : X.calm = true) (hN : X.N.Nodup) (hi : PI X tg iter (tI ζ X.K it)) (ok : BlkOk X.N X.env.scope scope own) (hw : p.within (own.map (·.2)) = true)
    (hg : ∀ s H C cl fp, PG (Cb X scope s H C cl fp) tg (gPat ζ X.K p)) (ht : ∀ s H C cl fp, PTs (Cb X scope s H C cl fp) ifs (tT ζ X.K tt)) (he : ∀ s H C cl fp, PE (Cb X scope s H C cl fp) elt (tE ζ X.K te)) (hs : ∀ x, foldedSetIterable iter X.env x = pure x := by intro _; rfl) :
    PE X (.ListComp elt [⟨tg, iter, ifs, 0⟩] scope pos) (tN ζ X.K (nComp it p (own.map (·.2)) tt te)) := pe_imp (pe_lc hc hN hi ok hg ht he hs) fun _ _ _ q => lc_imp hw q
/-- name = [..] -/
def sNewC (i : Nat) (f : EF) : SF := sAsg f (gNm i)
theorem s_setC {i : Nat} {y : Str} {py : Pos} {elt tg iter : Expr} {ifs : List Expr} {scope : Scope} {own : List (Str × Nat)} {pos spos : Pos} {it : IF} {p : Pat} {tt : TF} {te : EF} (hc : X.calm = true) (hN : X.N.Nodup) (hy : X.N[i]? = some y) (hyl : X.env.scope.names.lookup y = some .local)
    (hsw : swapsWith (.ListComp elt [⟨tg, iter, ifs, 0⟩] scope pos) (some (.Name y py)) spos.line X.env = pure true) (hi : PI X tg iter (tI ζ X.K it)) (ok : BlkOk X.N X.env.scope scope own) (hw : p.within (own.map (·.2)) = true)
    (hg : ∀ s H C cl fp, PG (Cb X scope s H C cl fp) tg (gPat ζ X.K p)) (ht : ∀ s H C cl fp, PTs (Cb X scope s H C cl fp) ifs (tT ζ X.K tt)) (he : ∀ s H C cl fp, PE (Cb X scope s H C cl fp) elt (tE ζ X.K te)) (hs : ∀ x, foldedSetIterable iter X.env x = pure x := by intro _; rfl) :
    PS X (.Assign [.Name y py] (.ListComp elt [⟨tg, iter, ifs, 0⟩] scope pos) spos) (tS ζ X.K (sAsg (eL (nComp it p (own.map (·.2)) tt te)) (gNm i))) := ps_imp (ps_setLc hc hN hy hyl hsw hi ok hg ht he hs) fun W σ H q => by
  obtain ⟨φ, env, m, fl, S, E, hf, k⟩ := q
  obtain ⟨⟨r1, m1⟩, h1, hf⟩ := bind_some_iff hf
  obtain ⟨⟨ds, m2⟩, h2, h1⟩ := bind_some_iff h1
  cases h1
  cases hf
  refine lc_imp hw ⟨φ, env, m, ds, m2, S, E, h2, fun φ1 H1 p vs g1 S1 hp hd => ?_⟩
  have g2 := g1.trans (gr_alloc (o := .lst vs) hp)
  exact k φ1 _ _ g2 (S1.alloc hp) ((E.mono g2).set (rr_newL S1 hp hd) i)
theorem s_setCN {i : Nat} {y : Str} {py : Pos} {elt tg iter : Expr} {ifs : List Expr} {scope : Scope} {own : List (Str × Nat)} {pos spos : Pos} {it : IF} {p : Pat} {tt : TF} {te : EF} (hc : X.calm = true) (hN : X.N.Nodup) (hy : X.N[i]? = some y) (hyl : X.env.scope.names.lookup y = some .local)
    (hsw : swapsWith (.ListComp elt [⟨tg, iter, ifs, 0⟩] scope pos) (some (.Name y py)) spos.line X.env = pure true) (hi : PI X tg iter (tI ζ X.K it)) (ok : BlkOk X.N X.env.scope scope own) (hw : p.within (own.map (·.2)) = true)
    (hg : ∀ s H C cl fp, PG (Cb X scope s H C cl fp) tg (gPat ζ X.K p)) (ht : ∀ s H C cl fp, PTs (Cb X scope s H C cl fp) ifs (tT ζ X.K tt)) (he : ∀ s H C cl fp, PE (Cb X scope s H C cl fp) elt (tE ζ X.K te)) (hs : ∀ x, foldedSetIterable iter X.env x = pure x := by intro _; rfl) :
    PS X (.Assign [.Name y py] (.ListComp elt [⟨tg, iter, ifs, 0⟩] scope pos) spos) (tS ζ X.K (sAsg (eNew (nComp it p (own.map (·.2)) tt te)) (gNm i))) := ps_imp (ps_setLc hc hN hy hyl hsw hi ok hg ht he hs) fun W σ H q => by
  obtain ⟨φ, env, m, fl, S, E, hf, k⟩ := q
  obtain ⟨⟨r1, m1⟩, h1, hf⟩ := bind_some_iff hf
  obtain ⟨⟨ds, m2⟩, h2, h1⟩ := bind_some_iff h1
  cases h1
  cases hf
  refine lc_imp hw ⟨φ, env, m, ds, m2, S, E, h2, fun φ1 H1 p vs g1 S1 hp hd => ?_⟩
  have g2 := g1.trans (gr_enter (o := .lst vs) hp)
  have R : RR X.K (φ1.add p) (upd H1 p (.lst vs)) (.ref p) (.ref m2.length) := by
    refine ⟨p, rfl, ?_⟩
    show (φ1.s ++ [p])[m2.length]? = some p
    rw [← S1.len, List.getElem?_append_right (Nat.le_refl _), Nat.sub_self]
    rfl
  exact k _ _ _ g2 (S1.enter hp hd) ((E.mono g2).set R i)
end
/-- loops over patterns -/
def gP (p : Pat) : GF := fun r env m => match r with
  | .val d => (bindP p d env).bind fun e => some (e, m)
  | _ => none
theorem gp_ok {X : Cx} {tg : Expr} {p : Pat} (h : PG X tg (gPat ζ X.K p)) (hw : ∃ vs, p.within vs = true) : PG X tg (tG ζ X.K (gP p)) := tg_imp h fun v σ H Q q => by
  obtain ⟨φ, env, m, r, e', m', S, E, Rv, hf, k⟩ := q
  obtain ⟨vs, hw⟩ := hw
  cases r with
  | tp j => first | (cases hf; done) | (cases e; done) | (cases h1; done) | (cases h; done) | (cases h7; done) | (cases h2; done)
  | ref j => cases hf
  | val d =>
    obtain ⟨e1, h1, hf⟩ := bind_some_iff hf
    cases hf
    obtain ⟨σ', q1, E1, _⟩ := bindP_ok p E Rv h1 hw
    exact q1 Q (k φ σ' H .refl S E1)
end Ev

set_option Elab.async false
set_option linter.all false
set_option maxRecDepth 100000
/-! Built-in functions and methods. -/
namespace Ev
open PySem PySem.Spec PyProof.Rows L2

abbrev PF := List R → M → Option (R × M)
def p1 (p : R → M → Option (R × M)) : PF := fun rs m => match rs with
  | [a] => p a m
  | _ => none
def p2 (p : R → R → M → Option (R × M)) : PF := fun rs m => match rs with
  | [a, b] => p a b m
  | _ => none
def pOrs (p q : PF) : PF := fun rs m => match p rs m with
  | some x => some x
  | none => q rs m
section
variable {X : Cx} {f : Value} {k : Nat}
theorem c_or {p q : PF} (h1 : CallR X f (rsP ζ X.K p)) (h2 : CallR X f (rsP ζ X.K q)) : CallR X f (rsP ζ X.K (pOrs p q)) := by
  intro pins s σ H xs us Q I rx z
  obtain ⟨φ, m, rs, r, m', S, RS, hf, kk⟩ := z
  unfold pOrs at hf
  split at hf
  · rename_i e
    cases hf
    exact h1 pins s σ H xs us Q I rx ⟨φ, m, rs, r, m', S, RS, e, kk⟩
  · exact h2 pins s σ H xs us Q I rx ⟨φ, m, rs, r, m', S, RS, hf, kk⟩
/-- a rule of one value -/
theorem c_one {p : R → M → Option (R × M)} (h : ∀ (pins : List (Addr × Obj)) (s : Shared) (σ : L2.St) (H : Hp) (v : V) (us : List Value) (Q : VK) (φ : Ad) (m : M) (a r : R) (m' : M), Inv X pins σ H s → Vals [v] us → SR ζ X.K φ H m → RR X.K φ H v a → p a m = some (r, m') →
    ValK ζ X.K φ H r m' Q → wpAny (model X.prog X.w) X.A (call f us) (EP X pins σ Q) X.xe s) : CallR X f (rsP ζ X.K (p1 p)) := by
  intro pins s σ H xs us Q I rx z
  obtain ⟨φ, m, rs, r, m', S, RS, hf, kk⟩ := z
  unfold p1 at hf
  split at hf
  · cases RS with
    | cons a t =>
      cases t
      exact h pins s σ H _ us Q φ m _ r m' I rx S a hf kk
  · cases hf
theorem c_two {p : R → R → M → Option (R × M)} (h : ∀ (pins : List (Addr × Obj)) (s : Shared) (σ : L2.St) (H : Hp) (v v2 : V) (us : List Value) (Q : VK) (φ : Ad) (m : M) (a b r : R) (m' : M), Inv X pins σ H s → Vals [v, v2] us → SR ζ X.K φ H m → RR X.K φ H v a → RR X.K φ H v2 b → p a b m = some (r, m') →
    ValK ζ X.K φ H r m' Q → wpAny (model X.prog X.w) X.A (call f us) (EP X pins σ Q) X.xe s) : CallR X f (rsP ζ X.K (p2 p)) := by
  intro pins s σ H xs us Q I rx z
  obtain ⟨φ, m, rs, r, m', S, RS, hf, kk⟩ := z
  unfold p2 at hf
  split at hf
  · cases RS with
    | cons a t =>
      cases t with
      | cons a2 t2 =>
        cases t2
        exact h pins s σ H _ _ us Q φ m _ _ r m' I rx S a a2 hf kk
  · cases hf
end

/-! ### len, abs, min and max of two -/
def pLen := p1 fun r m => (asLT r m).bind fun ds => some (.val (.int ds.length), m)
def pAbs := p1 fun r m => (asI r).bind fun i => some (.val (.int (if i < 0 then -i else i)), m)
def pMin2 := p2 fun a b m => (asI a).bind fun i => (asI b).bind fun j => some (.val (.int (if j < i then j else i)), m)
def pMax2 := p2 fun a b m => (asI a).bind fun i => (asI b).bind fun j => some (.val (.int (if j > i then j else i)), m)
def pInt := p1 fun r m => match r with
  | .val (.int i) => some (.val (.int i), m)
  | .val (.bool b) => some (.val (.int (if b then 1 else 0)), m)
  | _ => none
/-- all of them ints -/
def asIs : List D → Option (List Int)
  | [] => some []
  | .int i :: ds => (asIs ds).bind fun is => some (i :: is)
  | _ => none
def asBs : List D → Option (List Bool)
  | [] => some []
  | .bool i :: ds => (asBs ds).bind fun is => some (i :: is)
  | _ => none
theorem asIs_eq : ∀ {ds : List D} {ns : List Int}, asIs ds = some ns → ds = ns.map .int
  | [], _, e => by cases e; rfl
  | d :: ds, ns, e => by
    cases d with
    | int i =>
      obtain ⟨is, h1, h2⟩ := bind_some_iff e
      cases h2
      rw [asIs_eq h1]
      rfl
    | _ => cases e
theorem asBs_eq : ∀ {ds : List D} {ns : List Bool}, asBs ds = some ns → ds = ns.map .bool
  | [], _, e => by cases e; rfl
  | d :: ds, ns, e => by
    cases d with
    | bool i =>
      obtain ⟨is, h1, h2⟩ := bind_some_iff e
      cases h2
      rw [asBs_eq h1]
      rfl
    | _ => cases e
theorem asIs_ints : ∀ ns : List Int, asIs (ns.map .int) = some ns
  | [] => rfl
  | n :: ns => by
    show (asIs (ns.map .int)).bind _ = _
    rw [asIs_ints ns]
    rfl
theorem asBs_bools : ∀ ns : List Bool, asBs (ns.map .bool) = some ns
  | [] => rfl
  | n :: ns => by
    show (asBs (ns.map .bool)).bind _ = _
    rw [asBs_bools ns]
    rfl
theorem bools_of_dpAll {K : PySem.W.Frag} {H : Hp} : ∀ {ns : List Bool} {vs : List V}, DpAll K H vs (ns.map PyData.bool) → vs = ns.map V.bl
  | [], _, h => by cases h; rfl
  | n :: r, _, h => by
    cases h with
    | cons a t =>
      cases a
      rw [bools_of_dpAll t]
      rfl
def pSum := p1 fun r m => (asLT r m).bind fun ds => (asIs ds).bind fun ns => some (.val (.int ns.sum), m)
def pAll := p1 fun r m => (asL r m).bind fun ds => (asBs ds).bind fun ns => some (.val (.bool (ns.all id)), m)
def pAny := p1 fun r m => (asL r m).bind fun ds => (asBs ds).bind fun ns => some (.val (.bool (ns.any id)), m)
def pTupleOf := p1 fun r m => match r with
  | .val (.tuple ds) => some (.val (.tuple ds), m)
  | r => (asL r m).bind fun ds => some (.val (.tuple ds), m)
/-- they can be compared with one another -/
def alikeB (ds : List D) : Bool := (ds.all fun x => ds.all fun y => PySem.W.alike x y) && ds.all fun x => match x with
  | .none => false
  | _ => true
theorem alikeB_ok {ds : List D} (h : alikeB ds = true) : PySem.W.AlikeAll ds := by
  unfold alikeB at h
  rw [Bool.and_eq_true, List.all_eq_true, List.all_eq_true] at h
  refine ⟨fun x hx y hy => List.all_eq_true.mp (h.1 x hx) y hy, fun x hx e => ?_⟩
  have := h.2 x hx
  rw [e] at this
  cases this
def smallAll (ds : List D) : Bool := decide (PyData.depthAll ds ≤ 60)
def pMinL := p1 fun r m => (asLT r m).bind fun ds => match ds with
  | [] => none
  | d :: ds => if (alikeB (d :: ds) && smallAll (d :: ds)) = true then some (.val (PySem.W.minD d ds), m) else none
def pMaxL := p1 fun r m => (asLT r m).bind fun ds => match ds with
  | [] => none
  | d :: ds => if (alikeB (d :: ds) && smallAll (d :: ds)) = true then some (.val (PySem.W.maxD d ds), m) else none
def pMin := pOrs pMin2 pMinL
def pMax := pOrs pMax2 pMaxL
def pRepr := p1 fun r m => (asD r m).bind fun d => if (d.showable && !d.hasDict && decide (d.depth ≤ 60) && decide (d.shown.length ≤ sizeLine)) = true then some (.val (.str d.shown), m) else none
section
variable {X : Cx} {k : Nat}
theorem one_val {v : V} {us : List Value} (h : Vals [v] us) : ∃ u, us = [u] ∧ RelV v u := Vals.one h
theorem c_len : CallR X (.builtin "len") (rsP ζ X.K pLen) := c_one fun pins s σ H v us Q φ m a r m' I rx S ra hf kk => by
  obtain ⟨ds, h1, hf⟩ := bind_some_iff hf
  cases hf
  obtain ⟨p, xs, rfl, hs, hd⟩ := seqLT_of S ra h1
  exact call_len_seq pins s σ H _ us Q I rx ⟨p, xs, rfl, hs, by rw [DpAll.len hd]; exact kk φ H _ .refl S (Dp.int _)⟩
theorem c_abs : CallR X (.builtin "abs") (rsP ζ X.K pAbs) := c_one fun pins s σ H v us Q φ m a r m' I rx S ra hf kk => by
  obtain ⟨i, h1, hf⟩ := bind_some_iff hf
  cases hf
  have e := asI_some h1
  subst e
  have e := rr_int ra
  subst e
  exact call_abs pins s σ H _ us Q I rx ⟨i, rfl, kk φ H _ .refl S (Dp.int _)⟩
theorem c_min2 (hc : X.calm = true) : CallR X (.builtin "min") (rsP ζ X.K pMin2) := c_two fun pins s σ H v v2 us Q φ m a b r m' I rx S ra rb hf kk => by
  obtain ⟨i, h1, hf⟩ := bind_some_iff hf
  obtain ⟨j, h2, hf⟩ := bind_some_iff hf
  cases hf
  have e := asI_some h1
  subst e
  have e := asI_some h2
  subst e
  have e := rr_int ra
  subst e
  have e := rr_int rb
  subst e
  exact call_min2 hc pins s σ H _ us Q I rx ⟨i, j, rfl, kk φ H _ .refl S (Dp.int _)⟩
theorem c_max2 (hc : X.calm = true) : CallR X (.builtin "max") (rsP ζ X.K pMax2) := c_two fun pins s σ H v v2 us Q φ m a b r m' I rx S ra rb hf kk => by
  obtain ⟨i, h1, hf⟩ := bind_some_iff hf
  obtain ⟨j, h2, hf⟩ := bind_some_iff hf
  cases hf
  have e := asI_some h1
  subst e
  have e := asI_some h2
  subst e
  have e := rr_int ra
  subst e
  have e := rr_int rb
  subst e
  exact call_max2 hc pins s σ H _ us Q I rx ⟨i, j, rfl, kk φ H _ .refl S (Dp.int _)⟩
theorem c_int : CallR X (.type "int") (rsP ζ X.K pInt) := c_one fun pins s σ H v us Q φ m a r m' I rx S ra hf kk => by
  split at hf
  · cases hf
    have e := rr_int ra
    subst e
    exact call_int1 pins s σ H _ us Q I rx (.inl ⟨_, rfl, kk φ H _ .refl S (Dp.int _)⟩)
  · cases hf
    have e := rr_bool ra
    subst e
    exact call_int1 pins s σ H _ us Q I rx (.inr ⟨_, rfl, kk φ H _ .refl S (Dp.int _)⟩)
  · cases hf
theorem c_sum (hc : X.calm = true) : CallR X (.builtin "sum") (rsP ζ X.K pSum) := c_one fun pins s σ H v us Q φ m a r m' I rx S ra hf kk => by
  obtain ⟨ds, h1, hf⟩ := bind_some_iff hf
  obtain ⟨ns, h2, hf⟩ := bind_some_iff hf
  cases hf
  have e := asIs_eq h2
  subst e
  obtain ⟨p, xs, rfl, hs, hd⟩ := seqLT_of S ra h1
  have e := ints_of_dpAll hd
  subst e
  have fin := kk φ H (.int ns.sum) .refl S (Dp.int _)
  rcases hs with hs | hs
  · exact cr_sum hc pins s σ H _ us Q I rx ⟨p, ns, rfl, hs, fin⟩
  · obtain ⟨its, rv, pl, hz⟩ := I.tuple hs
    obtain ⟨u, rfl, ru⟩ := one_val rx
    cases ru
    obtain ⟨xs, e⟩ := (rv.ints).allInts.items
    have hn : numsOf (intItems xs).toList = ns := by rw [← e]; exact (rv.ints).numsOf
    rw [nums_intItems] at hn
    rw [e] at pl
    have hlt : p < s.heap.objs.size := pl.lt
    refine PySem.call_sum_walkG (PySem.wpAny_pyIter_tuple pl ?_)
    refine ⟨_, _, _, _, _, _, numAt xs, rfl, Walks.tuple (A := X.A.in1) (I.ok.hd hc) _ p (Nat.ne_of_lt hlt) (intItems xs), ⟨⟨_, Heap.get?_push_size _ rfl, rfl, rfl⟩, Heap.IsTuple.push pl _⟩, fun b hb => ?_, (fun _ _ => intItems_at), fun h' tk t' hk => ?_⟩
    · show b < (s.heap.push _).objs.size
      rw [Heap.size_push]
      rcases List.mem_cons.mp hb with rfl | hb
      · exact Nat.lt_succ_self _
      · rcases List.mem_cons.mp hb with rfl | hb
        · exact Nat.lt_succ_of_lt hlt
        · cases hb
    · have hsz : (intItems xs).size = xs.size := by simp [intItems]
      rw [hsz, preSum_eq, List.take_of_length_le (by simp), hn]
      refine ⟨.int ns.sum, H, I.kept (t' := tk) fun b o e => hk b o (fun z => ?_) (Heap.get?_push_of_some _ e), ⟨_, rfl⟩, fin⟩
      exact absurd (Heap.lt_size e) ((List.mem_singleton.mp z) ▸ Nat.lt_irrefl _)
theorem c_all (hc : X.calm = true) : CallR X (.builtin "all") (rsP ζ X.K pAll) := c_one fun pins s σ H v us Q φ m a r m' I rx S ra hf kk => by
  obtain ⟨ds, h1, hf⟩ := bind_some_iff hf
  obtain ⟨ns, h2, hf⟩ := bind_some_iff hf
  cases hf
  have e := asBs_eq h2
  subst e
  obtain ⟨p, xs, rfl, hs, hd⟩ := seqL_of S ra h1
  have e := bools_of_dpAll hd
  subst e
  exact cr_all hc pins s σ H _ us Q I rx ⟨p, ns, rfl, hs, kk φ H _ .refl S (Dp.bl _)⟩
theorem c_any (hc : X.calm = true) : CallR X (.builtin "any") (rsP ζ X.K pAny) := c_one fun pins s σ H v us Q φ m a r m' I rx S ra hf kk => by
  obtain ⟨ds, h1, hf⟩ := bind_some_iff hf
  obtain ⟨ns, h2, hf⟩ := bind_some_iff hf
  cases hf
  have e := asBs_eq h2
  subst e
  obtain ⟨p, xs, rfl, hs, hd⟩ := seqL_of S ra h1
  have e := bools_of_dpAll hd
  subst e
  exact cr_any hc pins s σ H _ us Q I rx ⟨p, ns, rfl, hs, kk φ H _ .refl S (Dp.bl _)⟩
theorem c_tuple : CallR X (.type "tuple") (rsP ζ X.K pTupleOf) := c_one fun pins s σ H v us Q φ m a r m' I rx S ra hf kk => by
  have lst : ∀ ds, asL a m = some ds → ValK ζ X.K φ H (.val (.tuple ds)) m Q → wpAny (model X.prog X.w) X.A (call (.type "tuple") us) (EP X pins σ Q) X.xe s := fun ds h1 kk => by
    obtain ⟨p, xs, rfl, hs, hd⟩ := seqL_of S ra h1
    exact call_tupF pins s σ H _ us Q I rx ⟨p, xs, rfl, .inl ⟨hs, fun q o hq ho => kk φ _ _ (gr_alloc hq) (S.alloc hq ho) (rr_newT S hq hd)⟩⟩
  split at hf
  · cases hf
    obtain ⟨p, xs, rfl, hs, hd⟩ := seqT_of ra
    exact call_tupF pins s σ H _ us Q I rx ⟨p, xs, rfl, .inr ⟨hs, kk φ H _ .refl S ra⟩⟩
  · obtain ⟨ds, h1, hf⟩ := bind_some_iff hf
    cases hf
    exact lst ds h1 kk
theorem val_at {φ : Ad} {H : Hp} {pins : List (Addr × Obj)} {s : Shared} {σ : L2.St} {ds : List D} {xs : List V} {its : List Value} {i : Nat} {u : Value} {d : D} {h' : Heap} {bs : List Addr} (I : Inv X pins σ H s) (hd : DpAll X.K (off φ H) xs ds) (rv : Vals xs its)
    (hu : its[i]? = some u) (k : ∀ b o, s.heap.get? b = some o → h'.get? b = some o) (r : Reads h' u d bs) : ∃ v, RelV v u ∧ Dp X.K (off φ H) v d := by
  have hi : i < xs.length := by
    rw [rv.length]
    exact (List.getElem?_eq_some_iff.mp hu).1
  obtain ⟨d0, h1, h2⟩ := DpAll.get' hd (List.getElem?_eq_getElem hi)
  obtain ⟨u', h3, h4⟩ := rv.get (List.getElem?_eq_getElem hi)
  rw [hu] at h3
  cases h3
  obtain ⟨as, q⟩ := Dp.reads I d0 _ u (dp_mono off_same h2) h4
  have q' := Reads.keeps k q
  have e := (Reads.unique q' d bs r).1
  rw [e] at h2
  exact ⟨_, h4, h2⟩
theorem c_minL (hc : X.calm = true) (hr : Room k X.A) : CallR X (.builtin "min") (rsP ζ X.K pMinL) := c_one fun pins s σ H v us Q φ m a r m' I rx S ra hf kk => by
  obtain ⟨ds, h1, hf⟩ := bind_some_iff hf
  cases ds with
  | nil => cases hf
  | cons d ds =>
    simp only at hf
    split at hf
    · rename_i hcond
      cases hf
      rw [Bool.and_eq_true] at hcond
      have hal := alikeB_ok hcond.1
      have hsm : PyData.depthAll (d :: ds) ≤ 60 := of_decide_eq_true hcond.2
      have hun := hr.un
      have hu : X.A.units + 1 + PyData.depthAll (d :: ds) < cLine := by omega
      obtain ⟨p, xs, rfl, hs, hd⟩ := seqLT_of S ra h1
      obtain ⟨u, rfl, ru⟩ := one_val rx
      cases ru
      have hd' := dps_mono off_same hd
      have fin : ∀ (its : List Value), Vals xs its → ∀ (i : Nat) v h' tk bs, its[i]? = some v → Reads h' v (PySem.W.minD d ds) bs → (∀ b o, s.heap.get? b = some o → h'.get? b = some o) → EP X pins σ Q v { s with heap := h', toks := tk } := by
        intro its rv i u h' tk bs e r k
        obtain ⟨v, h4, h2⟩ := val_at I hd rv e k r
        exact ⟨v, H, I.kept (t' := tk) k, h4, kk φ H v .refl S h2⟩
      rcases hs with hs | hs
      · obtain ⟨its, rv, pl, hz⟩ := I.list hs
        obtain ⟨as, hR⟩ := Dp.readsAll I (d :: ds) xs its hd' rv
        exact PySem.W.min_list_data (I.ok.hd hc) pl.isList (by simpa using hR) hal hu fun i v h' tk bs e => fin its rv i v h' tk bs (by simpa using e)
      · obtain ⟨its, rv, pl, hz⟩ := I.tuple hs
        obtain ⟨as, hR⟩ := Dp.readsAll I (d :: ds) xs its hd' rv
        exact PySem.W.min_tuple_data (I.ok.hd hc) pl (by simpa using hR) hal hu fun i v h' tk bs e => fin its rv i v h' tk bs (by simpa using e)
    · cases hf
theorem c_maxL (hc : X.calm = true) (hr : Room k X.A) : CallR X (.builtin "max") (rsP ζ X.K pMaxL) := c_one fun pins s σ H v us Q φ m a r m' I rx S ra hf kk => by
  obtain ⟨ds, h1, hf⟩ := bind_some_iff hf
  cases ds with
  | nil => cases hf
  | cons d ds =>
    simp only at hf
    split at hf
    · rename_i hcond
      cases hf
      rw [Bool.and_eq_true] at hcond
      have hal := alikeB_ok hcond.1
      have hsm : PyData.depthAll (d :: ds) ≤ 60 := of_decide_eq_true hcond.2
      have hun := hr.un
      have hu : X.A.units + 1 + PyData.depthAll (d :: ds) < cLine := by omega
      obtain ⟨p, xs, rfl, hs, hd⟩ := seqLT_of S ra h1
      obtain ⟨u, rfl, ru⟩ := one_val rx
      cases ru
      have hd' := dps_mono off_same hd
      have fin : ∀ (its : List Value), Vals xs its → ∀ (i : Nat) v h' tk bs, its[i]? = some v → Reads h' v (PySem.W.maxD d ds) bs → (∀ b o, s.heap.get? b = some o → h'.get? b = some o) → EP X pins σ Q v { s with heap := h', toks := tk } := by
        intro its rv i u h' tk bs e r k
        obtain ⟨v, h4, h2⟩ := val_at I hd rv e k r
        exact ⟨v, H, I.kept (t' := tk) k, h4, kk φ H v .refl S h2⟩
      rcases hs with hs | hs
      · obtain ⟨its, rv, pl, hz⟩ := I.list hs
        obtain ⟨as, hR⟩ := Dp.readsAll I (d :: ds) xs its hd' rv
        exact PySem.W.max_list_data (I.ok.hd hc) pl.isList (by simpa using hR) hal hu fun i v h' tk bs e => fin its rv i v h' tk bs (by simpa using e)
      · obtain ⟨its, rv, pl, hz⟩ := I.tuple hs
        obtain ⟨as, hR⟩ := Dp.readsAll I (d :: ds) xs its hd' rv
        exact PySem.W.max_tuple_data (I.ok.hd hc) pl (by simpa using hR) hal hu fun i v h' tk bs e => fin its rv i v h' tk bs (by simpa using e)
    · cases hf
theorem c_min (hc : X.calm = true) (hr : Room k X.A) : CallR X (.builtin "min") (rsP ζ X.K pMin) := c_or (c_min2 hc) (c_minL hc hr)
theorem c_max (hc : X.calm = true) (hr : Room k X.A) : CallR X (.builtin "max") (rsP ζ X.K pMax) := c_or (c_max2 hc) (c_maxL hc hr)
theorem c_repr (hg : X.A.guards = some []) (hr : Room k X.A) : CallR X (.builtin "repr") (rsP ζ X.K pRepr) := c_one fun pins s σ H v us Q φ m a r m' I rx S ra hf kk => by
  obtain ⟨d, h1, hf⟩ := bind_some_iff hf
  split at hf
  · rename_i hc
    cases hf
    simp only [Bool.and_eq_true, decide_eq_true_eq, Bool.not_eq_true'] at hc
    obtain ⟨⟨⟨c1, c2⟩, c3⟩, c4⟩ := hc
    have hd := asD_dp S ra h1
    obtain ⟨u, rfl, ru⟩ := one_val rx
    obtain ⟨as, q⟩ := Dp.reads I d v u hd ru
    have hun := hr.un
    have fin := kk φ H (.str d.shown) .refl S (Dp.str _)
    have cont : ∀ b, u = .ref b → wpAny (model X.prog X.w) X.A (call (.builtin "repr") [u]) (EP X pins σ Q) X.xe s := fun b e => by
      subst e
      refine PySem.repr_of_reads' (hsz := c4) q c1 (fun z => by rw [c2] at z; cases z) hg (by omega) (fun _ _ z => z) fun h' u tk kp => ?_
      exact ⟨.str d.shown, H, I.kept (t' := tk) kp, ⟨_, rfl⟩, fin⟩
    cases hd with
    | non =>
      cases ru
      exact PySem.P.repr_of_none ⟨.str _, H, I.tok _, ⟨_, rfl⟩, fin⟩
    | bl b =>
      cases ru
      exact PySem.P.repr_of_bool ⟨.str _, H, I.tok _, ⟨_, rfl⟩, fin⟩
    | int i =>
      obtain ⟨t, rfl⟩ := ru
      exact PySem.P.repr_of_int (of_decide_eq_true c1) ⟨.str _, H, I.tok _, ⟨_, rfl⟩, fin⟩
    | str z =>
      obtain ⟨t, rfl⟩ := ru
      exact PySem.P.repr_of_str (hsz := c4) ⟨.str _, H, I.tok _, ⟨_, rfl⟩, fin⟩
    | lst hs ha =>
      cases ru
      exact cont _ rfl
    | tup hs ha =>
      cases ru
      exact cont _ rfl
  · cases hf
end

/-! ### isinstance -/
inductive Ty where
  | int | bool | str | tuple | list
def Ty.nm : Ty → String
  | .int => "int"
  | .bool => "bool"
  | .str => "str"
  | .tuple => "tuple"
  | .list => "list"
def isA (t : Ty) : R → Bool
  | .val (.int _) => match t with
    | .int => true
    | _ => false
  | .val (.bool _) => match t with
    | .int => true
    | .bool => true
    | _ => false
  | .val (.str _) => match t with
    | .str => true
    | _ => false
  | .val (.tuple _) => match t with
    | .tuple => true
    | _ => false
  | .val (.list _) => match t with
    | .list => true
    | _ => false
  | .ref _ => match t with
    | .list => true
    | _ => false
  | _ => false
def eIsA (t : Ty) (f : EF) : EF := fun env m => (f env m).bind fun x => match x.1 with
  | .ref k => (x.2[k]?).bind fun o => match o with
    | .lst _ => some (.val (.bool (isA t (.ref k))), x.2)
    | .dct _ _ _ => none
  | .val d => some (.val (.bool (isA t (.val d))), x.2)
  | .tp _ => none
section
variable {X : Cx} {e : Expr} {f : EF} {p0 p1 pos : Pos} {x y : Str}
theorem kb_list (t : Ty) : kitB "list" t.nm = some (isA t (.val (.list []))) := by cases t <;> decide +kernel
theorem kb_none (t : Ty) : kitB "NoneType" t.nm = some (isA t (.val .none)) := by cases t <;> decide +kernel
theorem kb_bool (t : Ty) : kitB "bool" t.nm = some (isA t (.val (.bool true))) := by cases t <;> decide +kernel
theorem kb_int (t : Ty) : kitB "int" t.nm = some (isA t (.val (.int 0))) := by cases t <;> decide +kernel
theorem kb_str (t : Ty) : kitB "str" t.nm = some (isA t (.val (.str (Str.ofString "")))) := by cases t <;> decide +kernel
theorem kb_tuple (t : Ty) : kitB "tuple" t.nm = some (isA t (.val (.tuple []))) := by cases t <;> decide +kernel
theorem tyx_T {K : PySem.W.Frag} {H : Hp} {a : Addr} {xs : List V} (h : SqT K H a xs) : TyX K H (.ref a) (.type "tuple") := by
  rcases h with (h | ⟨o, h⟩) | ⟨o, its, n, h1, h2, _⟩
  · exact .base (.tup h)
  · exact .fTuple h
  · exact .kTuple h1 h2
theorem tyx_L {K : PySem.W.Frag} {H : Hp} {a : Addr} {xs : List V} (h : SqL K H a xs) : TyX K H (.ref a) (.type "list") := by
  rcases h with (h | ⟨o, h⟩) | ⟨o, its, n, h1, h2, _⟩
  · exact .base (.lst h)
  · exact .base (.frz h)
  · exact .kList h1 h2
theorem x_isa (t : Ty) (hx : y = Str.ofString t.nm) (he : PE X e (tE ζ X.K f)) (hg : Gl X "isinstance") (hm : X.mg "isinstance" = none) (hg2 : Gl X y) (hm2 : X.mg y = none) (hv2 : bootBuiltins y = some (.type t.nm)) (hn2 : y ≠ "__name__" := by decide) (hd2 : (y == ("__debug__" : Str)) = false := by decide)
    (s1 : starEach [e, .Name y p1] X.env = (false, eval e X.env) :: starEach [.Name y p1] X.env := by rfl) (hpl : (backTo pos (starEach [.Name y p1] X.env)).any (·.1) = false := by rfl) : PE X (.Call (.Name "isinstance" p0) [e, .Name y p1] [] pos) (tE ζ X.K (eIsA t f)) := by
  refine pe_imp (pe_callB (call_isi (X := X)) hg hm (by decide +kernel) (pa_cons he (pa_cons (pe_bltn (v := .ty t.nm) hg2 hm2 hv2 rfl hn2 hd2) pa_nil) s1) (he := s1) (hpl := hpl)) fun σ H Q q => ?_
  obtain ⟨φ, env, m, r, m', S, E, hf, k⟩ := q
  obtain ⟨⟨r1, m1⟩, h1, hf⟩ := bind_some_iff hf
  refine ⟨φ, env, m, r1, m1, S, E, h1, fun φ1 H1 v g1 S1 R1 => ?_⟩
  have goal : ∀ b ty, r = .val (.bool b) → m' = m1 → TyX X.K H1 v (.type ty) → kitB ty t.nm = some b → rIsi X.K [v, .ty t.nm] H1 Q := fun b ty e1 e2 h2 h3 => by
    subst e1 e2
    exact ⟨v, .ty t.nm, .type ty, .type t.nm, b, rfl, .ty _, h2, kit_ty h3, k φ1 H1 _ g1 S1 (Dp.bl _)⟩
  show rIsi X.K [v, .ty t.nm] H1 Q
  cases r1 with
  | tp j => first | (cases hf; done) | (cases e; done) | (cases h1; done) | (cases h; done) | (cases h7; done) | (cases h2; done)
  | ref j =>
    obtain ⟨o, ho, hf⟩ := bind_some_iff hf
    obtain ⟨a, rfl, ha⟩ := R1
    cases o with
    | dct t lk kvs => cases hf
    | lst ds =>
      cases hf
      obtain ⟨xs, h3, h4⟩ := S1.obj j _ a ho ha
      exact goal _ "list" rfl rfl (tyx_L (.inl (.inl h3))) (kb_list t)
  | val d =>
    have R1' : Dp X.K (off φ1 H1) v d := R1
    cases R1' with
    | non =>
      cases hf
      exact goal _ "NoneType" rfl rfl (.base .non) (kb_none t)
    | bl b =>
      cases hf
      exact goal _ "bool" rfl rfl (.base (.bl b)) (kb_bool t)
    | int i =>
      cases hf
      exact goal _ "int" rfl rfl (.base (.int i)) (kb_int t)
    | str z =>
      cases hf
      exact goal _ "str" rfl rfl (.base (.str z)) (kb_str t)
    | lst hs ha =>
      cases hf
      exact goal _ "list" rfl rfl (tyx_L (off_same.seq hs)) (kb_list t)
    | tup hs ha =>
      cases hf
      exact goal _ "tuple" rfl rfl (tyx_T (sqT_mono off_same hs)) (kb_tuple t)
end
end Ev

set_option Elab.async false
set_option linter.all false
set_option maxRecDepth 100000
/-! Methods of lists, stores to items, x op= y, enumerate, the law's end. -/
namespace Ev
open PySem PySem.Spec PyProof.Rows L2

/-! ### methods of lists -/
abbrev MF := R → List R → M → Option (R × M)
def rmP (ζ : Tbs) (K : PySem.W.Frag) (p : MF) : V → List V → Hp → VK → Prop := fun x xs H Q => ∃ φ m r0 rs r m', SR ζ K φ H m ∧ RR K φ H x r0 ∧ RRs K φ H xs rs ∧ p r0 rs m = some (r, m') ∧ ValK ζ K φ H r m' Q
/-- the receiver is a list -/
def eBM (p : MF) (f : EF) (fa : AF) : EF := fun env m => (f env m).bind fun x => (asL x.1 x.2).bind fun _ => (fa env x.2).bind fun y => p x.1 y.1 y.2
section
variable {X : Cx} {o e : Expr} {es : List Expr} {f : EF} {fa : AF} {p : MF} {id : String} {name : Str} {apos cpos : Pos}
theorem bm_imp {K : PySem.W.Frag} {σ : L2.St} {H : Hp} {Q : VK} (q : tE ζ K (eBM p f fa) σ H Q) : tBM K "list" (rmP ζ K p) (tE ζ K f) (tA ζ K fa) σ H Q := by
  obtain ⟨φ, env, m, r, m', S, E, hf, k⟩ := q
  obtain ⟨⟨r1, m1⟩, h1, hf⟩ := bind_some_iff hf
  obtain ⟨ds, h2, hf⟩ := bind_some_iff hf
  obtain ⟨⟨rs, m3⟩, h3, hf⟩ := bind_some_iff hf
  refine ⟨φ, env, m, r1, m1, S, E, h1, fun φ1 H1 v g1 S1 R1 => ?_⟩
  obtain ⟨a, xs, rfl, hs, hd⟩ := seqL_of S1 R1 h2
  refine ⟨.inl ⟨rfl, xs, hs⟩, φ1, env, m1, rs, m3, S1, E.mono g1, h3, fun φ2 H2 vs g2 S2 R2 => ?_⟩
  exact ⟨φ2, m3, r1, rs, r, m', S2, R1.mono g2, R2, hf, fun φ3 H3 v3 g3 S3 R3 => k φ3 H3 v3 (g1.trans (g2.trans g3)) S3 R3⟩
theorem x_bm (slot : Slot "list" name id) (hty : typeOf (.builtin id) = pure (.type "method_descriptor")) (hm : MtR X id (rmP ζ X.K p)) (ho : PE X o (tE ζ X.K f)) (ha : PA X (e :: es) (tA ζ X.K fa))
    (hbase : attributeBase o name X.env (eval o X.env) = eval o X.env := by rfl)
    (hfew : ((backTo cpos (starEach (e :: es) X.env)).all (fun x => !x.1) && (backToKw cpos (keywordEach [] X.env)).all (fun x => x.1.isSome)
      && decide ((e :: es).length + ([] : List Keyword).length + (if ([] : List Keyword).isEmpty then 0 else 1) < 30)) = true := by rfl)
    (hline : (apos.endLine == cpos.line) = true := by rfl) (hs : starEach (e :: es) X.env = (false, eval e X.env) :: starEach es X.env := by rfl) (hplain : (backTo cpos (starEach es X.env)).any (·.1) = false := by rfl) :
    PE X (.Call (.Attribute o name apos) (e :: es) [] cpos) (tE ζ X.K (eBM p f fa)) :=
  pe_imp (pe_bm PySem.F.plainAttrs_list slot hty hm ho ha hbase hfew hline hs hplain) fun _ _ _ q => bm_imp q
end
def pAppend : MF := fun r rs m => match r, rs with
  | .ref k, [.val d] => (m[k]?).bind fun o => match o with
    | .lst ds => if ds.length < sizeLine then some (.val .none, m.set k (.lst (ds ++ [d]))) else none
    | .dct _ _ _ => none
  | _, _ => none
/-- the first place of an equal item -/
def firstEq (d : D) : List D → Option Nat
  | [] => none
  | e :: es => if PyData.eqv e d = true then some 0 else (firstEq d es).bind fun j => some (j + 1)
def pIndex : MF := fun r rs m => match rs with
  | [a] => (asD a m).bind fun d => (asL r m).bind fun ds => if (SeqAt.shaped (.list ds) && SeqAt.shaped d) = true then (firstEq d ds).bind fun j => some (.val (.int j), m) else none
  | _ => none
theorem firstEq_at : ∀ {d : D} {ds : List D} {j : Nat}, firstEq d ds = some j → ∃ z, ds[j]? = some z ∧ PyData.eqv z d = true ∧ ∀ (i : Nat) (z' : D), i < j → ds[i]? = some z' → PyData.eqv z' d = false
  | d, [], j, h => by cases h
  | d, e :: es, j, h => by
    unfold firstEq at h
    split at h
    · rename_i he
      cases h
      exact ⟨e, rfl, he, fun i z' hi => absurd hi (Nat.not_lt_zero _)⟩
    · rename_i he
      obtain ⟨i, h1, h2⟩ := bind_some_iff h
      cases h2
      obtain ⟨z, a, b, c⟩ := firstEq_at h1
      refine ⟨z, a, b, fun j z' hj hz => ?_⟩
      cases j with
      | zero =>
        cases hz
        simpa using he
      | succ j => exact c j z' (Nat.lt_of_succ_lt_succ hj) hz
section
variable {X : Cx} {k : Nat}
theorem m_append : MtR X "list.append" (rmP ζ X.K pAppend) := by
  intro pins s σ H x xs v us Q I rx rxs h
  obtain ⟨φ, m, r0, rs, r, m', S, R0, RS, hf, kk⟩ := h
  unfold pAppend at hf
  split at hf
  · rename_i k d
    obtain ⟨ob, ho, hf⟩ := bind_some_iff hf
    cases ob with
    | dct t lk kvs => cases hf
    | lst ds =>
      simp only at hf
      split at hf
      · rename_i hl
        cases hf
        obtain ⟨a, rfl, ha⟩ := R0
        obtain ⟨zs, h3, h4⟩ := S.obj k _ a ho ha
        cases RS with
        | cons r1 t1 =>
          cases t1
          have hin : a ∈ φ.s := List.mem_of_getElem? ha
          refine mt_append pins s σ H _ _ v us Q I rx rxs ⟨a, zs, _, rfl, rfl, h3, by rw [DpAll.len h4]; exact hl, ?_⟩
          exact kk φ _ _ (gr_write hin (S.apart hin) (nf_lst h3)) (S.write ha (DpAll.append h4 (.cons r1 .nil))) Dp.non
      · cases hf
  · cases hf
theorem m_index (hr : Room k X.A) : MtR X "list.index" (rmP ζ X.K pIndex) := by
  intro pins s σ H x xs v us Q I rx rxs h
  obtain ⟨φ, m, r0, rs, r, m', S, R0, RS, hf, kk⟩ := h
  unfold pIndex at hf
  split at hf
  · obtain ⟨d, h1, hf⟩ := bind_some_iff hf
    obtain ⟨ds, h2, hf⟩ := bind_some_iff hf
    split at hf
    · rename_i hc
      obtain ⟨j, h3, hf⟩ := bind_some_iff hf
      cases hf
      rw [Bool.and_eq_true] at hc
      obtain ⟨z, e1, e2, e3⟩ := firstEq_at h3
      cases RS with
      | cons r1 t1 =>
        cases t1
        obtain ⟨a, zs, rfl, hs, hd⟩ := seqL_of S R0 h2
        have hun := hr.un
        refine mt_indexD (by omega) pins s σ H _ _ v us Q I rx rxs ⟨a, _, d, ds, j, z, rfl, rfl, .lst hs (dps_mono off_same hd), asD_dp S r1 h1, hc.1, hc.2, e1, e2, e3, kk φ H _ .refl S (Dp.int _)⟩
    · cases hf
  · cases hf
end

/-! ### o[i] = v, o[i] op= v, x op= v -/
def pSet (o i v : R) (m : M) : Option M := match o, v with
  | .ref k, .val d => (m[k]?).bind fun ob => match ob with
    | .lst ds => (asI i).bind fun z => (ixN ds.length z).bind fun j => some (m.set k (.lst (ds.set j d)))
    | .dct _ _ _ => none
  | _, _ => none
def rSetP (ζ : Tbs) (K : PySem.W.Frag) (p : R → R → R → M → Option M) : V → V → V → Hp → (Hp → Prop) → Prop := fun o i v H Q => ∃ φ m r1 r2 r3 m', SR ζ K φ H m ∧ RR K φ H o r1 ∧ RR K φ H i r2 ∧ RR K φ H v r3 ∧ p r1 r2 r3 m = some m' ∧
  ∀ φ' H', Gr φ H φ' H' → SR ζ K φ' H' m' → Q H'
def gSubF (p : R → R → R → M → Option M) (f g : EF) : GF := fun r env m => (f env m).bind fun x => (g env x.2).bind fun y => (p x.1 y.1 r y.2).bind fun m' => some (env, m')
/-- x op= e -/
def sAugF (p : R → R → M → Option (R × M)) (i : Nat) (f : EF) : SF := fun env m => (eVar i env m).bind fun x => (f env m).bind fun y => (p x.1 y.1 y.2).bind fun z => some (.nx (env.set i (some z.1)) z.2)
/-- o[i] op= e -/
def sAugSF (q : R → R → M → Option (R × M)) (p : R → R → R → M → Option M) (f g h : EF) : SF := fun env m => (f env m).bind fun x => (g env x.2).bind fun y => (pIdx x.1 y.1 y.2).bind fun z => (h env z.2).bind fun w => (q z.1 w.1 w.2).bind fun u => (p x.1 y.1 u.1 u.2).bind fun m' => some (.nx env m')
section
variable {X : Cx} {o i e : Expr} {f g h : EF} {pos tpos pos' : Pos}
theorem set_ok : PSet X (rSetP ζ X.K pSet) := by
  intro pins s σ H o i v ov iv u Q I ro ri rv z
  obtain ⟨φ, m, r1, r2, r3, m', S, R1, R2, R3, hf, kk⟩ := z
  unfold pSet at hf
  split at hf
  · rename_i k d
    obtain ⟨ob, ho, hf⟩ := bind_some_iff hf
    cases ob with
    | dct t lk kvs => cases hf
    | lst ds =>
      obtain ⟨n, h2, hf⟩ := bind_some_iff hf
      obtain ⟨j, h3, hf⟩ := bind_some_iff hf
      cases hf
      have e2 := asI_some h2
      subst e2
      have e2 := rr_int R2
      subst e2
      obtain ⟨a, rfl, ha⟩ := R1
      obtain ⟨zs, h4, h5⟩ := S.obj k _ a ho ha
      have hin : a ∈ φ.s := List.mem_of_getElem? ha
      exact set_list pins s σ H _ _ v ov iv u Q I ro ri rv ⟨a, zs, n, j, rfl, rfl, h4, by rw [DpAll.len h5]; exact h3, kk φ _ (gr_write hin (S.apart hin) (nf_lst h4)) (S.write ha (DpAll.set R3 j h5))⟩
  · cases hf
theorem g_sub {p : R → R → R → M → Option M} (ho : PE X o (tE ζ X.K f)) (hi : PE X i (tE ζ X.K g)) (hs : PSet X (rSetP ζ X.K p))
    (ha : ∀ v, assign (.Subscript o i pos) X.env v = (do
      let ov ← holding [v] (eval o X.env)
      let iv ← holding [v, ov] (eval i X.env)
      standAt pos
      holding [v, ov, iv] (setItem ov iv v)
      release [v, ov, iv] []) := by intros; rfl) : PG X (.Subscript o i pos) (tG ζ X.K (gSubF p f g)) := tg_imp (pg_sub ho hi hs ha) fun v σ H Q q => by
  obtain ⟨φ, env, m, r, e', m', S, E, Rv, hf, k⟩ := q
  obtain ⟨⟨r1, m1⟩, h1, hf⟩ := bind_some_iff hf
  obtain ⟨⟨r2, m2⟩, h2, hf⟩ := bind_some_iff hf
  obtain ⟨m3, h3, hf⟩ := bind_some_iff hf
  cases hf
  refine ⟨φ, env, m, r1, m1, S, E, h1, fun φ1 H1 v1 g1 S1 R1 => ?_⟩
  refine ⟨φ1, env, m1, r2, m2, S1, E.mono g1, h2, fun φ2 H2 v2 g2 S2 R2 => ?_⟩
  exact ⟨φ2, m2, r1, r2, r, m', S2, R1.mono g2, R2, Rv.mono (g1.trans g2), h3, fun φ3 H3 g3 S3 => k φ3 σ H3 (g1.trans (g2.trans g3)) S3 (E.mono (g1.trans (g2.trans g3)))⟩
theorem s_aug {n : Nat} {x : Str} {op : Operator} {p : R → R → M → Option (R × M)} (hN : X.N.Nodup) (hi : X.N[n]? = some x) (hx : Loc X.env.scope x) (he : PE X e (tE ζ X.K f)) (ho : OpR X (inplaceOp op) (r2P ζ X.K p)) (hf : X.fn x = true ∨ X.env.scope.names.lookup x = some .local := by first | exact .inl rfl | exact .inr rfl | assumption) :
    PS X (.AugAssign (.Name x pos') op e pos) (tS ζ X.K (sAugF p n f)) := ps_imp (ps_aug (ti := r2P ζ X.K p) hN hi hx he ho hf) fun W σ H q => by
  obtain ⟨φ, env, m, fl, S, E, hf, k⟩ := q
  obtain ⟨⟨r1, m1⟩, h1, hf⟩ := bind_some_iff hf
  obtain ⟨⟨r2, m2⟩, h2, hf⟩ := bind_some_iff hf
  obtain ⟨⟨r3, m3⟩, h3, hf⟩ := bind_some_iff hf
  cases hf
  have hr : env[n]? = some (some r1) ∧ m = m1 := by
    unfold eVar at h1
    split at h1
    · rename_i r' h
      cases h1
      exact ⟨h, rfl⟩
    · cases h1
  obtain ⟨v, q1, q2⟩ := E.get hr.1
  refine ⟨v, q1, φ, env, m, r2, m2, S, E, h2, fun φ1 H1 v2 g1 S1 R2 => ?_⟩
  exact ⟨φ1, m2, r1, r2, r3, m3, S1, q2.mono g1, R2, h3, fun φ2 H2 v3 g2 S2 R3 => k φ2 _ H2 (g1.trans g2) S2 ((E.mono (g1.trans g2)).set R3 n)⟩
theorem get_ok : PGet X (r2P ζ X.K pIdx) := by
  intro pins s σ H o i ov iv Q I ro ri q
  obtain ⟨φ, m, r1, r2, r, m', S, R1, R2, hf, k⟩ := q
  obtain ⟨ds, h1, hf⟩ := bind_some_iff hf
  obtain ⟨n, h2, hf⟩ := bind_some_iff hf
  obtain ⟨d, h3, hf⟩ := bind_some_iff hf
  cases hf
  have e2 := asI_some h2
  subst e2
  have x2 := rr_int R2
  subst x2
  obtain ⟨p, xs, rfl, hs, hd⟩ := seqLT_of S R1 h1
  obtain ⟨z, h4, h5⟩ := DpAll.atI hd h3
  have fin := k φ H z .refl S h5
  cases ro
  obtain ⟨t, rfl⟩ := ri
  obtain ⟨j, a1, a2, a3, a4, a5⟩ := atI_get h4
  have hn := line63
  have main : ∀ (its : List Value) (rv : Vals xs its) (hz : xs.length ≤ sizeLine), ∃ w, its[j]? = some w ∧ EP X pins σ Q w s ∧ (0 ≤ n → n.toNat = j) ∧ (¬ 0 ≤ n → (n + (its.toArray.size : Int)).toNat = j) ∧ n < 2 ^ 63 ∧ -(its.toArray.size : Int) ≤ n ∧ -(2 ^ 63) ≤ n := by
    intro its rv hz
    obtain ⟨w, ew, rw'⟩ := rv.get a2
    have hl := rv.length
    refine ⟨w, ew, ⟨z, H, I, rw', fin⟩, fun h0 => ?_, fun h0 => ?_, by omega, by rw [List.size_toArray]; omega, by omega⟩
    · rw [seqIndex_of h0 a5] at a1
      exact Option.some.inj a1
    · rw [seqIndex_neg (by omega) a4] at a1
      rw [List.size_toArray, ← hl]
      exact Option.some.inj a1
  rcases hs with hs | hs
  · obtain ⟨its, rv, pl, hz⟩ := I.list hs
    obtain ⟨w, ew, fin, b1, b2, b3, b4, b5⟩ := main its rv hz
    by_cases h0 : 0 ≤ n
    · exact wpAny_getItem_list pl.isList h0 b3 (by rw [b1 h0]; simpa using ew) fin
    · exact wpAny_getItem_list_neg pl.isList (by omega) b4 b5 (by rw [b2 h0]; simpa using ew) fin
  · obtain ⟨its, rv, pl, hz⟩ := I.tuple hs
    obtain ⟨w, ew, fin, b1, b2, b3, b4, b5⟩ := main its rv hz
    exact PyProof.Rows.getItem_tuple pl b5 b3 (by rw [List.size_toArray, ← rv.length]; exact a1) (by simpa using ew) fin
theorem s_augS {op : Operator} {q : R → R → M → Option (R × M)} {p : R → R → R → M → Option M} (ho : PE X o (tE ζ X.K f)) (hi : PE X i (tE ζ X.K g)) (he : PE X e (tE ζ X.K h)) (hp : OpR X (inplaceOp op) (r2P ζ X.K q)) (hs : PSet X (rSetP ζ X.K p))
    (ha : ∀ ov iv new, augStore i ov iv new = (do holding [new, ov, iv] (setItem ov iv new); release [new, ov, iv] []; pure .next) := by intros; rfl) : PS X (.AugAssign (.Subscript o i tpos) op e pos) (tS ζ X.K (sAugSF q p f g h)) :=
  ps_imp (ps_augS (tip := r2P ζ X.K q) ho hi get_ok he hp hs ha) fun W σ H z => by
  obtain ⟨φ, env, m, fl, S, E, hf, k⟩ := z
  obtain ⟨⟨r1, m1⟩, h1, hf⟩ := bind_some_iff hf
  obtain ⟨⟨r2, m2⟩, h2, hf⟩ := bind_some_iff hf
  obtain ⟨⟨r3, m3⟩, h3, hf⟩ := bind_some_iff hf
  obtain ⟨⟨r4, m4⟩, h4, hf⟩ := bind_some_iff hf
  obtain ⟨⟨r5, m5⟩, h5, hf⟩ := bind_some_iff hf
  obtain ⟨m6, h6, hf⟩ := bind_some_iff hf
  cases hf
  refine ⟨φ, env, m, r1, m1, S, E, h1, fun φ1 H1 v1 g1 S1 R1 => ?_⟩
  refine ⟨φ1, env, m1, r2, m2, S1, E.mono g1, h2, fun φ2 H2 v2 g2 S2 R2 => ?_⟩
  refine ⟨φ2, m2, r1, r2, r3, m3, S2, R1.mono g2, R2, h3, fun φ3 H3 v3 g3 S3 R3 => ?_⟩
  refine ⟨φ3, env, m3, r4, m4, S3, E.mono (g1.trans (g2.trans g3)), h4, fun φ4 H4 v4 g4 S4 R4 => ?_⟩
  refine ⟨φ4, m4, r3, r4, r5, m5, S4, R3.mono g4, R4, h5, fun φ5 H5 v5 g5 S5 R5 => ?_⟩
  have gg := g1.trans (g2.trans (g3.trans (g4.trans g5)))
  exact ⟨φ5, m5, r1, r2, r5, m6, S5, R1.mono (g2.trans (g3.trans (g4.trans g5))), R2.mono (g3.trans (g4.trans g5)), R5, h6, fun φ6 H6 g6 S6 => k φ6 σ H6 (gg.trans g6) S6 (E.mono (gg.trans g6))⟩
theorem oi_add : OpR X (inplaceOp .Add) (r2P ζ X.K pAddI) := o_ii0 iop_add fun _ _ _ => .int _
theorem oi_sub : OpR X (inplaceOp .Sub) (r2P ζ X.K pSub) := o_ii0 iop_sub fun _ _ _ => .int _
def mulSmall (i j : Int) : Bool := decide ((-(2 ^ 64) < i ∧ i < 2 ^ 64) ∨ (-(2 ^ 64) < j ∧ j < 2 ^ 64))
def pMulS := pII mulSmall fun i j => .int (i * j)
theorem oi_mul : OpR X (inplaceOp .Mult) (r2P ζ X.K pMulS) := o_ii iop_mul (fun i j h => (of_decide_eq_true h : (-(2 ^ 64) < i ∧ i < 2 ^ 64) ∨ (-(2 ^ 64) < j ∧ j < 2 ^ 64))) fun _ _ _ => .int _
end

/-! ### enumerate -/
def enumD (ds : List D) : List D := ds.zipIdx.map fun p => .tuple [.int (p.2 : Nat), p.1]
theorem enumD_at {ds : List D} {i : Nat} : (enumD ds)[i]? = (ds[i]?).map fun d => .tuple [.int (i : Nat), d] := by
  unfold enumD
  rw [List.getElem?_map, List.getElem?_zipIdx]
  cases ds[i]? <;> simp
def srcE (k : Nat) : Src := fun i m => match m[k]? with
  | some (.lst ds) => some ((ds[i]?).map fun d => .tuple [.int (i : Nat), d])
  | _ => none
def itEnumL (f : AF) : IF := fun env m => (f env m).bind fun x => match x.1 with
  | [.val (.list ds)] => iL (enumD ds) x.2
  | [.ref k] => match x.2[k]? with
    | some (.lst ds) => some ((srcE k, ds.length), x.2)
    | _ => none
  | _ => none
def itEnumT (f : AF) : IF := fun env m => (f env m).bind fun x => match x.1 with
  | [.val (.tuple ds)] => iL (enumD ds) x.2
  | _ => none
theorem pair_new {K : PySem.W.Frag} {φ : Ad} {H : Hp} {m : M} {T : Addr} {i : Nat} {x : V} {d : D} {o : Obj} (S : SR ζ K φ H m) (hT : H T = none) (ho : o.dict = none) (h : Dp K (off φ H) x d) :
    Gr φ H φ (upd H T (.frz o (.tup [.int (i : Nat), x]))) ∧ SR ζ K φ (upd H T (.frz o (.tup [.int (i : Nat), x]))) m ∧ RR K φ (upd H T (.frz o (.tup [.int (i : Nat), x]))) (.ref T) (.val (.tuple [.int (i : Nat), d])) :=
  ⟨gr_alloc hT, S.alloc hT ho, rr_newT S hT (.cons (.int _) (.cons h .nil))⟩
theorem jok_enum {K : PySem.W.Frag} {φ : Ad} {H : Hp} {a : Addr} {xs : List V} {ds : List D} (h : SqL K (off φ H) a xs) (hd : DpAll K (off φ H) xs ds) : JOk ζ K (ItL K a) φ H (srcL (enumD ds)) where
  stop := fun φ' H' m i g S e => ⟨xs, (off_same.seq (g.same.seq h)), by
    have e' : (enumD ds)[i]? = none := Option.some.inj e
    rw [enumD_at, Option.map_eq_none_iff] at e'
    rw [DpAll.len hd]
    exact List.getElem?_eq_none_iff.mp e'⟩
  go := fun φ' H' m i d g S e => by
    have e' : (enumD ds)[i]? = some d := Option.some.inj e
    rw [enumD_at, Option.map_eq_some_iff] at e'
    obtain ⟨d', e', _⟩ := e'
    obtain ⟨v, h1, h2⟩ := DpAll.get hd e'
    exact ⟨xs, v, off_same.seq (g.same.seq h), h1⟩
  yld := fun φ' H' m i d x H'' g S e y => by
    have e' : (enumD ds)[i]? = some d := Option.some.inj e
    rw [enumD_at, Option.map_eq_some_iff] at e'
    obtain ⟨d', e', rfl⟩ := e'
    obtain ⟨v, h1, h2⟩ := DpAll.get hd e'
    obtain ⟨T, o, z, rfl, hT, ho, rfl, y⟩ := y
    have q := y xs (off_same.seq (g.same.seq h))
    rw [h1] at q
    cases q
    exact pair_new S hT ho (dp_mono g.same h2)
theorem jok_enumR {K : PySem.W.Frag} {φ : Ad} {H : Hp} {k : Nat} {a : Addr} (h : φ.s[k]? = some a) : JOk ζ K (ItL K a) φ H (srcE k) where
  stop := fun φ' H' m i g S e => by
    unfold srcE at e
    split at e
    · rename_i ds hm
      obtain ⟨xs, h1, h2⟩ := S.obj k _ a hm (prefix_get g.pre h)
      have e' := Option.some.inj e
      rw [Option.map_eq_none_iff] at e'
      exact ⟨xs, .inl (.inl h1), by rw [DpAll.len h2]; exact List.getElem?_eq_none_iff.mp e'⟩
    · cases e
  go := fun φ' H' m i d g S e => by
    unfold srcE at e
    split at e
    · rename_i ds hm
      obtain ⟨xs, h1, h2⟩ := S.obj k _ a hm (prefix_get g.pre h)
      have e' := Option.some.inj e
      rw [Option.map_eq_some_iff] at e'
      obtain ⟨d', e', _⟩ := e'
      obtain ⟨v, h3, h4⟩ := DpAll.get h2 e'
      exact ⟨xs, v, .inl (.inl h1), h3⟩
    · cases e
  yld := fun φ' H' m i d x H'' g S e y => by
    unfold srcE at e
    split at e
    · rename_i ds hm
      obtain ⟨xs, h1, h2⟩ := S.obj k _ a hm (prefix_get g.pre h)
      have e' := Option.some.inj e
      rw [Option.map_eq_some_iff] at e'
      obtain ⟨d', e', rfl⟩ := e'
      obtain ⟨v, h3, h4⟩ := DpAll.get h2 e'
      obtain ⟨T, o, z, rfl, hT, ho, rfl, y⟩ := y
      have q := y xs (.inl (.inl h1))
      rw [h3] at q
      cases q
      exact pair_new S hT ho h4
    · cases e
section
variable {X : Cx} {e : Expr} {fa : AF} {p pos tpos : Pos} {elts : List Expr} {kk : Nat}
theorem i_enumL (hg : Gl X "enumerate") (hm : X.mg "enumerate" = none) (ha : PA X [e] (tA ζ X.K fa)) (hs : starEach [e] X.env = [(false, eval e X.env)] := by rfl) : PI X (.Tuple elts kk tpos) (.Call (.Name "enumerate" p) [e] [] pos) (tI ζ X.K (itEnumL fa)) :=
  pi_imp (pi_enumF hg hm ha hs) fun σ H Q q => by
  obtain ⟨φ, env, m, src, n, m', S, E, hf, k⟩ := q
  obtain ⟨⟨rs, m1⟩, h1, hf⟩ := bind_some_iff hf
  refine ⟨φ, env, m, rs, m1, S, E, h1, fun φ1 H1 vs g1 S1 R1 => ?_⟩
  simp only at hf
  split at hf
  · rename_i ds
    cases hf
    cases R1 with
    | cons a1 t1 =>
      cases t1
      have a1' : Dp X.K (off φ1 H1) _ (.list ds) := a1
      cases a1' with
      | lst hs ha => exact ⟨_, _, rfl, off_same.seq hs, k φ1 H1 _ g1 S1 (jok_enum hs ha)⟩
  · rename_i j
    split at hf
    · rename_i ds hmj
      cases hf
      cases R1 with
      | cons a1 t1 =>
        cases t1
        obtain ⟨ad, rfl, e2⟩ := a1
        obtain ⟨xs, h3, h4⟩ := S1.obj j _ ad hmj e2
        exact ⟨ad, xs, rfl, .inl (.inl h3), k φ1 H1 _ g1 S1 (jok_enumR e2)⟩
    · cases hf
  · cases hf
end
section
variable {prog : Program} {w : World} {A : Around} {E : Value → Shared → Prop} {s : Shared}
theorem enum_endT {e it l : Addr} {i : Nat} {items : Array Value} {old : Value} {Q : Option Value → Shared → Prop} (hh : A.handled = none)
    (he : IsEnum s.heap e it i old) (hit : s.heap.IsTupleIter it l i) (hl : s.heap.IsTuple l items) (hx : items[i]? = none)
    (hQ : ∀ h', Heap.ExtBut it s.heap h' → Q none { s with heap := h' }) : wpAny (model prog w) A (pyNext (.ref e)) Q E s := by
  have ty : s.TypeIs (.ref e) "enumerate" := ⟨_, he, rfl⟩
  unfold pyNext
  refine wpAny_bind (wpAny_attempt (wpAny_callSpecial?_slot (name := Str.ofString "__next__") ty
    F.slot_enumerate_next (wpAny_call_entry F.slot_enumerate_next ty F.entry_enumerate_next ?_
      (F.args_enumerate_next_1 _))))
  show wpAny _ _ (field (.ref e) 2 >>= _) _ _ _
  refine wpAny_bind (wpAny_field he rfl (x := .ref it) rfl ?_)
  refine wpAny_bind (PySem.wpAny_nextOf_tuple_end hh hit hl hx fun h' x he' ⟨o, ho, hc⟩ => ?_)
  exact wpAny_bind (wpAny_isInstance (T := "StopIteration") (b := true) ⟨o, ho, hc⟩ isSubtype_stop
    (wpAny_pure (hQ _ he')))
theorem meets_enumT (t : Addr) (items : Array Value) :
    Meets (Builtin.«enumerate.__new__» ⟨[.type "enumerate", .ref t], []⟩) (fun _ R s => s.heap.IsTuple t items ∧
      R (.ok (.ret (.ref (s.heap.push { cls := .type "tuple_iterator", data := .fields #[.ref t, .int 0 0] }).objs.size)))
        { s with heap := (s.heap.push { cls := .type "tuple_iterator", data := .fields #[.ref t, .int 0 0] }).push { cls := .type "enumerate", data := .fields #[.none, .bool false, .ref s.heap.objs.size, rawInt 0, .none, .none] } }) :=
  .of_wp fun prog w A R s h => by
    obtain ⟨hp, g, d, tk, os⟩ := s
    obtain ⟨hT, h⟩ := h
    have hsub := sub_enumerate
    have q1 : ∀ {A' : Around} {E : Value → Shared → Prop} {Q : Value → Shared → Prop}, Q (.ref hp.objs.size) ⟨hp.push { cls := .type "tuple_iterator", data := .fields #[.ref t, .int 0 0] }, g, d, tk, os⟩ → wpAny (model prog w) A' (pyIter (.ref t)) Q E ⟨hp, g, d, tk, os⟩ :=
      fun q => wpAny_pyIter_tuple hT q
    wp_walk using q1
    refine wpAny_stack_any fun st => wpAny_pure ?_
    split
    · rename_i c _ _ _ _ _
      cases (c == Value.type "enumerate")
      · wp_walk using q1
        exact ⟨_, rfl, h⟩
      · wp_walk using q1
        exact ⟨_, rfl, h⟩
    · wp_walk using q1
      exact ⟨_, rfl, h⟩
theorem call_enumT {t : Addr} {items : Array Value} {Q : Value → Shared → Prop} (hT : s.heap.IsTuple t items)
    (h : ∀ h', IsEnum h' (s.heap.objs.size + 1) s.heap.objs.size 0 .none → h'.IsTupleIter s.heap.objs.size t 0 → (∀ b o, s.heap.get? b = some o → h'.get? b = some o) → Q (.ref (s.heap.objs.size + 1)) { s with heap := h' }) :
    wpAny (model prog w) A (call (.type "enumerate") [.ref t]) Q E s := by
  refine callType_new F.called_enumerate (by decide) (F.typeCall_enumerate_1 _) (F.newCall_enumerate_1 _)
    (fun obj => F.args_object_init_2 obj _) F.entry_enumerate_new (meets_enumT t items) ⟨hT, ?_⟩
  have hz : (s.heap.push { cls := .type "tuple_iterator", data := .fields #[.ref t, .int 0 0] }).objs.size = s.heap.objs.size + 1 := Heap.size_push ..
  show _ ∧ _
  rw [hz]
  have he : IsEnum ((s.heap.push { cls := .type "tuple_iterator", data := .fields #[.ref t, .int 0 0] }).push { cls := .type "enumerate", data := .fields #[.none, .bool false, .ref s.heap.objs.size, rawInt 0, .none, .none] }) (s.heap.objs.size + 1) s.heap.objs.size 0 .none := by
    have q := Heap.get?_push_size (s.heap.push { cls := .type "tuple_iterator", data := .fields #[.ref t, .int 0 0] }) (o := { cls := .type "enumerate", data := .fields #[.none, .bool false, .ref s.heap.objs.size, rawInt 0, .none, .none] }) rfl
    rw [hz] at q
    exact q
  exact ⟨⟨_, he, rfl⟩, h _ he ⟨_, Heap.get?_push_of_some _ (Heap.get?_push_size _ rfl), rfl, rfl⟩ fun b o x => Heap.get?_push_of_some _ (Heap.get?_push_of_some _ x)⟩
end
/-- the tuple at a, each item in a new pair -/
def ItE (K : PySem.W.Frag) (a : Addr) : It :=
  ⟨fun i H => ∃ (xs : List V) (x : V), SqT K H a xs ∧ xs[i]? = some x, fun i H v H' => ∃ T o x, v = .ref T ∧ H T = none ∧ o.dict = none ∧ H' = upd H T (.frz o (.tup [.int (i : Nat), x])) ∧ ∀ xs, SqT K H a xs → xs[i]? = some x, fun i H => ∃ xs : List V, SqT K H a xs ∧ xs.length ≤ i⟩
theorem turn_enumT {P : Program} {w : World} {K : PySem.W.Frag} {elts : List Expr} {kk : Nat} {tpos : Pos} (a e it : Addr) :
    Turn P w K (.Tuple elts kk tpos) (ItE K a) [e, it] e (fun i h => (∃ old, IsEnum h e it ((i : Nat) : Int) old) ∧ h.IsTupleIter it a i ∧ e ≠ it) where
  mem := List.mem_cons_self
  obj := by
    rintro i h ⟨⟨old, he⟩, ⟨o, ho, hc, hd⟩, _⟩ b hb
    rcases List.mem_cons.mp hb with rfl | hb
    · exact ⟨_, he, fun v q => nomatch q⟩
    · obtain rfl := List.mem_singleton.mp hb
      exact ⟨o, ho, fun v q => by rw [hd] at q; cases q⟩
  keep := by
    rintro i h h' ⟨⟨old, he⟩, ⟨o, ho, r⟩, hne⟩ k
    exact ⟨⟨old, k e List.mem_cons_self _ he⟩, ⟨o, k it (by simp) o ho, r⟩, hne⟩
  item := by
    rintro X rfl rfl rfl hc i pins s σ H E I hf ⟨⟨old, he⟩, hit, hne⟩ ⟨xs, x, hq, hx⟩
    obtain ⟨its, rv, p, hz⟩ := I.tuple hq
    obtain ⟨u, hu, ru⟩ := rv.get hx
    have hel : e < s.heap.objs.size := Heap.lt_size he
    have hil : it < s.heap.objs.size := by
      obtain ⟨_, q, _⟩ := hit
      exact Heap.lt_size q
    have nea : e ≠ a := fun z => by
      obtain ⟨o, ho, hcl, _⟩ := p
      have he' : s.heap.get? e = _ := he
      rw [z, ho] at he'
      cases he'
      exact absurd (show Value.type "enumerate" = Value.type "tuple" from hcl) (by decide)
    have nia : a ≠ it := fun z => by
      obtain ⟨o, ho, hcl, _⟩ := p
      obtain ⟨o2, ho2, hc2, _⟩ := hit
      rw [← z, ho] at ho2
      cases ho2
      rw [hcl] at hc2
      exact absurd hc2 (by decide)
    have hul : i < its.toArray.size := by
      have := (List.getElem?_eq_some_iff.mp hu).1
      simpa using this
    refine PySem.wpAny_pyNext_enum_itemC (PySem.Draws.tuple (A := X.A.in1) (I.ok.hd hc) it a nia its.toArray) he ⟨hit, p⟩ hul hne (by simp [hne, nea]) fun z h' tk hP ho hit' hT hsz hk => ?_
    have ez : z = u := by
      have hP' : its.toArray[i]? = some z := hP
      have hP2 : its[i]? = some z := by simpa using hP'
      rw [hu] at hP2
      exact (Option.some.inj hP2).symm
    subst ez
    refine ⟨_, rfl, wpAny_letOwnedTupleGo_enum (s := { s with heap := h', toks := tk + 1 }) ho fun h'' he' sb => ?_⟩
    have hT2 : h''.get? s.heap.objs.size = some { cls := .type "tuple", data := .seq #[.int i tk, z] } := (sb.2 _ (Nat.ne_of_gt hel)).trans hT
    have new : ObjOk X.prog X.w (upd H s.heap.objs.size (.frz { cls := .type "tuple", data := .seq #[.int i tk, z] } (.tup [.int (i : Nat), x]))) h'' s.heap.objs.size (.frz { cls := .type "tuple", data := .seq #[.int i tk, z] } (.tup [.int (i : Nat), x])) :=
      ⟨hT2, by show 2 ≤ sizeLine; decide, [.int i tk, z], .cons ⟨_, rfl⟩ (.cons ru .nil), ⟨_, hT2, rfl, _, rfl⟩⟩
    have I1 : Inv X pins σ (upd H s.heap.objs.size (.frz { cls := .type "tuple", data := .seq #[.int i tk, z] } (.tup [.int (i : Nat), x]))) { s with heap := h'', toks := tk + 1 } :=
      I.turnedNew (ch := [e, it]) (fun b ob hb q => (sb.2 b fun z => hb (by simp [z])).trans (hk b ob (fun z => hb (by simp [z])) (fun z => hb (by simp [z])) q)) hf (Nat.le_refl _) new
    refine ⟨.ref s.heap.objs.size, _, I1, rfl, ⟨_, _, x, rfl, I.hok.fresh (Nat.le_refl _), rfl, rfl, fun ys hy => by rw [I.tuple_inj hy hq]; exact hx⟩, ⟨⟨z, ?_⟩, ?_, hne⟩, fun b hb => ?_⟩
    · have e1 : ((i + 1 : Nat) : Int) = (i : Int) + 1 := by omega
      rw [e1]
      exact he'
    · obtain ⟨⟨o2, ho2, r2⟩, _⟩ := hit'
      exact ⟨o2, (sb.2 it (Ne.symm hne)).trans ho2, r2⟩
    · have hb' : b < s.heap.objs.size := by
        rcases List.mem_cons.mp hb with rfl | hb
        · exact hel
        · obtain rfl := List.mem_singleton.mp hb
          exact hil
      rw [upd_ne (Nat.ne_of_lt hb')]
      exact (hf b hb).1
  done := by
    rintro X rfl rfl rfl hc i pins s σ H E I hf ⟨⟨old, he⟩, hit, hne⟩ ⟨xs, hq, hx⟩
    obtain ⟨its, rv, p, hz⟩ := I.tuple hq
    obtain ⟨f0, f1, f2, f3, f4, f5⟩ := hf it (by simp)
    have hl := rv.length
    have nia : a ≠ it := fun z => by
      obtain ⟨o, ho, hcl, _⟩ := p
      obtain ⟨o2, ho2, hc2, _⟩ := hit
      rw [← z, ho] at ho2
      cases ho2
      rw [hcl] at hc2
      exact absurd hc2 (by decide)
    refine enum_endT (I.ok.hd hc) he hit p (by rw [Array.getElem?_eq_none_iff, List.size_toArray]; omega) fun h' eb => ⟨rfl, I.turned (t' := s.toks) (fun b o hb q => eb b o hb q) f0 f1 f3 f4 f5⟩
  self := fun A i s Q E st h => by
    obtain ⟨⟨_, he⟩, _⟩ := st
    exact wpAny_pyIter_enum he h
def iEnumT (K : PySem.W.Frag) (ta : TA) : TI := fun σ H R => ta σ H fun vs H1 => ∃ a xs, vs = [.ref a] ∧ SqT K H1 a xs ∧ R (ItE K a) H1
theorem pi_enumT {X : Cx} {e : Expr} {ta : TA} {p pos tpos : Pos} {elts : List Expr} {kk : Nat} (hg : Gl X "enumerate") (hm : X.mg "enumerate" = none) (ha : PA X [e] ta) (hs : starEach [e] X.env = [(false, eval e X.env)] := by rfl) :
    PI X (.Tuple elts kk tpos) (.Call (.Name "enumerate" p) [e] [] pos) (iEnumT X.K ta) := by
  refine ⟨fun pins s σ H R I h => ?_⟩
  refine Call_ (ld_blt I hg hm boot_enumerate (PyProof.Rows.callWith_type1 (thn (ha.run pos pins s σ H _ I h)
    fun us s1 ⟨vs, H1, I1, r1, q1⟩ => ?_) hs rfl))
  obtain ⟨a, xs, rfl, hq, q⟩ := q1
  obtain ⟨u, rfl, r⟩ := one_val r1
  cases r
  obtain ⟨its, rv, pt, hz⟩ := I1.tuple hq
  refine call_enumT pt fun h' he hit hk => wpAny_pyIter_enum he ?_
  have I2 : Inv X pins σ H1 { s1 with heap := h' } := I1.kept (t' := s1.toks) hk
  refine ⟨s1.heap.objs.size + 1, [s1.heap.objs.size + 1, s1.heap.objs.size], _, _, H1, rfl, I2, turn_enumT a (s1.heap.objs.size + 1) s1.heap.objs.size, ⟨⟨.none, he⟩, hit, Nat.succ_ne_self _⟩, fun b hb => ?_, q⟩
  have hle : s1.heap.objs.size ≤ b := by
    rcases List.mem_cons.mp hb with rfl | hb
    · exact Nat.le_add_right _ _
    · rw [List.mem_singleton.mp hb]
      exact Nat.le_refl _
  exact I1.fpOk hle (I1.hok.fresh hle)
theorem jok_enumT {K : PySem.W.Frag} {φ : Ad} {H : Hp} {a : Addr} {xs : List V} {ds : List D} (h : SqT K (off φ H) a xs) (hd : DpAll K (off φ H) xs ds) : JOk ζ K (ItE K a) φ H (srcL (enumD ds)) where
  stop := fun φ' H' m i g S e => ⟨xs, (sqT_mono off_same (sqT_mono g.same h)), by
    have e' : (enumD ds)[i]? = none := Option.some.inj e
    rw [enumD_at, Option.map_eq_none_iff] at e'
    rw [DpAll.len hd]
    exact List.getElem?_eq_none_iff.mp e'⟩
  go := fun φ' H' m i d g S e => by
    have e' : (enumD ds)[i]? = some d := Option.some.inj e
    rw [enumD_at, Option.map_eq_some_iff] at e'
    obtain ⟨d', e', _⟩ := e'
    obtain ⟨v, h1, h2⟩ := DpAll.get hd e'
    exact ⟨xs, v, sqT_mono off_same (sqT_mono g.same h), h1⟩
  yld := fun φ' H' m i d x H'' g S e y => by
    have e' : (enumD ds)[i]? = some d := Option.some.inj e
    rw [enumD_at, Option.map_eq_some_iff] at e'
    obtain ⟨d', e', rfl⟩ := e'
    obtain ⟨v, h1, h2⟩ := DpAll.get hd e'
    obtain ⟨T, o, z, rfl, hT, ho, rfl, y⟩ := y
    have q := y xs (sqT_mono off_same (sqT_mono g.same h))
    rw [h1] at q
    cases q
    exact pair_new S hT ho (dp_mono g.same h2)
section
variable {X : Cx} {e : Expr} {fa : AF} {p pos tpos : Pos} {elts : List Expr} {kk : Nat}
theorem i_enumT (hg : Gl X "enumerate") (hm : X.mg "enumerate" = none) (ha : PA X [e] (tA ζ X.K fa)) (hs : starEach [e] X.env = [(false, eval e X.env)] := by rfl) : PI X (.Tuple elts kk tpos) (.Call (.Name "enumerate" p) [e] [] pos) (tI ζ X.K (itEnumT fa)) :=
  pi_imp (pi_enumT hg hm ha hs) fun σ H Q q => by
  obtain ⟨φ, env, m, src, n, m', S, E, hf, k⟩ := q
  obtain ⟨⟨rs, m1⟩, h1, hf⟩ := bind_some_iff hf
  refine ⟨φ, env, m, rs, m1, S, E, h1, fun φ1 H1 vs g1 S1 R1 => ?_⟩
  simp only at hf
  split at hf
  · rename_i ds
    cases hf
    cases R1 with
    | cons a1 t1 =>
      cases t1
      have a1' : Dp X.K (off φ1 H1) _ (.tuple ds) := a1
      cases a1' with
      | tup hs ha => exact ⟨_, _, rfl, sqT_mono off_same hs, k φ1 H1 _ g1 S1 (jok_enumT hs ha)⟩
  · cases hf
end
end Ev

set_option Elab.async false
set_option linter.all false
set_option maxRecDepth 100000
/-! list(x), and the end of a law's row. -/
namespace Ev
open PySem PySem.Spec PyProof.Rows L2

/-- T(x) that makes a new list -/
def nList (f : AF) : NF := fun env m => (f env m).bind fun x => match x.1 with
  | [r] => (asLT r x.2).bind fun ds => some (ds, x.2)
  | _ => none
section
variable {X : Cx} {e : Expr} {es : List Expr} {fa : AF} {pos p0 : Pos}
theorem n_list (hg : Gl X "list") (hm : X.mg "list" = none) (ha : PA X (e :: es) (tA ζ X.K fa))
    (he : starEach (e :: es) X.env = (false, eval e X.env) :: starEach es X.env := by rfl) (hpl : (backTo pos (starEach es X.env)).any (·.1) = false := by rfl) : PE X (.Call (.Name "list" p0) (e :: es) [] pos) (tN ζ X.K (nList fa)) :=
  pe_imp (pe_callTy (T := "list") call_list_of hg hm (by decide +kernel) ha (he := he) (hpl := hpl)) fun σ H Q q => by
  obtain ⟨φ, env, m, ds, m', S, E, hf, k⟩ := q
  obtain ⟨⟨rs, m1⟩, h1, hf⟩ := bind_some_iff hf
  refine ⟨φ, env, m, rs, m1, S, E, h1, fun φ1 H1 vs g1 S1 R1 => ?_⟩
  simp only at hf
  split at hf
  · obtain ⟨es, h2, hf⟩ := bind_some_iff hf
    cases hf
    cases R1 with
    | cons a1 t1 =>
      cases t1
      obtain ⟨p, xs, rfl, hs, hd⟩ := seqLT_of S1 a1 h2
      exact ⟨p, xs, rfl, hs, fun l hl => k φ1 H1 l xs g1 S1 hl hd⟩
  · cases hf
end

/-! ### the law's end -/
/-- the law's function at a script -/
def spLaw (K : PySem.W.Frag) (F : Fn) : Sp := fun vs H Q _ => ∃ (a : Addr) (ns : List Int), vs = [.ref a] ∧ SqL K H a (ns.map V.int) ∧ ns.length ≤ 63 ∧ ∃ m, F [.val (.list (ns.map .int))] [] = some (.val (.bool true), m) ∧ ∀ H', Q (.bl true) H'
theorem FnG.imp {P : Program} {w : World} {K : PySem.W.Frag} {mg : Str → Option Value} {base : Heap} {k : Nat} {f : Addr} {fd : FuncData} {ps : List Str} {sp sp' : Sp} (F : FnG P w K mg base k f fd ps sp) (h : ∀ vs H Q E, sp' vs H Q E → sp vs H Q E) : FnG P w K mg base k f fd ps sp' :=
  ⟨fun vs H Q E q => F.len vs H Q E (h _ _ _ _ q), fun A outer s H args us vs Q E hg hr e0 hb hv q => F.go A outer s H args us vs Q E hg hr e0 hb hv (h _ _ _ _ q)⟩
/-- the tables of code objects, all still empty -/
structure TabsAt (K : PySem.W.Frag) (h : Heap) (cs : List (Addr × Addr × Str)) : Prop where
  at_ : ∀ p ∈ cs, h.get? p.2.1 = some { cls := .none, data := .fields #[] }
  out : ∀ p ∈ cs, K.lookup p.2.1 = none
  code : ∀ p ∈ cs, PySem.W.CodeHd h p.1 p.2.1
  nd : (cs.map fun p => p.2.1).Nodup
def tabT (cs : List (Addr × Addr × Str)) : List (Addr × Str) := cs.map fun p => (p.2.1, p.2.2)
theorem law_sp {K : PySem.W.Frag} {F : Fn} {vs : List V} {H : Hp} {Q : VK} {E : XK} (cs : List (Addr × Addr × Str)) (nd : (cs.map fun p => p.2.1).Nodup) (hT : ∀ p ∈ cs, H p.2.1 = some (.tbl #[])) (ha : ∀ a, vs = [.ref a] → a ∉ cs.map fun p => p.2.1) (hpl : ∀ b u, H b = some u → plO u) (kt : KT K) (h : spLaw K F vs H Q E) : spF (tabT cs) K 1 F vs H Q E := by
  obtain ⟨a, ns, rfl, hs, _, m, hF, q⟩ := h
  have na : a ∉ (⟨[], cs.map fun p => p.2.1, tabT cs⟩ : Ad).all := fun z => ha a rfl (by simpa [Ad.all] using z)
  refine ⟨rfl, ⟨[], cs.map fun p => p.2.1, tabT cs⟩, [], [.val (.list (ns.map .int))], .val (.bool true), m, ⟨rfl, by simpa [Ad.all] using nd, fun i o b e => by simp at e, fun b hb => ?_, rfl, fun p hp => ?_, fun p hp => ?_, hpl, kt⟩, .cons ?_ .nil, hF, fun φ' H' v g S R => ?_⟩
  · obtain ⟨p, hp, e⟩ := List.mem_map.mp hb
    exact .inr ⟨p.2.2, List.mem_map.mpr ⟨p, hp, by rw [← e]⟩⟩
  · obtain ⟨c, hc, e⟩ := List.mem_map.mp hp
    rw [← e]
    exact List.mem_map.mpr ⟨c, hc, rfl⟩
  · obtain ⟨c, hc, e⟩ := List.mem_map.mp hp
    rw [← e]
    exact LamX.TabS.nil (hT c hc)
  · refine Dp.lst (xs := ns.map V.int) ?_ (dpAll_ints ns)
    rcases hs with hs | hs
    · left
      rcases hs with hs | ⟨o, hs⟩
      · exact .inl (off_some.mpr ⟨na, hs, rfl⟩)
      · exact .inr ⟨o, off_some.mpr ⟨na, hs, rfl⟩⟩
    · exact .inr hs
  · have e := rr_bool R
    subst e
    exact q H'
/-- a promise kept at the caller's own stand -/
theorem law_run {P : Program} {w : World} {K : PySem.W.Frag} {mg mb : Str → Option Value} {k : Nat} {fa a : Addr} {fd : FuncData} {x : Str} {F : Fn} {cs : List (Addr × Addr × Str)} {s₁ : Shared} {vs : List Value} {ns : List Int}
    (KX : K.In s₁.heap) (kt : KT K) (hns : s₁.heap.Ns mainGlobals mg) (hb : s₁.heap.Ns builtinsNs mb) (hbb : ∀ x : Str, x ≠ "__name__" → mb x = bootBuiltins x) (hlim : s₁.heap.NoLimit) (hg : s₁.gens = #[]) (TA : TabsAt K s₁.heap cs)
    (hbm : cs = [] ∨ ∃ (bm : Addr) (ob : Obj), mg "__builtins__" = some (.ref bm) ∧ bm ≠ builtinsNs ∧ s₁.heap.get? bm = some ob ∧ ob.cls = .type "module" ∧ ob.dict = some builtinsNs ∧ ob.data = .plain)
    (ha : s₁.heap.get? a = some { cls := .type "list", data := .seq vs.toArray }) (hi : IntsAre vs ns) (hl : ns.length ≤ sizeLine) (hr : Room k callerA)
    (FF : ∀ base : Heap, K.In base → base.Ns mainGlobals mg → (∀ p ∈ cs, LamX.TabB base mg p.1 p.2.1) → FnG P w K mg base k fa fd [x] (spF (tabT cs) K 1 F)) (hbind : ∀ (s : Shared) (u : Value), BindsTo s fd ⟨[u], []⟩ [(x, u)])
    (hsp : ∀ H : Hp, SqL K H a (ns.map V.int) → spLaw K F [.ref a] H (fun v _ => v = .bl true) fun _ _ _ => False) :
    codeAny (model P w) callerA (.call (.ref fa) ⟨[.ref a], []⟩) (fun r s' => r = .ok (.ret (.bool true)) ∧ OldK s₁.heap s'.heap ∧ s'.os = s₁.os ∧ AllBare s'.gens) s₁ := by
  have rv := vals_ints hi
  have lv := hi.length
  have isT : ∀ {b : Addr}, b ∈ cs.map (fun p => p.2.1) → s₁.heap.get? b = some { cls := .none, data := .fields #[] } := fun {b} z => by
    obtain ⟨p, hp, e⟩ := List.mem_map.mp z
    rw [← e]
    exact TA.at_ p hp
  have naT : a ∉ cs.map fun p => p.2.1 := fun z => by
    have q := isT z
    rw [ha] at q
    cases q
  -- what is tracked: the script (locked) at most, and the tables
  have main : ∀ H : Hp, (∀ b u, H b = some u → (b = a ∧ u = .frz { cls := .type "list", data := .seq vs.toArray } (.lst (ns.map V.int)) ∧ K.lookup a = none) ∨ (b ∈ (cs.map fun p => p.2.1) ∧ u = .tbl #[])) → (∀ p ∈ cs, H p.2.1 = some (.tbl #[])) → SqL K H a (ns.map V.int) →
      codeAny (model P w) callerA (.call (.ref fa) ⟨[.ref a], []⟩) (fun r s' => r = .ok (.ret (.bool true)) ∧ OldK s₁.heap s'.heap ∧ s'.os = s₁.os ∧ AllBare s'.gens) s₁ := by
    intro H hA hTT hS
    have hok : HOk P w H s₁.heap := fun b u q => by
      rcases hA b u q with ⟨rfl, rfl, _⟩ | ⟨z, rfl⟩
      · exact ⟨ha, by rw [List.length_map]; exact hl, vs, _, rv, ha⟩
      · exact isT z
    -- other objects stand in what lies below
    have below : ∀ {b : Addr} {o : Obj}, s₁.heap.get? b = some o → (∀ xs n, o.data ≠ .seq xs n) → o.data ≠ .fields #[] → (hidT s₁.heap H).get? b = some o := fun {b o} e d1 d2 => hidT_get e (by
      cases q : H b with
      | none => rfl
      | some u =>
        rcases hA b u q with ⟨rfl, _, _⟩ | ⟨z, _⟩
        · rw [ha] at e
          cases e
          exact absurd rfl (d1 _ _)
        · rw [isT z] at e
          cases e
          exact absurd rfl d2)
    have nsB : ∀ {b : Addr} {m : Str → Option Value}, s₁.heap.Ns b m → (hidT s₁.heap H).Ns b m := fun {b m} ⟨o, es, ep, e, d, r⟩ => ⟨o, es, ep, below e (fun _ _ z => by rw [d] at z; cases z) (fun z => by rw [d] at z; cases z), d, r⟩
    have KB : K.In (hidT s₁.heap H) := fun b o e => hidT_get (KX b o e) (by
      cases q : H b with
      | none => rfl
      | some u =>
        rcases hA b u q with ⟨rfl, _, n⟩ | ⟨z, _⟩
        · rw [n] at e
          cases e
        · obtain ⟨p, hp, ep⟩ := List.mem_map.mp z
          rw [← ep, TA.out p hp] at e
          cases e)
    have TB : ∀ p ∈ cs, LamX.TabB (hidT s₁.heap H) mg p.1 p.2.1 := fun p hp => by
      have ht := TA.at_ p hp
      constructor
      · have cd := TA.code p hp
        unfold PySem.W.CodeHd at cd ⊢
        obtain ⟨o, us, file, tf, flags, tg, inF, text, tt, e1, r1, r2, r3, more⟩ := cd
        refine ⟨o, us, file, tf, flags, tg, inF, text, tt, below e1 (fun xs n z => ?_) (fun z => ?_), r1, r2, r3, more⟩ <;> (rw [r2] at z; cases z)
        simp at r3
      · rcases hbm with z | ⟨bm, ob, b1, b2, b3, b4, b5, b6⟩
        · rw [z] at hp
          cases hp
        · have q := below b3 (fun xs n z => by rw [b6] at z; cases z) (fun z => by rw [b6] at z; cases z)
          refine ⟨bm, ob, b1, b2, fun z => ?_, fun z => ?_, q, b4, b5, b6⟩
          · obtain ⟨o, es, ep, e, hd, _⟩ := hns
            rw [z, e] at b3
            cases b3
            rw [hd] at b6
            cases b6
          · rw [z, ht] at b3
            cases b3
            cases b6
      · intro z
        obtain ⟨o, es, ep, e, hd, _⟩ := hns
        rw [z, ht] at e
        cases e
        cases hd
    have hM : Mod K mg (hidT s₁.heap H) := by
      obtain ⟨mc, c1, c2⟩ := hlim
      exact ⟨KB, nsB hns, ⟨mb, nsB hb, hbb⟩, ⟨mc, nsB c1, c2⟩⟩
    have e0 : Env0 P w K mg (hidT s₁.heap H) callerA [] s₁ H := ⟨rfl, hM, fun b o e => of_hidT e, Nat.le_of_eq (hidT_size _ _), trivial, fun b z => absurd z (by simp [frs]), hok, .of_eq hg⟩
    have sp0 := law_sp cs TA.nd hTT (fun b e => by cases e; exact naT) (fun b u q => by rcases hA b u q with ⟨_, rfl, _⟩ | ⟨_, rfl⟩ <;> exact trivial) kt (hsp H hS)
    refine codeAny_mono ((FF _ KB (nsB hns) TB).go callerA [] s₁ H ⟨[.ref a], []⟩ [.ref a] [.ref a] _ _ rfl hr e0 (hbind s₁ (.ref a)) (.cons rfl .nil) sp0) fun r s' h => ?_
    cases r with
    | error e => exact (show False from h).elim
    | ok fl =>
      cases fl with
      | next => exact (show False from h).elim
      | brk => exact (show False from h).elim
      | cont => exact (show False from h).elim
      | ret u =>
        obtain ⟨v, H', os, bare, un, hok', r', q⟩ := h
        have q' : v = .bl true := q
        subst q'
        obtain rfl : u = Value.bool true := r'
        have same : ∀ b o, b ∉ (cs.map fun p => p.2.1) → s₁.heap.get? b = some o → s'.heap.get? b = some o := fun b o nb e => by
          cases q : H b with
          | none => exact un.keep b o e q (by simp [frs]) (by simp)
          | some u =>
            rcases hA b u q with ⟨rfl, rfl, _⟩ | ⟨z, _⟩
            · have z := un.frzs b _ _ q
              obtain ⟨e2, _⟩ := hok' b _ z
              rw [ha] at e
              cases e
              exact e2
            · exact absurd z nb
        have more : ∀ p ∈ cs, ∃ ps : Array Value, s'.heap.get? p.2.1 = some { cls := .none, data := .fields ps } := fun p hp => by
          obtain ⟨ps, z⟩ := un.tbls p.2.1 #[] (hTT p hp)
          exact ⟨_, hok' p.2.1 _ z⟩
        refine ⟨rfl, ⟨fun b o e => ?_, fun b o e => ?_⟩, os, bare⟩
        · by_cases nb : b ∈ cs.map fun p => p.2.1
          · obtain ⟨p, hp, rfl⟩ := List.mem_map.mp nb
            obtain ⟨ps, z⟩ := more p hp
            have e' := isT nb
            rw [e] at e'
            cases e'
            refine .inr (.inl ⟨((TA.code p hp).tab (TA.at_ p hp)).isCodeTable, rfl, #[], ps, rfl, ?_⟩)
            rw [Array.empty_append]
            exact z
          · exact .inl (same b o nb e)
        · by_cases nb : b ∈ cs.map fun p => p.2.1
          · obtain ⟨p, hp, rfl⟩ := List.mem_map.mp nb
            obtain ⟨ps, z⟩ := more p hp
            exact ⟨_, z⟩
          · exact ⟨o, same b o nb e⟩
  cases hk : K.lookup a with
  | some o =>
    have e := KX a o hk
    rw [ha] at e
    cases e
    refine main (fun b => if b ∈ (cs.map fun p => p.2.1) then some (.tbl #[]) else none) (fun b u z => ?_) (fun p hp => if_pos (List.mem_map.mpr ⟨p, hp, rfl⟩)) (.inr ⟨_, vs.toArray, _, hk, rfl, rfl, rfl, by rw [List.size_toArray, lv]; exact hl, by simpa using rv⟩)
    split at z
    · cases z
      exact .inr ⟨by assumption, rfl⟩
    · cases z
  | none =>
    refine main (fun b => if b = a then some (.frz { cls := .type "list", data := .seq vs.toArray } (.lst (ns.map V.int))) else if b ∈ (cs.map fun p => p.2.1) then some (.tbl #[]) else none) (fun b u z => ?_) (fun p hp => ?_) (.inl (.inr ⟨_, if_pos rfl⟩))
    · split at z
      · cases z
        exact .inl ⟨by assumption, rfl, hk⟩
      · split at z
        · cases z
          exact .inr ⟨by assumption, rfl⟩
        · cases z
    · have hm : p.2.1 ∈ cs.map fun p => p.2.1 := List.mem_map.mpr ⟨p, hp, rfl⟩
      show (if p.2.1 = a then _ else _) = _
      rw [if_neg (fun z => naT (by rw [← z]; exact hm)), if_pos hm]
/-- the goal that k_head leaves -/
theorem law_end {l : PySem.W.OpenLaw} {k : Nat} {q : Program} {loose : List Str} {XP : (Str → Option Value) → Heap → Prop} {YP : World → Heap → Prop} {d : DefRec} {F : Fn} {x : Str}
    (hn : l.most = some 63) (hdf : d.params.defaults = []) (hr : Room k callerA)
    (hF : ∀ (w : World) (mg : Str → Option Value) (fa : Addr) (h : Heap), YP w h → h.Ns mainGlobals mg → mg d.name = some (.ref fa) →
      ∃ (K : PySem.W.Frag) (fd : FuncData) (cs : List (Addr × Addr × Str)), K.In h ∧ KT K ∧ TabsAt K h cs ∧ (∀ (s : Shared) (u : Value), BindsTo s fd ⟨[u], []⟩ [(x, u)]) ∧ ∀ base : Heap, K.In base → base.Ns mainGlobals mg → (∀ p ∈ cs, LamX.TabB base mg p.1 p.2.1) → FnG l.prog w K mg base k fa fd [x] (spF (tabT cs) K 1 F))
    (law : ∀ ns : List Int, ns.length ≤ 63 → ∃ m, F [.val (.list (ns.map .int))] [] = some (.val (.bool true), m)) :
    PySem.W.WalkO q loose XP YP l.row.toRowW d [] (fun f vs => PySem.call f vs) := by
  refine Att.attach_callB hn hdf fun w s₀ s₁ mg mb fa o pm cd doc a vs ns G Y ho hd hcd hmg hobj hints hlen hbits hg => ?_
  obtain ⟨K, fd, cs, KX, kt, TA, hb, FF⟩ := hF w mg fa _ Y G.T.g hmg
  obtain ⟨bm, ob, b⟩ := G.T.bmain
  exact law_run KX kt G.T.g G.T.b G.T.builtins G.T.nolimit hg TA (.inr ⟨bm, ob, b⟩) hobj hints (Nat.le_trans hlen (by decide)) hr FF hb fun H hS => ⟨a, ns, rfl, hS, hlen, (law ns hlen).choose, (law ns hlen).choose_spec, fun _ => rfl⟩
end Ev

set_option Elab.async false
set_option linter.all false
set_option maxRecDepth 100000
/-! Rules that serve several kinds at once; what the generator writes. -/
namespace Ev
open PySem PySem.Spec PyProof.Rows L2

/-! ### walks over lists or tuples -/
def itAny (f : EF) : IF := fun env m => (f env m).bind fun x => match x.1 with
  | .val (.tuple ds) => iL ds x.2
  | .val (.list ds) => iL ds x.2
  | .ref k => match x.2[k]? with
    | some (.lst ds) => some ((srcR k, ds.length), x.2)
    | _ => none
  | _ => none
def itEnum (f : AF) : IF := fun env m => (f env m).bind fun x => match x.1 with
  | [.val (.tuple ds)] => iL (enumD ds) x.2
  | [.val (.list ds)] => iL (enumD ds) x.2
  | [.ref k] => match x.2[k]? with
    | some (.lst ds) => some ((srcE k, ds.length), x.2)
    | _ => none
  | _ => none
section
variable {X : Cx} {tg e : Expr} {f : EF} {fa : AF} {p pos tpos : Pos} {elts : List Expr} {kk : Nat}
/-- the list's or the tuple's own iterator -/
theorem iter_lt {pins : List (Addr × Obj)} {σ : L2.St} {s : Shared} {H : Hp} {R : It → Hp → Prop} {a : Addr} {xs : List V} (I : Inv X pins σ H s) (h : (SqL X.K H a xs ∧ R (Itl X.K a) H) ∨ (SqT X.K H a xs ∧ R (Itt X.K a) H)) :
    wpAny (model X.prog X.w) X.A (pyIter (.ref a)) (PIE X pins σ tg R) X.xe s := by
  have fp : ∀ b ∈ [s.heap.objs.size], FpOk X pins H b := fun b hb => by
    rw [List.mem_singleton.mp hb]
    exact I.fpOk (Nat.le_refl _) (I.hok.fresh (Nat.le_refl _))
  rcases h with ⟨hq, q⟩ | ⟨hq, q⟩
  · obtain ⟨its, rv, pl, hz⟩ := I.list hq
    exact wpAny_pyIter_list pl.isList ⟨s.heap.objs.size, [s.heap.objs.size], _, _, H, rfl, I.kept (t' := s.toks) fun b o e => Heap.get?_push_of_some _ e, turn_list a _, ⟨_, Heap.get?_push_size _ rfl, rfl, rfl⟩, fp, q⟩
  · obtain ⟨its, rv, pl, hz⟩ := I.tuple hq
    exact iter_tuple pl ⟨s.heap.objs.size, [s.heap.objs.size], _, _, H, rfl, I.kept (t' := s.toks) fun b o e => Heap.get?_push_of_some _ e, turn_tuple a _, ⟨_, Heap.get?_push_size _ rfl, rfl, rfl⟩, fp, q⟩
theorem i_any (he : PE X e (tE ζ X.K f)) : PI X tg e (tI ζ X.K (itAny f)) := ⟨fun pins s σ H R I q => by
  obtain ⟨φ, env, m, src, n, m', S, E, hf, k⟩ := q
  obtain ⟨⟨r, m1⟩, h1, hf⟩ := bind_some_iff hf
  refine thn (he.run pins s σ H (fun v H1 => ∃ a xs, v = .ref a ∧ ((SqL X.K H1 a xs ∧ R (Itl X.K a) H1) ∨ (SqT X.K H1 a xs ∧ R (Itt X.K a) H1))) I ⟨φ, env, m, r, m1, S, E, h1, fun φ1 H1 v g1 S1 R1 => ?_⟩) fun u s1 ⟨v, H1, I1, rv, a, xs, e, q⟩ => ?_
  · cases r with
    | tp j => first | (cases hf; done) | (cases e; done) | (cases h1; done) | (cases h; done) | (cases h7; done) | (cases h2; done)
    | val d =>
      cases d with
      | list ds =>
        cases hf
        have R1' : Dp X.K (off φ1 H1) v (.list ds) := R1
        cases R1' with
        | lst hs ha => exact ⟨_, _, rfl, .inl ⟨off_same.seq hs, k φ1 H1 _ g1 S1 (jok_list hs ha)⟩⟩
      | tuple ds =>
        cases hf
        have R1' : Dp X.K (off φ1 H1) v (.tuple ds) := R1
        cases R1' with
        | tup hs ha => exact ⟨_, _, rfl, .inr ⟨sqT_mono off_same hs, k φ1 H1 _ g1 S1 (jok_tup hs ha)⟩⟩
      | _ => cases hf
    | ref j =>
      simp only at hf
      split at hf
      · rename_i ds hm
        cases hf
        obtain ⟨ad, e1, e2⟩ := R1
        obtain ⟨xs, h3, h4⟩ := S1.obj j _ ad hm e2
        exact ⟨ad, xs, e1, .inl ⟨.inl (.inl h3), k φ1 H1 _ g1 S1 (jok_live e2)⟩⟩
      · cases hf
  · subst e
    cases rv
    exact iter_lt I1 q⟩
theorem i_enum (hg : Gl X "enumerate") (hm : X.mg "enumerate" = none) (ha : PA X [e] (tA ζ X.K fa)) (hs : starEach [e] X.env = [(false, eval e X.env)] := by rfl) : PI X (.Tuple elts kk tpos) (.Call (.Name "enumerate" p) [e] [] pos) (tI ζ X.K (itEnum fa)) := ⟨fun pins s σ H R I q => by
  obtain ⟨φ, env, m, src, n, m', S, E, hf, k⟩ := q
  obtain ⟨⟨rs, m1⟩, h1, hf⟩ := bind_some_iff hf
  by_cases ht : ∃ ds, rs = [.val (.tuple ds)]
  · obtain ⟨ds, rfl⟩ := ht
    cases hf
    exact (i_enumT hg hm ha hs).run pins s σ H R I ⟨φ, env, m, _, _, m1, S, E, by unfold itEnumT; rw [h1]; rfl, k⟩
  · refine (i_enumL hg hm ha hs).run pins s σ H R I ⟨φ, env, m, src, n, m', S, E, ?_, k⟩
    unfold itEnumL
    rw [h1]
    simp only [Option.bind_some]
    simp only at hf
    split at hf
    · exact absurd ⟨_, rfl⟩ ht
    · exact hf
    · exact hf
    · cases hf⟩
/-- xs[lo:hi], of a list or a tuple -/
def eSl (f : EF) (l h : OF) : EF := fun env m => (f env m).bind fun x => (l env x.2).bind fun y => (h env y.2).bind fun z => match x.1 with
  | .val (.tuple ds) => some (.val (.tuple (cutD ds y.1 z.1)), z.2)
  | r => (asL r z.2).bind fun ds => some (.val (.list (cutD ds y.1 z.1)), z.2)
theorem x_sl {a : Expr} {lo hi : Option Expr} {fl fh : OF} {p2 : Pos} (ha : PE X a (tE ζ X.K f)) (hl : PO X lo (tO' ζ X.K fl)) (hh : PO X hi (tO' ζ X.K fh)) : PE X (.Subscript a (.Slice lo hi none p2) pos) (tE ζ X.K (eSl f fl fh)) := ⟨fun pins s σ H Q I q => by
  obtain ⟨φ, env, m, r, m', S, E, hf, k⟩ := q
  obtain ⟨⟨r1, m1⟩, h1, hf⟩ := bind_some_iff hf
  obtain ⟨⟨o1, m2⟩, h2, hf⟩ := bind_some_iff hf
  obtain ⟨⟨o2, m3⟩, h3, hf⟩ := bind_some_iff hf
  by_cases ht : ∃ ds, r1 = .val (.tuple ds)
  · obtain ⟨ds, rfl⟩ := ht
    exact (x_slT ha hl hh).run pins s σ H Q I ⟨φ, env, m, r, m', S, E, by unfold eSlT; rw [h1]; simp only [Option.bind_some]; rw [h2]; simp only [Option.bind_some]; rw [h3]; exact hf, k⟩
  · simp only at hf
    split at hf
    · exact absurd ⟨_, rfl⟩ ht
    · exact (x_ofN (n_slL ha hl hh)).run pins s σ H Q I ⟨φ, env, m, r, m', S, E, by
        unfold eL nSlL
        rw [h1]
        simp only [Option.bind_some]
        rw [h2]
        simp only [Option.bind_some]
        rw [h3]
        simp only [Option.bind_some]
        obtain ⟨ds, h4, hf⟩ := bind_some_iff hf
        rw [h4]
        exact hf, k⟩⟩
/-- + of ints, tuples, lists -/
def pCatLf (a b : R) (m : M) : Option (R × M) := (asL a m).bind fun xs => (asL b m).bind fun ys => if xs.length + ys.length ≤ sizeLine then some (.val (.list (xs ++ ys)), m) else none
def pPlus : R → R → M → Option (R × M) := pOr pAddN pCatLf
theorem o_catLf : OpR X (binaryOp .Add) (r2P ζ X.K pCatLf) := by
  intro pins s σ H x y v u Q I rx ry q
  obtain ⟨φ, m, r1, r2, r, m', S, R1, R2, hf, k⟩ := q
  obtain ⟨xs, h1, hf⟩ := bind_some_iff hf
  obtain ⟨ys, h2, hf⟩ := bind_some_iff hf
  split at hf
  · rename_i hl
    cases hf
    exact o_catL pins s σ H x y v u Q I rx ry ⟨φ, m, r1, r2, xs, ys, S, R1, R2, h1, h2, hl, fun p vs hp hd => k φ _ _ (gr_alloc hp) (S.alloc hp) (rr_newL S hp hd)⟩
  · cases hf
theorem o_plus : OpR X (binaryOp .Add) (r2P ζ X.K pPlus) := o_or o_add o_catLf
/-- a name of the module -/
theorem x_glob {x : Str} {d : D} {v : V} {u : Value} (hg : Gl X x) (hm : X.mg x = some u) (r : RelV v u) (hv : ∀ H, Dp X.K H v d) (hd : (x == ("__debug__" : Str)) = false := by decide) : PE X (.Name x pos) (tE ζ X.K (eC d)) := x_c (pe_glob hg hm r hd) hv
theorem x_globI {x : Str} {i : Int} (hg : Gl X x) (hm : ∃ t, X.mg x = some (.int i t)) (hd : (x == ("__debug__" : Str)) = false := by decide) : PE X (.Name x pos) (tE ζ X.K (eC (.int i))) := by
  obtain ⟨t, hm⟩ := hm
  exact x_glob (v := .int i) hg hm ⟨t, rfl⟩ (fun _ => .int i) hd
/-! patterns -/
theorem p_name {i : Nat} {x : Str} (hN : X.N.Nodup) (hi : X.N[i]? = some x) (hx : Loc X.env.scope x) (hf : X.fn x = true ∨ X.env.scope.names.lookup x = some .local := by first | exact .inl rfl | exact .inr rfl | assumption) : PG X (.Name x pos) (gPat ζ X.K (.nm i)) := by
  rw [gPat]
  exact pg_name hN hi hx hf
theorem p_nil : PGs X [] (gPats ζ X.K .nil) := by
  rw [gPats]
  exact pgs_nil
theorem p_cons {es : List Expr} {q : Pat} {qs : Pats} (h1 : PG X e (gPat ζ X.K q)) (h2 : PGs X es (gPats ζ X.K qs)) (hs : (assignEach (e :: es) X.env).map (·.2) = assign e X.env :: (assignEach es X.env).map (·.2) := by rfl) : PGs X (e :: es) (gPats ζ X.K (.cons q qs)) := by
  rw [gPats]
  exact pgs_cons h1 h2 hs
theorem p_tup {es : List Expr} {k : Nat} {qs : Pats} (hc : X.calm = true) (h : PGs X es (gPats ζ X.K qs)) (hn : (assignEach es X.env).length = qs.len := by rfl) (hst : (assignEach es X.env).findIdx? (·.1) = none := by rfl) : PG X (.Tuple es k pos) (gPat ζ X.K (.tp qs)) := by
  rw [gPat]
  exact pg_tup hc h hn hst
/-! a, b, .. = x, y, .. by a tuple that is laid and taken apart -/
def setAll : List Nat → List R → Sl → Option Sl
  | [], [], env => some env
  | i :: is, r :: rs, env => setAll is rs (env.set i (some r))
  | _, _, _ => none
def sParG (is : List Nat) (f : AF) : SF := fun env m => (f env m).bind fun x => if x.1.length ≤ sizeLine then (setAll is x.1 env).bind fun e => some (.nx e x.2) else none
def gNames (is : List Nat) : TGs := match is with
  | [] => gNil
  | i :: is => gCons (gName i) (gNames is)
theorem gn_nil : PGs X [] (gNames []) := pgs_nil
theorem gn_cons {i : Nat} {is : List Nat} {x : Str} {es : List Expr} (hN : X.N.Nodup) (hi : X.N[i]? = some x) (hx : Loc X.env.scope x) (h : PGs X es (gNames is)) (hs : (assignEach (.Name x pos :: es) X.env).map (·.2) = assign (.Name x pos) X.env :: (assignEach es X.env).map (·.2) := by rfl)
    (hf : X.fn x = true ∨ X.env.scope.names.lookup x = some .local := by first | exact .inl rfl | exact .inr rfl | assumption) : PGs X (.Name x pos :: es) (gNames (i :: is)) := pgs_cons (pg_name hN hi hx hf) h hs
theorem gn_ok {K : PySem.W.Frag} {φ : Ad} {H : Hp} : ∀ {is : List Nat} {rs : List R} {vs : List V} {σ : L2.St} {env env' : Sl} {Q : L2.St → Hp → Prop}, ER K φ H σ env → RRs K φ H vs rs → setAll is rs env = some env' → (∀ σ', ER K φ H σ' env' → Q σ' H) → gNames is vs σ H Q
  | [], [], _, _, _, _, _, E, R, e, q => by
    cases e
    cases R
    exact ⟨rfl, q _ E⟩
  | i :: is, r :: rs, _, _, _, _, _, E, R, e, q => by
    cases R with
    | cons a t => exact ⟨_, _, rfl, gn_ok (E.set a i) t e q⟩
  | [], _ :: _, _, _, _, _, _, _, _, e, _ => by cases e
  | _ :: _, [], _, _, _, _, _, _, _, e, _ => by cases e
theorem s_parG {is : List Nat} {es ts : List Expr} {kt k2 : Nat} {pt pt2 : Pos} (hc : X.calm = true) (ha : PA X es (tA ζ X.K fa)) (hg : PGs X ts (gNames is)) (hn : (assignEach ts X.env).length = is.length := by rfl) (hst : (assignEach ts X.env).findIdx? (·.1) = none := by rfl)
    (hs : swapsWithSole [.Tuple ts kt pt] (.Tuple es k2 pt2) pos.line X.env = pure false := by rfl) (hw : swappedStores [.Tuple ts kt pt] (.Tuple es k2 pt2) X.env = pure none := by rfl) (h1 : (assignEach [.Tuple ts kt pt] X.env).map (·.2) = [assign (.Tuple ts kt pt) X.env] := by rfl) :
    PS X (.Assign [.Tuple ts kt pt] (.Tuple es k2 pt2) pos) (tS ζ X.K (sParG is fa)) := ps_imp (ps_asg (pe_tupF ha) (pg_tup hc hg hn hst) hs hw h1) fun W σ H q => by
  obtain ⟨φ, env, m, fl, S, E, hf, k⟩ := q
  obtain ⟨⟨rs, m1⟩, h1, hf⟩ := bind_some_iff hf
  split at hf
  · rename_i hl
    obtain ⟨e1, h2, hf⟩ := bind_some_iff hf
    cases hf
    refine ⟨φ, env, m, rs, m1, S, E, h1, fun φ1 H1 vs g1 S1 R1 => ⟨by rw [Paired.len R1]; exact hl, fun p o hp ho => ?_⟩⟩
    have g2 := g1.trans (gr_alloc (o := .frz o (.tup vs)) hp)
    have hlen : rs.length = is.length := len_setAll h2
    exact ⟨p, vs, rfl, .inl (.inr ⟨o, upd_same⟩), by rw [Paired.len R1]; exact hlen, gn_ok (E.mono g2) (RRs.mono (gr_alloc (o := .frz o (.tup vs)) hp) R1) h2 fun σ' E' => k φ1 σ' _ g2 (S1.alloc hp ho) E'⟩
  · cases hf
where
  len_setAll : ∀ {is : List Nat} {rs : List R} {env env' : Sl}, setAll is rs env = some env' → rs.length = is.length
    | [], [], _, _, _ => rfl
    | i :: is, r :: rs, _, _, e => by
      rw [List.length_cons, List.length_cons, len_setAll (is := is) (rs := rs) e]
    | [], _ :: _, _, _, e => by cases e
    | _ :: _, [], _, _, e => by cases e
/-! tuple * int, at least two -/
def pRepT (a b : R) (m : M) : Option (R × M) := match a with
  | .val (.tuple ds) => (asI b).bind fun k => if ds ≠ [] ∧ 2 ≤ k ∧ k ≤ 1000 ∧ ds.length ≤ 1000 then some (.val (.tuple (List.replicate k.toNat ds).flatten), m) else none
  | _ => none
theorem o_repT : OpR X (binaryOp .Mult) (r2P ζ X.K pRepT) := by
  intro pins s σ H x y v u Q I rx ry q
  obtain ⟨φ, m, r1, r2, r, m', S, R1, R2, hf, k⟩ := q
  unfold pRepT at hf
  split at hf
  · rename_i ds
    obtain ⟨n, h2, hf⟩ := bind_some_iff hf
    split at hf
    · rename_i hc
      cases hf
      have e2 := asI_some h2
      subst e2
      obtain ⟨a, xs, rfl, hs, hd⟩ := seqT_of R1
      have hn := DpAll.len hd
      have hne : xs ≠ [] := fun z => hc.1 (List.length_eq_zero_iff.mp (by rw [← hn, z]; rfl))
      exact op_repF pins s σ H _ _ v u Q I rx ry ⟨a, n, xs, rfl, rr_int R2, hs, hne, hc.2.1, hc.2.2.1, by rw [hn]; exact hc.2.2.2, fun p o hp ho => k φ _ _ (gr_alloc hp) (S.alloc hp ho) (rr_newT S hp (DpAll.rep hd _))⟩
    · cases hf
  · cases hf
end
/-! how many arguments -/
theorem la_nil : ∀ env m rs m', aNil env m = some (rs, m') → rs.length = 0 := fun env m rs m' h => by
  cases h
  rfl
theorem la_cons {f : EF} {g : AF} {n : Nat} (h : ∀ env m rs m', g env m = some (rs, m') → rs.length = n) : ∀ env m rs m', aCons f g env m = some (rs, m') → rs.length = n + 1 := fun env m rs m' e => by
  obtain ⟨⟨r1, m1⟩, h1, e⟩ := bind_some_iff e
  obtain ⟨⟨r2, m2⟩, h2, e⟩ := bind_some_iff e
  cases e
  rw [List.length_cons, h _ _ _ _ h2]
end Ev

set_option Elab.async false
set_option linter.all false
set_option maxRecDepth 100000
/-! xs[::-1]; what a def of the module is to its callers. -/
namespace Ev
open PySem PySem.Spec PyProof.Rows L2

section
variable {prog : Program} {w : World} {A : Around} {E : Value → Shared → Prop} {s : Shared}
theorem pick_back (xs : Array Value) : ((List.range xs.size).filterMap fun (m : Nat) => xs[(((xs.size : Int) - 1) + (m : Int) * (-1)).toNat]?).toArray = xs.toList.reverse.toArray := by
  have e : ((List.range xs.size).filterMap fun (m : Nat) => xs[(((xs.size : Int) - 1) + (m : Int) * (-1)).toNat]?) = (List.range xs.size).filterMap fun m => xs.toList.reverse[m]? := by
    have cg : ∀ (l : List Nat) (f g : Nat → Option Value), (∀ m ∈ l, f m = g m) → l.filterMap f = l.filterMap g := by
      intro l f g h
      induction l with
      | nil => rfl
      | cons a l ih => rw [List.filterMap_cons, List.filterMap_cons, h a List.mem_cons_self, ih fun m hm => h m (List.mem_cons_of_mem _ hm)]
    refine cg _ _ _ fun m hm => ?_
    have h := List.mem_range.mp hm
    rw [show (((xs.size : Int) - 1) + (m : Int) * (-1)).toNat = xs.size - 1 - m by omega, List.getElem?_reverse (by rw [Array.length_toList]; exact h), Array.length_toList, Array.getElem?_toList]
  rw [e]
  have h2 : xs.size = xs.toList.reverse.length := by simp
  rw [h2]
  congr 1
  have key : ∀ l : List Value, (List.range l.length).filterMap (fun m => l[m]?) = l := by
    intro l
    induction l with
    | nil => rfl
    | cons a l ih =>
      rw [List.length_cons, List.range_succ_eq_map, List.filterMap_cons]
      simp only [List.getElem?_cons_zero, List.filterMap_map]
      congr 1
  exact key _
theorem getItem_tuple_back {t sl : Addr} {items : Array Value} {vl vu vs : Value} {Q : Value → Shared → Prop} (ht : IsTup s.heap t items) (hs : s.heap.IsSliceOf sl vl vu vs) (pl : IsPart vl none) (pu : IsPart vu none) (ps : IsPart vs (some (-1)))
    (h : Q (.ref s.heap.objs.size) { s with heap := s.heap.push { cls := .type "tuple", data := .seq items.toList.reverse.toArray } })
    (hsz : items.size ≤ sizeLine) : wpAny (model prog w) A (getItem (.ref t) (.ref sl)) Q E s := by
  have htake : sizeOk (.seq items.toList.reverse.toArray) := by
    show items.toList.reverse.toArray.size ≤ sizeLine
    simp
    exact hsz
  obtain ⟨os, hos, hcs, hds⟩ := id hs
  have hTs : s.TypeIs (.ref sl) "slice" := ⟨os, hos, hcs⟩
  unfold getItem
  try with_reducible refine wpAny_holding ?_
  first | refine wpAny_bind (wpAny_pure ?_) | skip
  refine wpAny_bind (wpAny_sequenceKey ht.typeIs (by decide) ?_)
  refine wpAny_bind (wpAny_callSpecial?_slot (name := Str.ofString "__getitem__") ht.typeIs PyProof.Rows.slot_tuple_getitem
    (wpAny_call_entry PyProof.Rows.slot_tuple_getitem ht.typeIs entry_tuple_getitem ?_ (args_tuple_getitem _ _)))
  show wpAny _ _ (Builtin.Tuple.tupleItemsOf (.ref t) >>= _) _ _ s
  refine wpAny_bind (PyProof.Rows.tupleItemsOf_ ht ?_)
  refine wpAny_bind (wpAny_typeOf hTs ?_)
  rw [if_pos (by decide)]
  have places : Builtin.Slice.slicePlaces ((items.size : Int) - 1) (-1) (-1) = items.size := by
    unfold Builtin.Slice.slicePlaces
    have h1 : ¬ ((-1 : Int) > 0) := by decide
    simp only [h1, if_false, Int.neg_neg, Int.ediv_one]
    split <;> omega
  refine wpAny_bind ?_
  · unfold Builtin.Slice.sliceApplied Builtin.Slice.sliceFields
    refine wpAny_bind (wpAny_bind (wpAny_field hos hds (x := vl) rfl (wpAny_bind (wpAny_field hos hds (x := vu) rfl (wpAny_bind (wpAny_field hos hds (x := vs) rfl (wpAny_pure ?_)))))))
    refine wpAny_bind (HT.slicePart_ ps ?_)
    show wpAny _ _ (if ((-1 : Int) == 0) = true then _ else _) _ _ s
    rw [if_neg (by decide)]
    refine wpAny_bind (HT.slicePart_ pl (wpAny_bind (HT.slicePart_ pu (wpAny_bind (wpAny_pure ?_)))))
    show wpAny _ _ (pure (((items.size : Int) - 1), (-1 : Int), Builtin.Slice.slicePlaces ((items.size : Int) - 1) (-1) (-1))) _ _ s
    rw [places]
    refine wpAny_pure ?_
    have hno : ¬ (((((items.size : Int) - 1)) == 0 && (-1 : Int) == 1 && items.size == items.size) = true) := by
      intro q
      rw [Bool.and_eq_true, Bool.and_eq_true] at q
      exact absurd q.1.2 (by decide)
    show wpAny _ _ (if ((((items.size : Int) - 1)) == 0 && (-1 : Int) == 1 && items.size == items.size) = true then _ else _) _ _ s
    rw [if_neg hno, pick_back]
    first
      | exact wpAny_bind (m := Builtin.Tuple.tupleExact _) (wpAny_newObj_type (wpAny_pure ⟨_, rfl, wpAny_pure h⟩) htake)
      | exact wpAny_bind (m := Builtin.Tuple.tupleExact _) (wpAny_newObj_type (wpAny_bind (wpAny_pure (wpAny_pure ⟨_, rfl, wpAny_pure h⟩))) htake)
      | exact wpAny_bind (wpAny_bind (m := Builtin.Tuple.tupleExact _) (wpAny_newObj_type (wpAny_pure (wpAny_pure ⟨_, rfl, wpAny_pure h⟩)) htake))
      | exact wpAny_bind (wpAny_bind (m := Builtin.Tuple.tupleExact _) (wpAny_newObj_type (wpAny_pure ⟨_, rfl, wpAny_pure h⟩) htake))
end
def tRevT (K : PySem.W.Frag) (te : TE) : TE := fun σ H Q => te σ H fun x H1 => ∃ a xs, x = .ref a ∧ SqT K H1 a xs ∧ NewT H1 xs.reverse Q
section
variable {X : Cx}
theorem pe_revT {e : Expr} {te : TE} {k : Nat} {p1 p2 p3 pos : Pos} (he : PE X e te) : PE X (.Subscript e (.Slice none none (some (.UnaryOp .USub (.Constant (.int 1) k p1) p2)) p3) pos) (tRevT X.K te) := by
  refine ⟨fun pins s σ H Q I h => ?_⟩
  refine Subscript_ (thn (he.run pins s σ H _ I h) fun v s1 ⟨x, H1, I1, r1, q1⟩ => ?_)
  obtain ⟨a, xs, ex, hx, q⟩ := q1
  subst ex
  cases r1
  have hst : PO X (some (.UnaryOp .USub (.Constant (.int 1) k p1) p2)) (tPart (tUn (rU fun i => .int (-i)) (tC (.int 1)))) := po_some (pe_un un_neg pe_int)
  refine wpAny_Slice (thn (po_none.run pins s1 σ H1 (fun o H2 => o = none ∧ H2 = H1) I1 ⟨rfl, rfl⟩) fun vl s2 ⟨l, H2, I2, pl, el, e2⟩ => ?_)
  subst el e2
  refine thn (po_none.run pins s2 σ H2 (fun o H3 => o = none ∧ H3 = H2) I2 ⟨rfl, rfl⟩) fun vu s3 ⟨u, H3, I3, pu, eu, e3⟩ => ?_
  subst eu e3
  refine thn (hst.run pins s3 σ H3 (fun o H4 => o = some (-1) ∧ H4 = H3) I3 ⟨1, rfl, -1, rfl, rfl, rfl⟩) fun vs s4 ⟨o, H4, I4, ps, eo, e4⟩ => ?_
  subst eo e4
  have I5 : Inv X pins σ H4 { s4 with heap := s4.heap.push { cls := .type "slice", data := .fields #[vl, vu, vs] } } := I4.kept (t' := s4.toks) fun b ob q => Heap.get?_push_of_some _ q
  obtain ⟨its, r, ht, hz⟩ := I5.tuple hx
  have hlen := r.length
  show wpAny (model X.prog X.w) X.A (subscriptTail e (.Slice none none (some (.UnaryOp .USub (.Constant (.int 1) k p1) p2)) p3) (.ref a) (.ref s4.heap.objs.size)) (EP X pins σ Q) X.xe { s4 with heap := s4.heap.push { cls := .type "slice", data := .fields #[vl, vu, vs] } }
  refine tail_any (ops := [.ref a, .ref s4.heap.objs.size]) ht.typeIs (PyProof.Rows.slot_tuple_getitem.lookup) ?_ (by with_unfolding_all rfl)
  refine getItem_tuple_back ht (Heap.IsSliceOf.new _ vl vu vs) pl pu ps ?_ (by rw [List.size_toArray]; omega)
  exact newT_push (t' := s4.toks) I5 (by rw [List.length_reverse]; exact hz) r.reverse q
theorem DpAll.rev {K : PySem.W.Frag} {H : Hp} : ∀ {ds : List D} {vs : List V}, DpAll K H vs ds → DpAll K H vs.reverse ds.reverse
  | [], [], _ => .nil
  | _ :: _, _ :: _, .cons a t => by
    rw [List.reverse_cons, List.reverse_cons]
    exact DpAll.append (DpAll.rev t) (.cons a .nil)
/-- xs[::-1] -/
def eRev (f : EF) : EF := fun env m => (f env m).bind fun x => match x.1 with
  | .val (.tuple ds) => some (.val (.tuple ds.reverse), x.2)
  | r => (asL r x.2).bind fun ds => some (.val (.list ds.reverse), x.2)
theorem x_rev {a : Expr} {f : EF} {k : Nat} {p1 p2 p3 pos : Pos} (ha : PE X a (tE ζ X.K f)) : PE X (.Subscript a (.Slice none none (some (.UnaryOp .USub (.Constant (.int 1) k p1) p2)) p3) pos) (tE ζ X.K (eRev f)) := ⟨fun pins s σ H Q I q => by
  obtain ⟨φ, env, m, r, m', S, E, hf, k⟩ := q
  obtain ⟨⟨r1, m1⟩, h1, hf⟩ := bind_some_iff hf
  by_cases ht : ∃ ds, r1 = .val (.tuple ds)
  · obtain ⟨ds, rfl⟩ := ht
    cases hf
    exact (pe_revT ha).run pins s σ H Q I ⟨φ, env, m, _, _, S, E, h1, fun φ1 H1 v g1 S1 R1 => by
      obtain ⟨a, xs, rfl, hs, hd⟩ := seqT_of R1
      exact ⟨a, xs, rfl, hs, fun p o hp ho => k φ1 _ _ (g1.trans (gr_alloc hp)) (S1.alloc hp ho) (rr_newT S1 hp (DpAll.rev hd))⟩⟩
  · simp only at hf
    split at hf
    · exact absurd ⟨_, rfl⟩ ht
    · obtain ⟨ds, h4, hf⟩ := bind_some_iff hf
      cases hf
      exact (pe_revL ha).run pins s σ H Q I ⟨φ, env, m, _, _, S, E, h1, fun φ1 H1 v g1 S1 R1 => by
        obtain ⟨a, xs, rfl, hs, hd⟩ := seqL_of S1 R1 h4
        exact ⟨a, xs, rfl, hs, fun p hp => k φ1 _ _ (g1.trans (gr_alloc hp)) (S1.alloc hp) (rr_newL S1 hp (DpAll.rev hd))⟩⟩⟩
end

/-! ### a def of the module -/
def HasDef (K : PySem.W.Frag) (mg : Str → Option Value) (x nm : Str) (st : Stmt) (ps : List Str) : Prop := ∃ f fd, mg x = some (.ref f) ∧ Fun K nm nm st f fd ∧ ∀ us : List Value, us.length = ps.length → bindArgs fd ⟨us, []⟩ = pure (ps.zip us)
def Okd (ζ : Tbs) (P : Program) (w : World) (K : PySem.W.Frag) (mg : Str → Option Value) (base : Heap) (k : Nat) (x : Str) (ps : List Str) (F : Fn) : Prop :=
  ∃ f fd, mg x = some (.ref f) ∧ PySem.W.keepIn K (.ref f) = true ∧ (∃ oc od osl, K.lookup f = some ⟨oc, od, .func fd, osl⟩) ∧ (∀ us : List Value, us.length = ps.length → bindArgs fd ⟨us, []⟩ = pure (ps.zip us)) ∧ FnG P w K mg base k f fd ps (spF ζ K ps.length F)
section
variable {P : Program} {w : World} {K : PySem.W.Frag} {mg : Str → Option Value} {base : Heap}
theorem hasDef {x nm : Str} {st : Stmt} {ps : List Str} {h : Heap} {f : Addr} {oc : Value} {od an : Option Addr} {osl : Array (Option Value)} {kV doc pm cdv ct : Value} (X : K.In h) (G : h.Ns mainGlobals mg)
    (b : ∀ (kV doc pm : Value) (an : Option Addr) (cdv ct : Value) (us : List Value), us.length = ps.length → bindArgs (PySem.W.fnOf nm nm (defArgs st) (defBody st) (defScope st) .none kV doc pm an cdv ct) ⟨us, []⟩ = pure (ps.zip us))
    (a : PySem.W.nsIn K mainGlobals x = some (some (.ref f))) (l : K.lookup f = some ⟨oc, od, .func (PySem.W.fnOf nm nm (defArgs st) (defBody st) (defScope st) .none kV doc pm an cdv ct), osl⟩)
    (c : PySem.W.codeIn K cdv nm = true) (k : PySem.W.keepIn K (.ref f) = true) : HasDef K mg x nm st ps :=
  ⟨f, _, PySem.W.mg_of X G a, fun_mk l c k, b _ _ _ _ _ _⟩
theorem okd_of {x nm : Str} {st : Stmt} {ps : List Str} {k : Nat} {Fm : Fn} (D : HasDef K mg x nm st ps) (h : ∀ f fd, Fun K nm nm st f fd → FnG P w K mg base k f fd ps (spF ζ K ps.length Fm)) : Okd ζ P w K mg base k x ps Fm := by
  obtain ⟨f, fd, hm, F, hB⟩ := D
  obtain ⟨oc, od, kV, doc, pm, an, cdv, ct, osl, e, l, c⟩ := F.ex
  exact ⟨f, fd, hm, F.kp, ⟨oc, od, osl, l⟩, hB, h f fd F⟩
theorem okd {x nm : Str} {st : Stmt} {N ps : List Str} {k n : Nat} {body : SF} (D : HasDef K mg x nm st ps) (S : FnScope N ps (defScope st)) (hn : N.length = n)
    (hb : ∀ f cdv A outer s H E, A.guards = some [] → Room k (A.deeper (envOfC nm (defScope st) s.heap.objs.size f cdv)) → PSs (Cf P w K mg base N nm st f cdv A outer s H E) (defBody st) (tS ζ K body)) : Okd ζ P w K mg base (k + 1) x ps (bodyF n body) :=
  okd_of D fun f fd F => fnF F S hn fun cdv A outer s H E _ => hb f cdv A outer s H E
theorem okdK {x nm : Str} {st : Stmt} {N ps : List Str} {k n : Nat} {body : SF} (D : HasDef K mg x nm st ps) (S : FnScope N ps (defScope st)) (hn : N.length = n)
    (hb : ∀ f cdv A outer s H E, A.guards = some [] → Room k (A.deeper (envOfC nm (defScope st) s.heap.objs.size f cdv)) → PSs (Cf P w K mg base N nm st f cdv A outer s H E) (defBody st) (tS ζ K body)) : Okd ζ P w K mg base (k + 1) x ps (bodyK n body) :=
  okd_of D fun f fd F => fnK F S hn fun cdv A outer s H E _ => hb f cdv A outer s H E
theorem endO {x nm : Str} {st : Stmt} {p : Str} {k : Nat} {Fm : Fn} {fa : Addr} {h : Heap} {cs : List (Addr × Addr × Str)} (X : K.In h) (kt : KT K) (D : HasDef K mg x nm st [p]) (TA : TabsAt K h cs) (O : ∀ base : Heap, (∀ p ∈ cs, LamX.TabB base mg p.1 p.2.1) → Okd (tabT cs) P w K mg base k x [p] Fm) (hmg : mg x = some (.ref fa)) :
    ∃ (K : PySem.W.Frag) (fd : FuncData) (cs : List (Addr × Addr × Str)), K.In h ∧ KT K ∧ TabsAt K h cs ∧ (∀ (s : Shared) (u : Value), BindsTo s fd ⟨[u], []⟩ [(p, u)]) ∧ ∀ base : Heap, K.In base → base.Ns mainGlobals mg → (∀ p ∈ cs, LamX.TabB base mg p.1 p.2.1) → FnG P w K mg base k fa fd [p] (spF (tabT cs) K 1 Fm) := by
  obtain ⟨f, fd, hm, F, hB⟩ := D
  obtain ⟨oc, od, kV, doc, pm, an, cdv, ct, osl, e, l, c⟩ := F.ex
  rw [hm] at hmg
  cases hmg
  refine ⟨K, fd, cs, X, kt, TA, fun s u => .of_eq (hB [u] rfl), fun base _ _ TB => ?_⟩
  obtain ⟨f2, fd2, hm2, _, ⟨oc2, od2, osl2, l2⟩, _, G⟩ := O base TB
  rw [hm] at hm2
  cases hm2
  rw [l] at l2
  cases l2
  exact G
end
theorem x_callO {X : Cx} {k : Nat} {ps : List Str} {x : Str} {p pos : Pos} {e : Expr} {es : List Expr} {fa : AF} {F : Fn} (O : Okd ζ X.prog X.w X.K X.mg X.base k x ps F) (hr : Room k X.A) (hgd : X.A.guards = some []) (hg : Gl X x)
    (ha : PA X (e :: es) (tA ζ X.K fa)) (hl : ∀ env m rs m', fa env m = some (rs, m') → rs.length = ps.length) (hdb : (x == ("__debug__" : Str)) = false := by decide) (he : starEach (e :: es) X.env = (false, eval e X.env) :: starEach es X.env := by rfl) (hpl : (backTo pos (starEach es X.env)).any (·.1) = false := by rfl) :
    PE X (.Call (.Name x p) (e :: es) [] pos) (tE ζ X.K (eAp F fa)) := by
  obtain ⟨f, fd, hm, hk, _, hB, G⟩ := O
  exact x_call G hr hgd hg hm hk (.all hB) rfl ha hl hdb he hpl
/-- .. whose code object is known (it makes lambdas) -/
def HasCode (K : PySem.W.Frag) (mg : Str → Option Value) (x nm : Str) (st : Stmt) (ps : List Str) (c : Addr) : Prop := ∃ f fd, mg x = some (.ref f) ∧ Fun K nm nm st f fd ∧ fd.code = .ref c ∧ ∀ us : List Value, us.length = ps.length → bindArgs fd ⟨us, []⟩ = pure (ps.zip us)
section
variable {P : Program} {w : World} {K : PySem.W.Frag} {mg : Str → Option Value} {base : Heap}
theorem HasCode.def_ {x nm : Str} {st : Stmt} {ps : List Str} {c : Addr} (D : HasCode K mg x nm st ps c) : HasDef K mg x nm st ps := by
  obtain ⟨f, fd, a, b, _, e⟩ := D
  exact ⟨f, fd, a, b, e⟩
theorem okdC {x nm : Str} {st : Stmt} {N ps : List Str} {k n : Nat} {body : SF} {c : Addr} (D : HasCode K mg x nm st ps c) (S : FnScope N ps (defScope st)) (hn : N.length = n)
    (hb : ∀ f A outer s H E, A.guards = some [] → Room k (A.deeper (envOfC nm (defScope st) s.heap.objs.size f (.ref c))) → PSs (Cf P w K mg base N nm st f (.ref c) A outer s H E) (defBody st) (tS ζ K body)) : Okd ζ P w K mg base (k + 1) x ps (bodyF n body) := by
  obtain ⟨f, fd, hm, F, hc, hB⟩ := D
  obtain ⟨oc, od, kV, doc, pm, an, cdv, ct, osl, e, l, cd⟩ := F.ex
  exact ⟨f, fd, hm, F.kp, ⟨oc, od, osl, l⟩, hB, fnF F S hn fun cdv A outer s H E e2 hg hr => by
    have e3 : cdv = .ref c := e2.symm.trans hc
    subst e3
    exact hb f A outer s H E hg hr⟩
end
/-! ### the known part of the heap, tables left out -/
def cutK (K : PySem.W.Frag) (ts : List Addr) : PySem.W.Frag := K.filter fun q => !ts.contains q.1
theorem cutK_out {ts : List Addr} {a : Addr} (h : ts.contains a = false) : ∀ {K : PySem.W.Frag}, (cutK K ts).lookup a = K.lookup a
  | [] => rfl
  | (b, o) :: K => by
    have ih := cutK_out h (K := K)
    unfold cutK at ih ⊢
    rw [List.filter_cons, List.lookup_cons]
    by_cases hb : ts.contains b = true
    · have nab : (a == b) = false := beq_eq_false_iff_ne.mpr fun z => by
        rw [z, hb] at h
        cases h
      simp only [hb, Bool.not_true, Bool.false_eq_true, if_false, nab]
      exact ih
    · have hb' : ts.contains b = false := by simpa using hb
      simp only [hb', Bool.not_false, if_true, List.lookup_cons]
      cases a == b
      · exact ih
      · rfl
theorem cutK_none {ts : List Addr} {a : Addr} (h : ts.contains a = true) : ∀ {K : PySem.W.Frag}, (cutK K ts).lookup a = none
  | [] => rfl
  | (b, o) :: K => by
    have ih := cutK_none h (K := K)
    unfold cutK at ih ⊢
    rw [List.filter_cons]
    by_cases hb : ts.contains b = true
    · simp only [hb, Bool.not_true, Bool.false_eq_true, if_false]
      exact ih
    · have hb' : ts.contains b = false := by simpa using hb
      have nab : (a == b) = false := beq_eq_false_iff_ne.mpr fun z => by
        rw [z, hb'] at h
        cases h
      simp only [hb', Bool.not_false, if_true, List.lookup_cons, nab]
      exact ih
theorem cutK_In {K : PySem.W.Frag} {ts : List Addr} {h : Heap} (X : K.In h) : (cutK K ts).In h := fun a o e => by
  cases hc : ts.contains a with
  | true =>
    rw [cutK_none hc] at e
    cases e
  | false =>
    rw [cutK_out hc] at e
    exact X a o e
theorem cut_code {K : PySem.W.Frag} {ts : List Addr} {c : Addr} {q : Str} (h : ts.contains c = false) (e : PySem.W.codeIn K (.ref c) q = true) : PySem.W.codeIn (cutK K ts) (.ref c) q = true := by
  unfold PySem.W.codeIn at e ⊢
  simp only at e ⊢
  rw [cutK_out h]
  exact e
theorem cut_hd {K : PySem.W.Frag} {ts : List Addr} {c P : Addr} (h : ts.contains c = false) (e : PySem.W.codeHdIn K c P = true) : PySem.W.codeHdIn (cutK K ts) c P = true := by
  unfold PySem.W.codeHdIn at e ⊢
  rw [cutK_out h]
  exact e
/-- a def's facts, told of the cut part -/
theorem hasCode {K : PySem.W.Frag} {mg : Str → Option Value} {x nm : Str} {st : Stmt} {ps : List Str} {h : Heap} {ts : List Addr} {f c : Addr} {oc : Value} {od an : Option Addr} {osl : Array (Option Value)} {kV doc pm ct : Value} (X : K.In h) (G : h.Ns mainGlobals mg)
    (b : ∀ (kV doc pm : Value) (an : Option Addr) (cdv ct : Value) (us : List Value), us.length = ps.length → bindArgs (PySem.W.fnOf nm nm (defArgs st) (defBody st) (defScope st) .none kV doc pm an cdv ct) ⟨us, []⟩ = pure (ps.zip us))
    (a : PySem.W.nsIn K mainGlobals x = some (some (.ref f))) (l : K.lookup f = some ⟨oc, od, .func (PySem.W.fnOf nm nm (defArgs st) (defBody st) (defScope st) .none kV doc pm an (.ref c) ct), osl⟩)
    (cd : PySem.W.codeIn K (.ref c) nm = true) (nf : ts.contains f = false) (nc : ts.contains c = false) : HasCode (cutK K ts) mg x nm st ps c := by
  have l' : (cutK K ts).lookup f = some ⟨oc, od, .func (PySem.W.fnOf nm nm (defArgs st) (defBody st) (defScope st) .none kV doc pm an (.ref c) ct), osl⟩ := by rw [cutK_out nf]; exact l
  refine ⟨f, _, PySem.W.mg_of X G a, fun_mk l' (cut_code nc cd) ?_, rfl, b _ _ _ _ _ _⟩
  unfold PySem.W.keepIn
  simp only [l']
theorem cst_ {K : PySem.W.Frag} {mg : Str → Option Value} {h : Heap} {x : Str} {i : Int} {v : Value} (X : K.In h) (G : h.Ns mainGlobals mg) (a : PySem.W.nsIn K mainGlobals x = some (some v)) (e : ∃ t, v = .int i t) : ∃ t, mg x = some (.int i t) := by
  obtain ⟨t, rfl⟩ := e
  exact ⟨t, PySem.W.mg_of X G a⟩
/-! the builtins' names -/
theorem bt_len : bootBuiltins "len" = some (.builtin "len") := by decide +kernel
theorem bt_abs : bootBuiltins "abs" = some (.builtin "abs") := by decide +kernel
theorem bt_min : bootBuiltins "min" = some (.builtin "min") := by decide +kernel
theorem bt_max : bootBuiltins "max" = some (.builtin "max") := by decide +kernel
theorem bt_sum : bootBuiltins "sum" = some (.builtin "sum") := by decide +kernel
theorem bt_all : bootBuiltins "all" = some (.builtin "all") := by decide +kernel
theorem bt_any : bootBuiltins "any" = some (.builtin "any") := by decide +kernel
theorem bt_repr : bootBuiltins "repr" = some (.builtin "repr") := by decide +kernel
theorem bt_int : bootBuiltins "int" = some (.type "int") := by decide +kernel
theorem bt_bool : bootBuiltins "bool" = some (.type "bool") := by decide +kernel
theorem bt_tuple : bootBuiltins "tuple" = some (.type "tuple") := by decide +kernel
theorem bt_list : bootBuiltins "list" = some (.type "list") := by decide +kernel
theorem bt_isinstance : bootBuiltins "isinstance" = some (.builtin "isinstance") := by decide +kernel
theorem cut_tupB {K : PySem.W.Frag} {ts : List Addr} (h : tupB K = true) : tupB (cutK K ts) = true := List.all_eq_true.mpr fun q hq => List.all_eq_true.mp h q (List.mem_filter.mp hq).1
end Ev

set_option Elab.async false
set_option linter.all false
set_option maxRecDepth 100000
/-! Evaluators by simp; repr of small data. -/
namespace Ev
open PySem PySem.Spec PyProof.Rows L2

/-! ### small data: ints of at most 24 digits, no texts -/
mutual
def smallD : D → Bool
  | .none => true
  | .bool _ => true
  | .int i => decide (-(1000000000000000000000000 : Int) < i ∧ i < (1000000000000000000000000 : Int))
  | .list xs => smallDs xs
  | .tuple xs => smallDs xs
  | .str _ => false
  | .dict _ => false
def smallDs : List D → Bool
  | [] => true
  | x :: xs => smallD x && smallDs xs
end
theorem int_log {i : Int} (h : -(1000000000000000000000000 : Int) < i ∧ i < (1000000000000000000000000 : Int)) : i.natAbs < 1000000000000000000000000 := by omega
theorem len_ofString (s : String) : (Str.ofString s).length = s.length := by
  rw [Str.ofString_eq_toList]
  show (s.toList.map Char.toNat).toArray.size = s.length
  rw [List.size_toArray, List.length_map, String.length_toList]
theorem shown_int_len {i : Int} (h : i.natAbs < 1000000000000000000000000) : (PyData.shown (.int i)).length ≤ 25 := by
  have e : PyData.shown (.int i) = Str.ofString (toString i) := rfl
  rw [e, len_ofString]
  have hn : ∀ n : Nat, n < 1000000000000000000000000 → (Nat.repr n).length ≤ 24 := fun n hn => (Nat.length_repr_le_iff (by decide)).mpr (by simpa using hn)
  cases i with
  | ofNat n => exact Nat.le_succ_of_le (hn n h)
  | negSucc n =>
    have e2 : toString (Int.negSucc n) = "-" ++ Nat.repr (n + 1) := rfl
    rw [e2, String.length_append]
    have := hn (n + 1) h
    have e3 : ("-" : String).length = 1 := by decide
    omega
def okS (s : Str) : Prop := ∀ c ∈ s.cps.toList, c < 0x110000
theorem okS_of (s : String) : okS (Str.ofString s) := by
  rw [Str.ofString_eq_toList]
  intro c hc
  simp only [List.mem_map] at hc
  obtain ⟨x, _, rfl⟩ := hc
  have := x.valid
  rcases this with h | h <;> (show x.val.toNat < _; omega)
theorem okS_app {a b : Str} (ha : okS a) (hb : okS b) : okS (a ++ b) := fun c hc => by
  have e : (a ++ b).cps = a.cps ++ b.cps := rfl
  rw [e, Array.toList_append, List.mem_append] at hc
  exact hc.elim (ha c) (hb c)
theorem okS_join {sep : Str} (hs : okS sep) : ∀ {l : List Str}, (∀ x ∈ l, okS x) → okS (Str.join sep l)
  | [], _ => fun c hc => by simp [Str.join, Str.empty] at hc
  | [x], h => h x (by simp)
  | x :: y :: r, h => okS_app (okS_app (h x (by simp)) hs) (okS_join hs (l := y :: r) fun z hz => h z (by simp [hz]))
theorem okS_strOk {s : Str} (h : okS s) : PyData.strOk s = true := by
  unfold PyData.strOk
  rw [Array.all_eq_true_iff_forall_mem]
  intro x hx
  simpa using h x (Array.mem_toList_iff.mpr hx)
mutual
theorem small_ok : ∀ d : D, smallD d = true → d.showable = true ∧ d.hasDict = false ∧ d.leavesShort 25 = true ∧ okS d.shown
  | .none, _ => ⟨rfl, rfl, rfl, okS_of "None"⟩
  | .bool b, _ => ⟨rfl, rfl, rfl, by cases b <;> exact okS_of _⟩
  | .int i, h => by
    have h1 := int_log (of_decide_eq_true h)
    refine ⟨?_, rfl, ?_, okS_of _⟩
    · show decide (i.natAbs.log2 < 1920) = true
      refine decide_eq_true ?_
      have : i.natAbs.log2 < 80 := by
        by_cases z : i.natAbs = 0
        · rw [z]; decide
        · exact (Nat.log2_lt z).mpr (Nat.lt_of_lt_of_le h1 (by decide))
      omega
    · show decide ((PyData.shown (.int i)).length ≤ 25) = true
      exact decide_eq_true (shown_int_len h1)
  | .list xs, h => by
    obtain ⟨a, b, c, e⟩ := smalls_ok xs h
    refine ⟨a, b, c, ?_⟩
    show okS (listText (PyData.shownAll xs))
    rw [listText_eq_join]
    exact okS_app (okS_app (okS_of "[") (okS_join (okS_of ", ") e)) (okS_of "]")
  | .tuple xs, h => by
    obtain ⟨a, b, c, e⟩ := smalls_ok xs h
    refine ⟨a, b, c, ?_⟩
    show okS (tupleText (PyData.shownAll xs))
    unfold tupleText
    refine okS_app (okS_app (okS_of "(") (okS_join (okS_of ", ") e)) ?_
    split <;> exact okS_of _
  | .str _, h => by cases h
  | .dict _, h => by cases h
theorem smalls_ok : ∀ ds : List D, smallDs ds = true → PyData.showableAll ds = true ∧ PyData.hasDictAll ds = false ∧ PyData.leavesShortAll 25 ds = true ∧ ∀ x ∈ PyData.shownAll ds, okS x
  | [], _ => ⟨rfl, rfl, rfl, fun x hx => by cases hx⟩
  | d :: ds, h => by
    have h' : (smallD d && smallDs ds) = true := h
    rw [Bool.and_eq_true] at h'
    obtain ⟨a, b, c, e⟩ := small_ok d h'.1
    obtain ⟨a2, b2, c2, e2⟩ := smalls_ok ds h'.2
    refine ⟨?_, ?_, ?_, ?_⟩
    · show (PyData.showable d && PyData.showableAll ds) = true
      rw [a, a2]; rfl
    · show (PyData.hasDict d || PyData.hasDictAll ds) = false
      rw [b, b2]; rfl
    · show (PyData.leavesShort 25 d && PyData.leavesShortAll 25 ds) = true
      rw [c, c2]; rfl
    · intro x hx
      rcases List.mem_cons.mp (show x ∈ PyData.shown d :: PyData.shownAll ds from hx) with q | q
      · rw [q]; exact e
      · exact e2 x q
end
theorem pRepr_ok {d : D} {m : M} (h : smallD d = true) (hd : d.depth ≤ 60) (hw : d.weight ≤ 500000) : pRepr [.val d] m = some (.val (.str d.shown), m) := by
  obtain ⟨a, b, c, _⟩ := small_ok d h
  have h2 := PyData.shown_le 25 (by decide) d c
  have h3 : (25 + 2) * d.weight ≤ 27 * 500000 := Nat.mul_le_mul (by omega) hw
  have h4 : d.shown.length ≤ sizeLine := by
    rw [sizeLine_eq]
    omega
  show (if (d.showable && !d.hasDict && decide (d.depth ≤ 60) && decide (d.shown.length ≤ sizeLine)) = true then some (R.val (.str d.shown), m) else none) = _
  rw [a, b, decide_eq_true hd, decide_eq_true h4]
  rfl
theorem pNe_shown {d : D} {m : M} (h : smallD d = true) : pNe (.val (.str d.shown)) (.val (.str d.shown)) m = some (.val (.bool false), m) := by
  have z := okS_strOk (small_ok d h).2.2.2
  have s1 : SeqAt.shaped (.str d.shown) = true := by
    show (PyData.strOk d.shown && decide (PyData.depth (.str d.shown) ≤ 64)) = true
    rw [z]
    rfl
  have e : PyData.eqv (.str d.shown) (.str d.shown) = true := by simp [PyData.eqv]
  show (if (SeqAt.shaped (.str d.shown) && SeqAt.shaped (.str d.shown)) = true then some (R.val (.bool (if true then !PyData.eqv (.str d.shown) (.str d.shown) else PyData.eqv (.str d.shown) (.str d.shown))), m) else none) = _
  rw [s1, e]
  rfl
theorem pEq_shown {d : D} {m : M} (h : smallD d = true) : pEq (.val (.str d.shown)) (.val (.str d.shown)) m = some (.val (.bool true), m) := by
  have z := okS_strOk (small_ok d h).2.2.2
  have s1 : SeqAt.shaped (.str d.shown) = true := by
    show (PyData.strOk d.shown && decide (PyData.depth (.str d.shown) ≤ 64)) = true
    rw [z]
    rfl
  have e : PyData.eqv (.str d.shown) (.str d.shown) = true := by simp [PyData.eqv]
  show (if (SeqAt.shaped (.str d.shown) && SeqAt.shaped (.str d.shown)) = true then some (R.val (.bool (if false then !PyData.eqv (.str d.shown) (.str d.shown) else PyData.eqv (.str d.shown) (.str d.shown))), m) else none) = _
  rw [s1, e]
  rfl

/-! ### evaluation by simp -/
/-- a step that simp is to write down -/
theorem nr {α : Sort u} {a b : α} (h : a = b) : a = b := h
@[simp high] theorem ob_some {α β : Type} (a : α) (f : α → Option β) : (some a).bind f = f a := nr rfl
@[simp high] theorem ob_none {α β : Type} (f : α → Option β) : (none : Option α).bind f = none := nr rfl
section
variable {f g h : EF} {fa ga : AF} {tf tg : TF} {sf sg : SF} {gf : GF} {env : Sl} {m : M} {r : R} {p q : R → R → M → Option (R × M)}
@[simp] theorem ev_var0 {a : Option R} {l : Sl} : eVar 0 (a :: l) m = match a with
  | some r => some (r, m)
  | none => none := by cases a <;> rfl
@[simp] theorem ev_varS {i : Nat} {a : Option R} {l : Sl} : eVar (i + 1) (a :: l) m = eVar i l m := nr rfl
@[simp] theorem ev_c {d : D} : eC d env m = some (.val d, m) := nr rfl
@[simp] theorem ev_bin : eBin p f g env m = (f env m).bind fun x => (g env x.2).bind fun y => p x.1 y.1 y.2 := nr rfl
@[simp] theorem ev_un {p : R → M → Option (R × M)} : eUn p f env m = (f env m).bind fun x => p x.1 x.2 := nr rfl
@[simp] theorem ev_nil : aNil env m = some ([], m) := nr rfl
@[simp] theorem ev_cons : aCons f fa env m = (f env m).bind fun x => (fa env x.2).bind fun y => some (x.1 :: y.1, y.2) := nr rfl
@[simp] theorem ev_ap {p : List R → M → Option (R × M)} : eAp p fa env m = (fa env m).bind fun x => p x.1 x.2 := nr rfl
@[simp] theorem ev_tOf : tOf f env m = (f env m).bind fun x => (asB x.1).bind fun b => some (b, x.2) := nr rfl
@[simp] theorem ev_asB {b : Bool} : asB (.val (.bool b)) = some b := nr rfl
@[simp] theorem ev_asI {i : Int} : asI (.val (.int i)) = some i := nr rfl
@[simp] theorem ev_tNot : tNotF tf env m = (tf env m).bind fun x => some (!x.1, x.2) := nr rfl
@[simp] theorem ev_tAnd : tAndF tf tg env m = (tf env m).bind fun x => if x.1 = true then tg env x.2 else some (false, x.2) := nr rfl
@[simp] theorem ev_tOr : tOrF tf tg env m = (tf env m).bind fun x => if x.1 = true then some (true, x.2) else tg env x.2 := nr rfl
@[simp] theorem ev_eOf : eOf tf env m = (tf env m).bind fun x => some (.val (.bool x.1), x.2) := nr rfl
@[simp] theorem ev_eIf : eIf tf f g env m = (tf env m).bind fun x => if x.1 = true then f env x.2 else g env x.2 := nr rfl
@[simp] theorem ev_chain : eChain p q f g h env m = (f env m).bind fun x => (g env x.2).bind fun y => (p x.1 y.1 y.2).bind fun z =>
  (asB z.1).bind fun b => if b = true then (h env z.2).bind fun w => q y.1 w.1 w.2 else some (.val (.bool false), z.2) := rfl
@[simp] theorem ev_seq : sSeq sf sg env m = (sf env m).bind fun fl => thenF fl sg := nr rfl
@[simp] theorem ev_then_nx : thenF (.nx env m) sg = sg env m := nr rfl
@[simp] theorem ev_then_rt : thenF (.rt r m) sg = some (.rt r m) := nr rfl
@[simp] theorem ev_then_bk : thenF (.bk env m) sg = some (.bk env m) := nr rfl
@[simp] theorem ev_then_ct : thenF (.ct env m) sg = some (.ct env m) := nr rfl
@[simp] theorem ev_aft_nx {k : SF} : aftF (.nx env m) k = k env m := nr rfl
@[simp] theorem ev_aft_ct {k : SF} : aftF (.ct env m) k = k env m := nr rfl
@[simp] theorem ev_aft_rt {k : SF} : aftF (.rt r m) k = some (.rt r m) := nr rfl
@[simp] theorem ev_aft_bk {k : SF} : aftF (.bk env m) k = some (.nx env m) := nr rfl
@[simp] theorem ev_next : sNext env m = some (.nx env m) := nr rfl
@[simp] theorem ev_never : sNever env m = none := nr rfl
@[simp] theorem ev_break : sBreak env m = some (.bk env m) := nr rfl
@[simp] theorem ev_contn : sCont env m = some (.ct env m) := nr rfl
@[simp] theorem ev_ret : sRet f env m = (f env m).bind fun x => some (.rt x.1 x.2) := nr rfl
@[simp] theorem ev_retN : sRetN env m = some (.rt (.val .none) m) := nr rfl
@[simp] theorem ev_expr : sExpr f env m = (f env m).bind fun x => some (.nx env x.2) := nr rfl
@[simp] theorem ev_if : sIf tf sf sg env m = (tf env m).bind fun x => if x.1 = true then sf env x.2 else sg env x.2 := nr rfl
@[simp] theorem ev_asg : sAsg f gf env m = (f env m).bind fun x => (gf x.1 env x.2).bind fun y => some (.nx y.1 y.2) := nr rfl
@[simp] theorem ev_gNm {i : Nat} : gNm i r env m = some (env.set i (some r), m) := nr rfl
@[simp] theorem ev_par {i j : Nat} : sPar i j fa env m = (fa env m).bind fun x => match x.1 with
  | [a, b] => some (.nx ((env.set i (some a)).set j (some b)) x.2)
  | _ => none := nr rfl
@[simp] theorem ev_parG {is : List Nat} : sParG is fa env m = (fa env m).bind fun x => if x.1.length ≤ sizeLine then (setAll is x.1 env).bind fun e => some (.nx e x.2) else none := nr rfl
@[simp] theorem ev_sub {pp : R → R → R → M → Option M} : gSubF pp f g r env m = (f env m).bind fun x => (g env x.2).bind fun y => (pp x.1 y.1 r y.2).bind fun m' => some (env, m') := nr rfl
@[simp] theorem ev_aug {i : Nat} : sAugF p i f env m = (eVar i env m).bind fun x => (f env m).bind fun y => (p x.1 y.1 y.2).bind fun z => some (.nx (env.set i (some z.1)) z.2) := nr rfl
@[simp] theorem ev_augS {pp : R → R → R → M → Option M} : sAugSF q pp f g h env m = (f env m).bind fun x => (g env x.2).bind fun y => (pIdx x.1 y.1 y.2).bind fun z => (h env z.2).bind fun w => (q z.1 w.1 w.2).bind fun u => (pp x.1 y.1 u.1 u.2).bind fun m' => some (.nx env m') := nr rfl
@[simp] theorem ev_bm {pp : MF} : eBM pp f fa env m = (f env m).bind fun x => (asL x.1 x.2).bind fun _ => (fa env x.2).bind fun y => pp x.1 y.1 y.2 := nr rfl
@[simp] theorem ev_eL {nf : NF} : eL nf env m = (nf env m).bind fun x => some (.val (.list x.1), x.2) := nr rfl
@[simp] theorem ev_eNew {nf : NF} : eNew nf env m = (nf env m).bind fun x => some (.ref x.2.length, x.2 ++ [.lst x.1]) := nr rfl
@[simp] theorem ev_nLst : nLst fa env m = (fa env m).bind fun x => (vals x.1).bind fun ds => if ds.length ≤ sizeLine then some (ds, x.2) else none := nr rfl
@[simp] theorem ev_vals0 : vals [] = some [] := nr rfl
@[simp] theorem ev_valsC {d : D} {rs : List R} : vals (.val d :: rs) = (vals rs).bind fun ds => some (d :: ds) := nr rfl
@[simp] theorem ev_pTup {rs : List R} : pTup rs m = (vals rs).bind fun ds => if ds.length ≤ sizeLine then some (.val (.tuple ds), m) else none := nr rfl
@[simp] theorem ev_isA {t : Ty} : eIsA t f env m = (f env m).bind fun x => match x.1 with
  | .val d => some (.val (.bool (isA t (.val d))), x.2)
  | .ref k => (x.2[k]?).bind fun o => match o with
    | .lst _ => some (.val (.bool (isA t (.ref k))), x.2)
    | .dct _ _ _ => none
  | .tp _ => none := by
  unfold eIsA
  congr 1
  funext x
  obtain ⟨r, m'⟩ := x
  cases r <;> rfl

/-! loops and comprehensions -/
def runI (o : Option ((Src × Nat) × M)) (gf : GF) (sf : SF) (env : Sl) : Option Fl := o.bind fun x => loop x.1.1 gf sf x.1.2 0 env x.2
@[simp] theorem ev_for {it : IF} : sFor it gf sf env m = runI (it env m) gf sf env := nr rfl
@[simp] theorem run_iL {ds : List D} : runI (iL ds m) gf sf env = loopL gf sf ds env m := loop_srcL ds ds 0 env m rfl
def runC (o : Option ((Src × Nat) × M)) (p : Pat) (vs : List Nat) (tt : TF) (te : EF) (env : Sl) : Option (List D × M) := o.bind fun x => if x.1.2 ≤ sizeLine then clp x.1.1 p tt te (wipeE env vs) x.1.2 0 x.2 else none
@[simp] theorem ev_comp {it : IF} {p : Pat} {vs : List Nat} {tt : TF} {te : EF} : nComp it p vs tt te env m = runC (it env m) p vs tt te env := nr rfl
@[simp] theorem sz : sizeLine = 16777216 := sizeLine_eq
theorem runC_iL {p : Pat} {vs : List Nat} {tt : TF} {te : EF} {ds : List D} (h : ds.length ≤ 16777216) : runC (iL ds m) p vs tt te env = clpL p tt te (wipeE env vs) ds m := by
  have := nComp_L (it := fun _ m => iL ds m) (p := p) (vs := vs) (tt := tt) (te := te) (env := env) (m := m) (m' := m) (ds := ds) rfl (by rw [sz]; exact h)
  exact this
@[simp] theorem run_none {gf : GF} {sf : SF} {env : Sl} : runI none gf sf env = none := nr rfl
def rg1 (rs : List R) (m : M) : Option ((Src × Nat) × M) := match rs with
  | [.val (.int j)] => if -(2 ^ 62) ≤ j ∧ j < 2 ^ 62 then iL (rngD 0 j.toNat) m else none
  | _ => none
def rg2 (rs : List R) (m : M) : Option ((Src × Nat) × M) := match rs with
  | [.val (.int i), .val (.int j)] => if -(2 ^ 62) ≤ i ∧ i < 2 ^ 62 ∧ -(2 ^ 62) ≤ j ∧ j < 2 ^ 62 then iL (rngD i (j - i).toNat) m else none
  | _ => none
@[simp] theorem it_rg1 {fa : AF} : itRng1 fa env m = (fa env m).bind fun x => rg1 x.1 x.2 := nr rfl
@[simp] theorem it_rg2 {fa : AF} : itRng2 fa env m = (fa env m).bind fun x => rg2 x.1 x.2 := nr rfl
theorem rngD_nat (a n : Nat) : rngD (a : Int) n = (List.range' a n).map fun j : Nat => PyData.int j := by
  unfold rngD
  rw [List.range'_eq_map_range, List.map_map]
  apply List.map_congr_left
  intro j _
  simp
theorem rg1_nat {n : Nat} (h : n ≤ 1000000000) : rg1 [.val (.int n)] m = iL ((List.range n).map fun j : Nat => PyData.int j) m := by
  have h2 : -(2 ^ 62) ≤ (n : Int) ∧ (n : Int) < 2 ^ 62 := by omega
  simp only [rg1]
  rw [if_pos h2, Int.toNat_natCast, List.range_eq_range']
  exact congrArg (fun l => iL l m) (rngD_nat 0 n)
theorem rg2_nat {a b : Nat} {i j : Int} (hi : i = a) (hj : j = b) (ha : a ≤ 1000000000) (h : b ≤ 1000000000) : rg2 [.val (.int i), .val (.int j)] m = iL ((List.range' a (b - a)).map fun j : Nat => PyData.int j) m := by
  subst hi hj
  have h2 : -(2 ^ 62) ≤ (a : Int) ∧ (a : Int) < 2 ^ 62 ∧ -(2 ^ 62) ≤ (b : Int) ∧ (b : Int) < 2 ^ 62 := by omega
  simp only [rg2]
  rw [if_pos h2, show ((b : Int) - a).toNat = b - a by omega, rngD_nat]
@[simp] theorem leave_v {b : Nat} {d : D} : leave b (.val d) m = some (.val d, m.take b) := nr rfl
theorem step_nx {sf : SF} {gf : GF} {d : D} {ds : List D} {env1 env2 : Sl} {m1 m2 : M} (hg : gf (.val d) env m = some (env1, m1)) (hb : sf env1 m1 = some (.nx env2 m2)) : loopL gf sf (d :: ds) env m = loopL gf sf ds env2 m2 := by
  show ((gf (.val d) env m).bind fun x => (sf x.1 x.2).bind fun fl => aftF fl (loopL gf sf ds)) = _
  rw [hg]
  simp only [Option.bind_some]
  rw [hb]
  rfl
theorem step_rt {sf : SF} {gf : GF} {d : D} {ds : List D} {env1 : Sl} {m1 m2 : M} {r : R} (hg : gf (.val d) env m = some (env1, m1)) (hb : sf env1 m1 = some (.rt r m2)) : loopL gf sf (d :: ds) env m = some (.rt r m2) := by
  show ((gf (.val d) env m).bind fun x => (sf x.1 x.2).bind fun fl => aftF fl (loopL gf sf ds)) = _
  rw [hg]
  simp only [Option.bind_some]
  rw [hb]
  rfl
@[simp] theorem loop_nil {sf : SF} {gf : GF} : loopL gf sf [] env m = some (.nx env m) := nr rfl
def en1 (rs : List R) (m : M) : Option ((Src × Nat) × M) := match rs with
  | [.val (.tuple ds)] => iL (enumD ds) m
  | [.val (.list ds)] => iL (enumD ds) m
  | [.ref k] => match m[k]? with
    | some (.lst ds) => some ((srcE k, ds.length), m)
    | _ => none
  | _ => none
@[simp] theorem it_en {fa : AF} : itEnum fa env m = (fa env m).bind fun x => en1 x.1 x.2 := nr rfl
@[simp] theorem en1_t {ds : List D} : en1 [.val (.tuple ds)] m = iL (enumD ds) m := nr rfl
@[simp] theorem en1_l {ds : List D} : en1 [.val (.list ds)] m = iL (enumD ds) m := nr rfl
def an1 (r : R) (m : M) : Option ((Src × Nat) × M) := match r with
  | .val (.tuple ds) => iL ds m
  | .val (.list ds) => iL ds m
  | .ref k => match m[k]? with
    | some (.lst ds) => some ((srcR k, ds.length), m)
    | _ => none
  | _ => none
@[simp] theorem it_an {f : EF} : itAny f env m = (f env m).bind fun x => an1 x.1 x.2 := nr rfl
@[simp] theorem an1_t {ds : List D} : an1 (.val (.tuple ds)) m = iL ds m := nr rfl
@[simp] theorem an1_l {ds : List D} : an1 (.val (.list ds)) m = iL ds m := nr rfl
def rev1 (r : R) (m : M) : Option (R × M) := match r with
  | .val (.tuple ds) => some (.val (.tuple ds.reverse), m)
  | r => (asL r m).bind fun ds => some (.val (.list ds.reverse), m)
@[simp] theorem ev_rev : eRev f env m = (f env m).bind fun x => rev1 x.1 x.2 := nr rfl
@[simp] theorem rev1_t {ds : List D} : rev1 (.val (.tuple ds)) m = some (.val (.tuple ds.reverse), m) := nr rfl
@[simp] theorem rev1_l {ds : List D} : rev1 (.val (.list ds)) m = some (.val (.list ds.reverse), m) := nr rfl
end
end Ev

set_option Elab.async false
set_option linter.all false
set_option maxRecDepth 100000
/-! Operators on known values, by simp; comprehensions and loops by invariants. -/
namespace Ev
open PySem PySem.Spec PyProof.Rows L2
section
variable {m : M} {i j : Int} {a b : Bool} {ds es : List D} {d e : D} {k : Nat}
@[simp] theorem pp_ii : pPlus (.val (.int i)) (.val (.int j)) m = some (.val (.int (i + j)), m) := nr rfl
theorem pp_tt (h : ds.length + es.length ≤ 16777216) : pPlus (.val (.tuple ds)) (.val (.tuple es)) m = some (.val (.tuple (ds ++ es)), m) := by
  show (match (match pAddI (.val (.tuple ds)) (.val (.tuple es)) m with
    | some x => some x
    | none => pCatT (.val (.tuple ds)) (.val (.tuple es)) m) with
    | some x => some x
    | none => pCatLf (.val (.tuple ds)) (.val (.tuple es)) m) = _
  have e1 : pAddI (.val (.tuple ds)) (.val (.tuple es)) m = none := rfl
  have e2 : pCatT (.val (.tuple ds)) (.val (.tuple es)) m = some (.val (.tuple (ds ++ es)), m) := by
    show (if ds.length + es.length ≤ sizeLine then some (R.val (.tuple (ds ++ es)), m) else none) = _
    rw [sz, if_pos h]
  rw [e1]
  simp only [e2]
theorem pp_ll (h : ds.length + es.length ≤ 16777216) : pPlus (.val (.list ds)) (.val (.list es)) m = some (.val (.list (ds ++ es)), m) := by
  show (match (match pAddI (.val (.list ds)) (.val (.list es)) m with
    | some x => some x
    | none => pCatT (.val (.list ds)) (.val (.list es)) m) with
    | some x => some x
    | none => pCatLf (.val (.list ds)) (.val (.list es)) m) = _
  have e1 : pAddI (.val (.list ds)) (.val (.list es)) m = none := rfl
  have e2 : pCatT (.val (.list ds)) (.val (.list es)) m = none := rfl
  rw [e1]
  simp only [e2]
  show (if ds.length + es.length ≤ sizeLine then some (R.val (.list (ds ++ es)), m) else none) = _
  rw [sz, if_pos h]
@[simp] theorem pa_ii : pAddI (.val (.int i)) (.val (.int j)) m = some (.val (.int (i + j)), m) := nr rfl
@[simp] theorem ps_ii : pSub (.val (.int i)) (.val (.int j)) m = some (.val (.int (i - j)), m) := nr rfl
theorem log2_lt_of {n k : Nat} (h : n < 2 ^ (k + 1)) : n.log2 ≤ k := by
  by_cases z : n = 0
  · rw [z]; exact Nat.zero_le _
  · exact Nat.le_of_lt_succ ((Nat.log2_lt z).mpr h)
theorem pm_ii (hi : i.natAbs < 18446744073709551616) (hj : j.natAbs < 18446744073709551616) : pMul (.val (.int i)) (.val (.int j)) m = some (.val (.int (i * j)), m) := by
  have h : mulOk i j = true := by
    have h1 := log2_lt_of (k := 63) (n := i.natAbs) hi
    have h2 := log2_lt_of (k := 63) (n := j.natAbs) hj
    exact decide_eq_true (by omega)
  show (if mulOk i j = true then some (R.val (.int (i * j)), m) else none) = _
  rw [if_pos h]
theorem pdv_ii (h : 0 < j) (hj : j < 18446744073709551616) : pDiv (.val (.int i)) (.val (.int j)) m = some (.val (.int (i / j)), m) := by
  have h : divOk i j = true := by
    have h2 := log2_lt_of (k := 63) (n := j.natAbs) (by omega)
    exact decide_eq_true ⟨h, by omega⟩
  show (if divOk i j = true then some (R.val (.int (i / j)), m) else none) = _
  rw [if_pos h]
theorem pmd_ii (h : 0 < j) : pMod (.val (.int i)) (.val (.int j)) m = some (.val (.int (i % j)), m) := by
  have h : modOk i j = true := decide_eq_true h
  show (if modOk i j = true then some (R.val (.int (i % j)), m) else none) = _
  rw [if_pos h]
@[simp] theorem plt_ii : pLt (.val (.int i)) (.val (.int j)) m = some (.val (.bool (decide (i < j))), m) := nr rfl
@[simp] theorem ple_ii : pLe (.val (.int i)) (.val (.int j)) m = some (.val (.bool (decide (i ≤ j))), m) := nr rfl
@[simp] theorem pgt_ii : pGt (.val (.int i)) (.val (.int j)) m = some (.val (.bool (decide (j < i))), m) := nr rfl
@[simp] theorem pge_ii : pGe (.val (.int i)) (.val (.int j)) m = some (.val (.bool (decide (j ≤ i))), m) := nr rfl
@[simp] theorem peq_ii : pEq (.val (.int i)) (.val (.int j)) m = some (.val (.bool (decide (i = j))), m) := by
  have : PyData.eqv (.int i) (.int j) = decide (i = j) := by show (i == j) = _; rfl
  show some (R.val (.bool (PyData.eqv (.int i) (.int j))), m) = _
  rw [this]
@[simp] theorem pne_ii : pNe (.val (.int i)) (.val (.int j)) m = some (.val (.bool (decide (i ≠ j))), m) := by
  have : PyData.eqv (.int i) (.int j) = decide (i = j) := by show (i == j) = _; rfl
  show some (R.val (.bool (!PyData.eqv (.int i) (.int j))), m) = _
  rw [this]
  by_cases h : i = j <;> simp [h]
@[simp] theorem peq_bb : pEq (.val (.bool a)) (.val (.bool b)) m = some (.val (.bool (a == b)), m) := nr rfl
@[simp] theorem pne_bb : pNe (.val (.bool a)) (.val (.bool b)) m = some (.val (.bool (a != b)), m) := nr rfl
@[simp] theorem pis_n : pIsN (.val .none) (.val .none) m = some (.val (.bool true), m) := nr rfl
@[simp] theorem pis_i : pIsN (.val (.int i)) (.val .none) m = some (.val (.bool false), m) := nr rfl
@[simp] theorem pis_t : pIsN (.val (.tuple ds)) (.val .none) m = some (.val (.bool false), m) := nr rfl
@[simp] theorem pisnt_n : pIsnt (.val .none) (.val .none) m = some (.val (.bool false), m) := nr rfl
@[simp] theorem pisnt_i : pIsnt (.val (.int i)) (.val .none) m = some (.val (.bool true), m) := nr rfl
@[simp] theorem pisnt_t : pIsnt (.val (.tuple ds)) (.val .none) m = some (.val (.bool true), m) := nr rfl
@[simp] theorem pneg_i : pNeg (.val (.int i)) m = some (.val (.int (-i)), m) := nr rfl
@[simp] theorem plen_t : pLen [.val (.tuple ds)] m = some (.val (.int ds.length), m) := nr rfl
@[simp] theorem plen_l : pLen [.val (.list ds)] m = some (.val (.int ds.length), m) := nr rfl
@[simp] theorem pabs_i : pAbs [.val (.int i)] m = some (.val (.int (if i < 0 then -i else i)), m) := nr rfl
@[simp] theorem pmin_ii : pMin [.val (.int i), .val (.int j)] m = some (.val (.int (if j < i then j else i)), m) := nr rfl
@[simp] theorem pmax_ii : pMax [.val (.int i), .val (.int j)] m = some (.val (.int (if j > i then j else i)), m) := nr rfl
@[simp] theorem pint_i : pInt [.val (.int i)] m = some (.val (.int i), m) := nr rfl
@[simp] theorem ptup_l : pTupleOf [.val (.list ds)] m = some (.val (.tuple ds), m) := nr rfl
@[simp] theorem ptup_t : pTupleOf [.val (.tuple ds)] m = some (.val (.tuple ds), m) := nr rfl
theorem ptup_r (h : m[k]? = some (.lst ds)) : pTupleOf [.ref k] m = some (.val (.tuple ds), m) := by
  show ((asL (.ref k) m).bind fun ds => some (R.val (.tuple ds), m)) = _
  simp [asL, h]
theorem plen_r (h : m[k]? = some (.lst ds)) : pLen [.ref k] m = some (.val (.int ds.length), m) := by
  show ((asLT (.ref k) m).bind fun ds => some (R.val (.int ds.length), m)) = _
  simp [asLT, asL, h]
@[simp] theorem pix_t : pIdx (.val (.tuple ds)) (.val (.int i)) m = (atI ds i).bind fun d => some (.val d, m) := nr rfl
@[simp] theorem pix_l : pIdx (.val (.list ds)) (.val (.int i)) m = (atI ds i).bind fun d => some (.val d, m) := nr rfl
theorem pix_r (h : m[k]? = some (.lst ds)) : pIdx (.ref k) (.val (.int i)) m = (atI ds i).bind fun d => some (.val d, m) := by
  show ((asLT (.ref k) m).bind fun ds => (atI ds i).bind fun d => some (R.val d, m)) = _
  simp [asLT, asL, h]
theorem pset_r (h : m[k]? = some (.lst ds)) : pSet (.ref k) (.val (.int i)) (.val d) m = (ixN ds.length i).bind fun j => some (m.set k (.lst (ds.set j d))) := by
  unfold pSet
  simp [h]
theorem papp_r (h : m[k]? = some (.lst ds)) (hl : ds.length < 16777216) : pAppend (.ref k) [.val d] m = some (.val .none, m.set k (.lst (ds ++ [d]))) := by
  simp [pAppend, h, hl]
theorem asL_r (h : m[k]? = some (.lst ds)) : asL (.ref k) m = some ds := by
  simp [asL, h]
@[simp] theorem asBs_map (bs : List Bool) : asBs (bs.map PyData.bool) = some bs := by
  induction bs with
  | nil => rfl
  | cons b bs ih => simp [asBs, ih]
@[simp] theorem asIs_map (ns : List Int) : asIs (ns.map PyData.int) = some ns := by
  induction ns with
  | nil => rfl
  | cons b bs ih => simp [asIs, ih]
theorem asBs_map' {α : Type} (l : List α) (f : α → Bool) : asBs (l.map fun x => PyData.bool (f x)) = some (l.map f) := by
  have := asBs_map (l.map f)
  rwa [List.map_map] at this
theorem asIs_map' {α : Type} (l : List α) (f : α → Int) : asIs (l.map fun x => PyData.int (f x)) = some (l.map f) := by
  have := asIs_map (l.map f)
  rwa [List.map_map] at this
theorem pany_l {α : Type} (l : List α) (f : α → Bool) : pAny [.val (.list (l.map fun x => PyData.bool (f x)))] m = some (.val (.bool (l.any f)), m) := by
  show ((asBs (l.map fun x => PyData.bool (f x))).bind fun ns => some (R.val (.bool (ns.any id)), m)) = _
  rw [asBs_map']
  simp [List.any_map]
theorem pall_l {α : Type} (l : List α) (f : α → Bool) : pAll [.val (.list (l.map fun x => PyData.bool (f x)))] m = some (.val (.bool (l.all f)), m) := by
  show ((asBs (l.map fun x => PyData.bool (f x))).bind fun ns => some (R.val (.bool (ns.all id)), m)) = _
  rw [asBs_map']
  simp [List.all_map]
theorem psum_t {α : Type} (l : List α) (f : α → Int) : pSum [.val (.tuple (l.map fun x => PyData.int (f x)))] m = some (.val (.int (l.map f).sum), m) := by
  show ((asIs (l.map fun x => PyData.int (f x))).bind fun ns => some (R.val (.int ns.sum), m)) = _
  rw [asIs_map']
  rfl
end
/-! places -/
section
variable {α : Type} {xs : List α}
theorem ixN_nat {n k : Nat} (h : k < n) : ixN n (k : Int) = some k := by
  unfold ixN
  rw [if_pos (by omega)]
  simp [h]
theorem at_nat {k : Nat} {x : α} (h : xs[k]? = some x) : atI xs (k : Int) = some x := by
  have hk : k < xs.length := (List.getElem?_eq_some_iff.mp h).1
  unfold atI
  rw [ixN_nat hk]
  exact h
theorem at_int {i : Int} {x : α} (h0 : 0 ≤ i) (h : xs[i.toNat]? = some x) : atI xs i = some x := by
  have e : i = (i.toNat : Int) := by omega
  rw [e]
  exact at_nat h
@[simp] theorem atI_0 {x : α} : atI (x :: xs) 0 = some x := at_nat (k := 0) rfl
@[simp] theorem atI_1 {x y : α} : atI (x :: y :: xs) 1 = some y := at_nat (k := 1) rfl
@[simp] theorem atI_2 {x y z : α} : atI (x :: y :: z :: xs) 2 = some z := at_nat (k := 2) rfl
end
/-! comprehensions -/
theorem asD0_val (d : D) : clp.asD0 (.val d) = some d := rfl
theorem clpL_map {α : Type} {p : Pat} {tt : TF} {te : EF} {env : Sl} {m : M} (enc : α → D) (t : α → Bool) (F : α → D) : ∀ (l : List α),
    (∀ a ∈ l, ∃ e, bindP p (enc a) env = some e ∧ tt e m = some (t a, m) ∧ (t a = true → te e m = some (.val (F a), m))) → clpL p tt te env (l.map enc) m = some ((l.filter t).map F, m)
  | [], _ => rfl
  | a :: l, h => by
    obtain ⟨e, h1, h2, h3⟩ := h a List.mem_cons_self
    have ih := clpL_map (p := p) (tt := tt) (te := te) (env := env) (m := m) enc t F l fun b hb => h b (List.mem_cons_of_mem _ hb)
    rw [List.map_cons]
    unfold clpL
    rw [h1]
    simp only [Option.bind_some]
    rw [h2]
    simp only [Option.bind_some]
    cases ht : t a with
    | false =>
      rw [if_neg Bool.false_ne_true, ih, List.filter_cons_of_neg (by rw [ht]; exact Bool.false_ne_true)]
    | true =>
      rw [if_pos rfl, h3 ht]
      simp only [Option.bind_some, asD0_val]
      rw [ih, List.filter_cons_of_pos ht]
      rfl
theorem clpL_all {α : Type} {p : Pat} {te : EF} {env : Sl} {m : M} (enc : α → D) (F : α → D) (l : List α)
    (h : ∀ a ∈ l, ∃ e, bindP p (enc a) env = some e ∧ te e m = some (.val (F a), m)) : clpL p tTrue te env (l.map enc) m = some (l.map F, m) := by
  have := clpL_map (p := p) (tt := tTrue) (te := te) (env := env) (m := m) enc (fun _ => true) F l fun a ha => by
    obtain ⟨e, h1, h2⟩ := h a ha
    exact ⟨e, h1, rfl, fun _ => h2⟩
  rw [this, List.filter_eq_self.mpr fun _ _ => rfl]
/-- with a store that moves on -/
theorem clpL_inv {p : Pat} {te : EF} {env : Sl} (I : M → Prop) (P : D → Prop) : ∀ (ds : List D) (m : M), I m →
    (∀ d ∈ ds, ∀ m, I m → ∃ e d' m', bindP p d env = some e ∧ te e m = some (.val d', m') ∧ P d' ∧ I m') → ∃ ds' m', clpL p tTrue te env ds m = some (ds', m') ∧ ds'.length = ds.length ∧ (∀ d ∈ ds', P d) ∧ I m'
  | [], m, hI, _ => ⟨[], m, rfl, rfl, (fun d hd => by cases hd), hI⟩
  | d :: ds, m, hI, h => by
    obtain ⟨e, d', m1, h1, h2, hP, hI1⟩ := h d List.mem_cons_self m hI
    obtain ⟨ds', m2, h3, hl, hPs, hI2⟩ := clpL_inv (p := p) (te := te) (env := env) I P ds m1 hI1 fun b hb => h b (List.mem_cons_of_mem _ hb)
    refine ⟨d' :: ds', m2, ?_, by rw [List.length_cons, List.length_cons, hl], fun x hx => ?_, hI2⟩
    · unfold clpL
      rw [h1]
      simp only [Option.bind_some]
      rw [show tTrue e m = some (true, m) from rfl]
      simp only [Option.bind_some, if_true]
      rw [h2]
      simp only [Option.bind_some, asD0_val]
      rw [h3]
      rfl
    · rcases List.mem_cons.mp hx with q | q
      · rw [q]; exact hP
      · exact hPs x q
end Ev

set_option Elab.async false
set_option linter.all false
set_option maxRecDepth 100000
/-! sorted(xs). -/
namespace Ev
open PySem PySem.Spec PyProof.Rows L2
/-- what sorted takes: all alike; all tuples that hold something, or none a tuple or None -/
def sortableB (ds : List D) : Bool := (ds.all fun x => ds.all fun y => PySem.W.alike x y) && ((ds.all fun x => match x with
  | .tuple (_ :: _) => true
  | _ => false) || ds.all fun x => match x with
  | .none => false
  | .tuple _ => false
  | _ => true)
theorem sortable_ok {ds : List D} (h : sortableB ds = true) : PySem.W.AllAlike ds ∧ PySem.W.Sortable ds := by
  unfold sortableB at h
  rw [Bool.and_eq_true, Bool.or_eq_true, List.all_eq_true, List.all_eq_true, List.all_eq_true] at h
  refine ⟨fun x hx y hy => List.all_eq_true.mp (h.1 x hx) y hy, ?_⟩
  rcases h.2 with q | q
  · refine .inl fun d hd => ?_
    have z := q d hd
    split at z
    · exact ⟨_, _, rfl⟩
    · cases z
  · refine .inr fun d hd => ⟨fun e => ?_, fun xs e => ?_⟩
    · have z := q d hd
      rw [e] at z
      cases z
    · have z := q d hd
      rw [e] at z
      cases z
def sortD (ds : List D) : List D := ds.mergeSort (PySem.W.dataLe false id)
def pSorted : PF := p1 fun r m => (asL r m).bind fun ds => if (sortableB ds && smallAll ds && decide (ds.length ≤ sizeLine)) = true then some (.val (.list (sortD ds)), m) else none
theorem each_of {K : PySem.W.Frag} {H : Hp} : ∀ {ds : List D} {xs : List V} {its : List Value}, DpAll K H xs ds → Vals xs its → PySem.W.EachIs (fun v d => ∃ x : V, RelV x v ∧ Dp K H x d) its ds
  | [], [], [], _, _ => .nil
  | _ :: _, _ :: _, _ :: _, .cons a t, .cons r u => .cons ⟨_, r, a⟩ (each_of t u)
theorem of_each {K : PySem.W.Frag} {H : Hp} : ∀ {ds : List D} {its : List Value}, PySem.W.EachIs (fun v d => ∃ x : V, RelV x v ∧ Dp K H x d) its ds → ∃ xs : List V, Vals xs its ∧ DpAll K H xs ds
  | [], [], _ => ⟨[], .nil, .nil⟩
  | _ :: _, _ :: _, .cons ⟨x, r, a⟩ t => by
    obtain ⟨xs, u, w⟩ := of_each t
    exact ⟨x :: xs, .cons r u, .cons a w⟩
theorem depth_all {ds : List D} {d : D} (h : d ∈ ds) : d.depth ≤ PyData.depthAll ds := by
  induction ds with
  | nil => cases h
  | cons e ds ih =>
    show d.depth ≤ max e.depth (PyData.depthAll ds)
    rcases List.mem_cons.mp h with q | q
    · rw [q]; omega
    · have := ih q
      omega
section
variable {X : Cx} {k : Nat}
theorem c_sorted (hr : Room k X.A) : CallR X (.builtin "sorted") (rsP ζ X.K pSorted) := c_one fun pins s σ H v us Q φ m a r m' I rx S ra hf kk => by
  obtain ⟨ds, h1, hf⟩ := bind_some_iff hf
  split at hf
  · rename_i hc
    cases hf
    rw [Bool.and_eq_true, Bool.and_eq_true] at hc
    obtain ⟨⟨c1, c2⟩, c3⟩ := hc
    obtain ⟨hal, hso⟩ := sortable_ok c1
    have hsm := of_decide_eq_true c2
    have hlen := of_decide_eq_true c3
    obtain ⟨p, xs, rfl, hs, hd⟩ := seqL_of S ra h1
    obtain ⟨u, rfl, ru⟩ := one_val rx
    cases ru
    obtain ⟨its, rv, hl, hz⟩ := I.list hs
    have hun := hr.un
    have e1 := each_of hd rv
    have er : PySem.W.EachIs (fun v b => ∃ as, Reads s.heap v (id b) as) its ds := e1.mono fun v d ⟨x, r, q⟩ => Dp.reads I _ _ _ (dp_mono off_same q) r
    refine PySem.W.sorted_data (enc := id) hl.isList e1 er (by rw [List.map_id]; exact hal) (by rw [List.map_id]; exact hso) hlen (fun b hb => ?_) fun out ho eo => ?_
    · have := depth_all hb
      show X.A.units + 2 + b.depth < cLine
      omega
    · obtain ⟨ys, rv2, hd2⟩ := of_each eo
      obtain ⟨e, he⟩ := sortedAll_at s.heap its (List.toArray out)
      have hp : H (s.heap.objs.size + 1) = none := I.hok.fresh (Nat.le_succ _)
      have hyl : ys.length = out.length := rv2.length
      have I2 : Inv X pins σ (upd H (s.heap.objs.size + 1) (.lst ys)) { s with heap := sortedAll s.heap its (List.toArray out), toks := s.toks } := I.laid (o := .lst ys) (fun b ob q => sortedAll_old q) (Nat.le_succ _) ⟨by rw [hyl, ho]; exact hlen, out, e, rv2, he⟩
      exact ⟨.ref _, _, I2, rfl, kk φ _ _ (gr_alloc hp) (S.alloc hp) (rr_newL S hp hd2)⟩
  · cases hf
end
theorem bt_sorted : bootBuiltins "sorted" = some (.builtin "sorted") := by decide +kernel
end Ev

set_option Elab.async false
set_option linter.all false
set_option maxRecDepth 100000
/-! three names at once; list.remove. -/
namespace Ev
open PySem PySem.Spec PyProof.Rows L2
def sPar3 (i j l : Nat) (f : AF) : SF := fun env m => (f env m).bind fun x => match x.1 with
  | [a, b, c] => some (.nx (((env.set i (some a)).set j (some b)).set l (some c)) x.2)
  | _ => none
section
variable {X : Cx} {fa : AF} {pos : Pos}
theorem s_par3 {i j l : Nat} {x y z : Str} {a b c : Expr} {px py pz pt : Pos} {kt k2 : Nat} {pt2 : Pos} (hc : X.calm = true) (hN : X.N.Nodup) (hi : X.N[i]? = some x) (hj : X.N[j]? = some y) (hl : X.N[l]? = some z) (hij : i ≠ j) (hil : i ≠ l) (hjl : j ≠ l)
    (hx : X.env.scope.names.lookup x = some .local) (hy : X.env.scope.names.lookup y = some .local) (hz : X.env.scope.names.lookup z = some .local) (ha : PA X [a, b, c] (tA ζ X.K fa))
    (hw : swappedStores [.Tuple [.Name x px, .Name y py, .Name z pz] kt pt] (.Tuple [a, b, c] k2 pt2) X.env = pure (some [x, y, z]))
    (hs : swapsWithSole [.Tuple [.Name x px, .Name y py, .Name z pz] kt pt] (.Tuple [a, b, c] k2 pt2) pos.line X.env = pure false := by rfl) :
    PS X (.Assign [.Tuple [.Name x px, .Name y py, .Name z pz] kt pt] (.Tuple [a, b, c] k2 pt2) pos) (tS ζ X.K (sPar3 i j l fa)) := ps_imp (ps_par3 hc hN hi hj hl hij hil hjl hx hy hz ha hw hs) fun W σ H q => by
  obtain ⟨φ, env, m, fl, S, E, hf, k⟩ := q
  obtain ⟨⟨rs, m1⟩, h1, hf⟩ := bind_some_iff hf
  simp only at hf
  split at hf
  · cases hf
    refine ⟨φ, env, m, _, m1, S, E, h1, fun φ1 H1 vs g1 S1 R1 => ?_⟩
    cases R1 with
    | cons a1 t1 =>
      cases t1 with
      | cons a2 t2 =>
        cases t2 with
        | cons a3 t3 =>
          cases t3
          exact ⟨_, _, _, rfl, k φ1 _ H1 g1 S1 ((((E.mono g1).set a1 i).set a2 j).set a3 l)⟩
  · cases hf
end
/-- the first place of x -/
def placeI (x : Int) : List Int → Option Nat
  | [] => none
  | y :: ys => if y = x then some 0 else (placeI x ys).bind fun j => some (j + 1)
theorem placeI_at {x : Int} : ∀ {ns : List Int} {j : Nat}, placeI x ns = some j → ns[j]? = some x ∧ ∀ i : Nat, i < j → ns[i]? ≠ some x
  | [], j, h => by cases h
  | y :: ys, j, h => by
    unfold placeI at h
    split at h
    · rename_i e
      cases h
      subst e
      exact ⟨rfl, fun i hi => absurd hi (Nat.not_lt_zero _)⟩
    · rename_i e
      obtain ⟨i, h1, h⟩ := bind_some_iff h
      cases h
      obtain ⟨a, b⟩ := placeI_at h1
      refine ⟨by simpa using a, fun q hq => ?_⟩
      cases q with
      | zero => simpa using e
      | succ q => simpa using b q (Nat.lt_of_succ_lt_succ hq)
def pRemove : MF := fun r rs m => match r, rs with
  | .ref k, [.val (.int x)] => (m[k]?).bind fun o => match o with
    | .lst ds => (asIs ds).bind fun ns => (placeI x ns).bind fun j => some (.val .none, m.set k (.lst ((ns.eraseIdx j).map PyData.int)))
    | .dct _ _ _ => none
  | _, _ => none
section
variable {X : Cx} {k : Nat}
theorem m_remove : MtR X "list.remove" (rmP ζ X.K pRemove) := by
  intro pins s σ H x xs v us Q I rx rxs h
  obtain ⟨φ, m, r0, rs, r, m', S, R0, RS, hf, kk⟩ := h
  unfold pRemove at hf
  split at hf
  · rename_i k y
    obtain ⟨ob, ho, hf⟩ := bind_some_iff hf
    cases ob with
    | dct t lk kvs => cases hf
    | lst ds =>
      obtain ⟨ns, h1, hf⟩ := bind_some_iff hf
      obtain ⟨j, h2, hf⟩ := bind_some_iff hf
      cases hf
      have e := asIs_eq h1
      subst e
      obtain ⟨a, rfl, ha⟩ := R0
      obtain ⟨zs, h3, h4⟩ := S.obj k _ a ho ha
      have ez := ints_of_dpAll h4
      subst ez
      obtain ⟨e1, e2⟩ := placeI_at h2
      have hin : a ∈ φ.s := List.mem_of_getElem? ha
      cases RS with
      | cons r1 t1 =>
        cases t1
        have e3 := rr_int r1
        subst e3
        exact mt_remove pins s σ H _ _ v us Q I rx rxs ⟨a, ns, y, j, rfl, rfl, h3, e1, e2, kk φ _ _ (gr_write hin (S.apart hin) (nf_lst h3)) (S.write ha (dpAll_ints _)) Dp.non⟩
  · cases hf
end
end Ev

set_option Elab.async false
set_option linter.all false
set_option maxRecDepth 100000
/-! list(range(..)), tuple(range(..)). -/
namespace Ev
open PySem PySem.Spec PyProof.Rows L2
theorem rgV_dp {K : PySem.W.Frag} {H : Hp} (a b : Int) : DpAll K H (rgV a b) (rngD a (b - a).toNat) := by
  unfold rgV rngD
  have : ∀ l : List Nat, DpAll K H (l.map fun i => V.int (a + (i : Nat))) (l.map fun j : Nat => PyData.int (a + (j : Int))) := by
    intro l
    induction l with
    | nil => exact .nil
    | cons x l ih => exact .cons (.int _) ih
  exact this _
def rgOkB (a b : Int) : Bool := decide (-(2 ^ 62) ≤ a ∧ a < 2 ^ 62 ∧ -(2 ^ 62) ≤ b ∧ b < 2 ^ 62 ∧ (b - a).toNat ≤ 2 ^ 24)
theorem rgOk_of {a b : Int} (h : rgOkB a b = true) : RgOk a b := of_decide_eq_true (p := -(2 ^ 62) ≤ a ∧ a < 2 ^ 62 ∧ -(2 ^ 62) ≤ b ∧ b < 2 ^ 62 ∧ (b - a).toNat ≤ 2 ^ 24) h
/-- range(b), range(a, b) as data -/
def nRg1 (f : EF) : NF := fun env m => (f env m).bind fun x => (asI x.1).bind fun b => if rgOkB 0 b = true then some (rngD 0 (b - 0).toNat, x.2) else none
def nRg2 (f g : EF) : NF := fun env m => (f env m).bind fun x => (g env x.2).bind fun y => (asI x.1).bind fun a => (asI y.1).bind fun b => if rgOkB a b = true then some (rngD a (b - a).toNat, y.2) else none
def eTupN (f : NF) : EF := fun env m => (f env m).bind fun x => some (.val (.tuple x.1), x.2)
section
variable {X : Cx} {a b : Expr} {f g : EF} {p p2 pos pos2 : Pos}
theorem n_listRg1 (hc : X.calm = true) (hg : Gl X "list") (hm : X.mg "list" = none) (hg2 : Gl X "range") (hm2 : X.mg "range" = none) (ha : PE X a (tE ζ X.K f)) (na : starEach [a] X.env = (false, eval a X.env) :: starEach [] X.env := by rfl)
    (nc : starEach [.Call (.Name "range" p2) [a] [] pos2] X.env = (false, eval (.Call (.Name "range" p2) [a] [] pos2) X.env) :: starEach [] X.env := by rfl) : PE X (.Call (.Name "list" p) [.Call (.Name "range" p2) [a] [] pos2] [] pos) (tN ζ X.K (nRg1 f)) :=
  pe_imp (pe_listRg hc hg hm (prg_1 hg2 hm2 ha na) nc) fun σ H Q q => by
  obtain ⟨φ, env, m, ds, m', S, E, hf, k⟩ := q
  obtain ⟨⟨r, m1⟩, h1, hf⟩ := bind_some_iff hf
  obtain ⟨i, h2, hf⟩ := bind_some_iff hf
  split at hf
  · rename_i hr
    cases hf
    refine ⟨φ, env, m, r, m1, S, E, h1, fun φ1 H1 v g1 S1 R1 => ?_⟩
    have e := asI_some h2
    simp only at e
    subst e
    have e2 := rr_int R1
    subst e2
    exact ⟨i, rfl, rgOk_of hr, fun q hq => k φ1 H1 q _ g1 S1 hq (rgV_dp 0 i)⟩
  · cases hf
theorem n_listRg2 (hc : X.calm = true) (hg : Gl X "list") (hm : X.mg "list" = none) (hg2 : Gl X "range") (hm2 : X.mg "range" = none) (ha : PE X a (tE ζ X.K f)) (hb : PE X b (tE ζ X.K g))
    (na : starEach [a, b] X.env = (false, eval a X.env) :: starEach [b] X.env := by rfl) (nb : starEach [b] X.env = (false, eval b X.env) :: starEach [] X.env := by rfl) (nh : (backTo pos2 (starEach [b] X.env)).any (·.1) = false := by rfl)
    (nc : starEach [.Call (.Name "range" p2) [a, b] [] pos2] X.env = (false, eval (.Call (.Name "range" p2) [a, b] [] pos2) X.env) :: starEach [] X.env := by rfl) : PE X (.Call (.Name "list" p) [.Call (.Name "range" p2) [a, b] [] pos2] [] pos) (tN ζ X.K (nRg2 f g)) :=
  pe_imp (pe_listRg hc hg hm (prg_2 hg2 hm2 ha hb na nb nh) nc) fun σ H Q q => by
  obtain ⟨φ, env, m, ds, m', S, E, hf, k⟩ := q
  obtain ⟨⟨r, m1⟩, h1, hf⟩ := bind_some_iff hf
  obtain ⟨⟨r2, m2⟩, h2, hf⟩ := bind_some_iff hf
  obtain ⟨i, h3, hf⟩ := bind_some_iff hf
  obtain ⟨j, h4, hf⟩ := bind_some_iff hf
  split at hf
  · rename_i hr
    cases hf
    refine ⟨φ, env, m, r, m1, S, E, h1, fun φ1 H1 v g1 S1 R1 => ?_⟩
    refine ⟨φ1, env, m1, r2, m2, S1, E.mono g1, h2, fun φ2 H2 v2 g2 S2 R2 => ?_⟩
    have e3 := asI_some h3
    have e4 := asI_some h4
    simp only at e3 e4
    subst e3 e4
    have e5 := rr_int R1
    have e6 := rr_int R2
    subst e5 e6
    exact ⟨i, j, rfl, rfl, rgOk_of hr, fun q hq => k φ2 H2 q _ (g1.trans g2) S2 hq (rgV_dp i j)⟩
  · cases hf
end
end Ev

set_option Elab.async false
set_option linter.all false
set_option maxRecDepth 100000
set_option maxHeartbeats 1000000
/-! A lambda of one parameter: its context. -/
namespace Ev
open PySem PySem.Spec PyProof.Rows L2 LamX
/-- slots that the lambda's own name hides are masked -/
def mskL {α : Type} : List Bool → List (Option α) → List (Option α)
  | true :: bs, _ :: l => none :: mskL bs l
  | false :: bs, x :: l => x :: mskL bs l
  | [], l => l
  | _, [] => []
theorem mskL_len {α : Type} : ∀ (bs : List Bool) (l : List (Option α)), (mskL bs l).length = l.length
  | true :: bs, _ :: l => by simp [mskL, mskL_len bs l]
  | false :: bs, _ :: l => by simp [mskL, mskL_len bs l]
  | [], l => by cases l <;> rfl
  | true :: _, [] => rfl
  | false :: _, [] => rfl
theorem mskL_get {α : Type} : ∀ {bs : List Bool} {l : List (Option α)} {i : Nat} {x : α}, (mskL bs l)[i]? = some (some x) → l[i]? = some (some x) ∧ bs[i]? ≠ some true
  | true :: bs, _ :: l, 0, x, h => by simp [mskL] at h
  | true :: bs, _ :: l, i + 1, x, h => by
    have := mskL_get (bs := bs) (l := l) (i := i) (by simpa [mskL] using h)
    simpa using this
  | false :: bs, y :: l, 0, x, h => by
    simp only [mskL, List.getElem?_cons_zero] at h ⊢
    exact ⟨h, by simp⟩
  | false :: bs, _ :: l, i + 1, x, h => by
    have := mskL_get (bs := bs) (l := l) (i := i) (by simpa [mskL] using h)
    simpa using this
  | [], l, i, x, h => by
    have e : mskL [] l = l := by cases l <;> rfl
    rw [e] at h
    exact ⟨h, by simp⟩
  | true :: _, [], i, x, h => by simp [mskL] at h
  | false :: _, [], i, x, h => by simp [mskL] at h
/-- one parameter p, no name of its own else: captured ones and globals -/
structure LamP (sc scope : Scope) (p : Str) : Prop where
  kind : scope.kind = .function
  co : scope.isCoroutine = false
  gen : scope.isGenerator = false
  par : scope.names.lookup p = some .local
  nocell : ∀ y ∈ scope.names, y.2 ≠ .cell
  own : ∀ y ∈ scope.names, y.2 = .local → y.1 = p
  free : ∀ y ∈ scope.names, y.2 = .free → sc.names.lookup y.1 = some .cell ∨ sc.names.lookup y.1 = some .free
def lamPB (sc scope : Scope) (p : Str) : Bool :=
  decide (scope.kind = .function) && !scope.isCoroutine && !scope.isGenerator && decide (scope.names.lookup p = some .local) && scope.names.all fun y => !decide (y.2 = .cell) && (!decide (y.2 = .local) || decide (y.1 = p)) && (!decide (y.2 = .free) || decide (sc.names.lookup y.1 = some .cell) || decide (sc.names.lookup y.1 = some .free))
theorem lamP_by {sc scope : Scope} {p : Str} (h : lamPB sc scope p = true) : LamP sc scope p := by
  unfold lamPB at h
  simp only [Bool.and_eq_true, Bool.or_eq_true, Bool.not_eq_true', decide_eq_true_eq, decide_eq_false_iff_not, List.all_eq_true] at h
  obtain ⟨⟨⟨⟨h1, h2⟩, h3⟩, h5⟩, h4⟩ := h
  refine ⟨h1, h2, h3, h5, fun y hy => (h4 y hy).1.1, fun y hy e => ?_, fun y hy e => ?_⟩
  · rcases (h4 y hy).1.2 with z | z
    · exact absurd e z
    · exact z
  · rcases (h4 y hy).2 with (z | z) | z
    · exact absurd e z
    · exact .inl z
    · exact .inr z
theorem LamP.has {X : Cx} {scope : Scope} {p : Str} (L : LamP X.env.scope scope p) (ok : X.Ok) : ∀ y ∈ scope.names, y.2 = .free → ∃ c, X.env.cells.lookup y.1 = some c := fun y hy e => by
  rcases L.free y hy e with k | k
  · exact ok.has _ (.inl k)
  · exact ok.has _ (.inr k)
/-- nothing is wanted of an exception: there is none -/
def noX : XK := fun _ _ _ => False
/-- the context of the lambda's body -/
def lamCxP (X : Cx) (A : Around) (outer : List Env) (s : Shared) (H : Hp) (scope : Scope) (p : Str) (f c' : Addr) : Cx := { LamX.lamCx X A outer s H noX scope f c' with N := p :: X.N }
section
variable {X : Cx} {pins : List (Addr × Obj)} {σ : L2.St} {H : Hp} {s : Shared}
theorem lam_startP {A : Around} {scope : Scope} {p : Str} {f c' : Addr} {h₁ : Heap} {tk : Nat} {bs : List Bool} {v : V} {u : Value} (I : Inv X pins σ H s) (L : LamP X.env.scope scope p) (e0 : Env0 X.prog X.w X.K X.mg X.base A X.stack s H) (hd : A.handled = none)
    (hm : ∀ i : Nat, X.N[i]? = some p → bs[i]? = some true) (r : RelV v u)
    (hns : h₁.Ns s.heap.objs.size fun y => ([(p, u)] : List (Str × Value)).reverse.lookup y) (kp : ∀ b o, s.heap.get? b = some o → h₁.get? b = some o) :
    Inv (lamCxP X A X.stack s H scope p f c') [] (some v :: mskL bs σ) H { s with heap := h₁, toks := tk } := by
  have hfree := L.has I.ok
  have cm : ∀ {y c}, (cloFrom X.env.cells scope.names []).lookup y = some c → X.env.cells.lookup y = some c := fun {y c} e => by
    rcases cloFrom_mem (PySem.mem_of_lookup e) with hm | ⟨h1, h2⟩
    · cases hm
    · obtain ⟨c1, hc⟩ := hfree _ h1 rfl
      have hc : X.env.cells.lookup y = some c1 := hc
      have e2 : c = c1 := by
        rw [h2, hc] <;> rfl
      rw [e2]
      exact hc
  have look : ∀ {y}, scope.names.lookup y = some .free → ∃ c, (cloFrom X.env.cells scope.names []).lookup y = some c := fun {y} hl => by
    have hy : (y, NameKind.free) ∈ scope.names := PySem.mem_of_lookup hl
    exact mem_lookup (cloFrom_has (cells := X.env.cells) (acc := []) hy)
  have cellK : ∀ {c : Addr} {v : Option Value}, s.heap.IsCell c v → h₁.IsCell c v := fun {c v} ⟨o, ho, hd⟩ => ⟨o, kp _ _ ho, hd⟩
  have noA : ∀ b : Addr, b ∉ (lamCxP X A X.stack s H scope p f c').ex := fun b z => absurd (show b ∈ ([] : List Addr) from z) (by simp)
  refine ⟨⟨e0.mod, L.kind, rfl, rfl, Nat.le_refl _, fun y z c e1 e2 => I.ok.inj y z c (cm e1) (cm e2), fun y hy => ?_, fun y c z _ => ?_, fun _ => hd, Around.frames_deeper e0.frames, .inr ⟨rfl, rfl⟩, fun b z => absurd z (noA b), e0.bs, e0.bsz, fun b _ _ => noA b,
      fun b z => absurd z (noA b), e0.funs, e0.frf⟩,
    rfl, e0.bare, Un.kept kp, ⟨_, hns, fun i y w e1 e2 e3 => ?_⟩, fun y c e => ?_, e0.hok.fresh (Nat.le_refl _), fun y c e => ?_, fun q hq => absurd (show q ∈ ([] : List (Addr × Obj)) ++ [] from hq) (by simp), e0.hok.kept kp, ?_⟩
  · have hy : scope.names.lookup y = some .cell ∨ scope.names.lookup y = some .free := hy
    rcases hy with hy | hy
    · exact absurd rfl (L.nocell _ (PySem.mem_of_lookup hy))
    · exact look hy
  · have z : false = true := z
    cases z
  · have e1 : (p :: X.N)[i]? = some y := e1
    have e3 : Vis scope y := e3
    cases i with
    | zero =>
      simp only [List.getElem?_cons_zero, Option.some.injEq] at e1 e2
      subst e1
      subst e2
      exact ⟨u, r, .inl ⟨L.par, by simp⟩⟩
    | succ i =>
      simp only [List.getElem?_cons_succ] at e1 e2
      obtain ⟨e2, hb⟩ := mskL_get e2
      have np : y ≠ p := fun z => hb (hm i (z ▸ e1))
      rcases e3 with k | k | k
      · exact absurd (L.own _ (PySem.mem_of_lookup k) rfl) np
      · exact absurd rfl (L.nocell _ (PySem.mem_of_lookup k))
      · obtain ⟨m, hn, hl⟩ := I.loc
        have hvis : Vis X.env.scope y := (L.free _ (PySem.mem_of_lookup k) rfl).elim (fun k => .inr (.inl k)) (fun k => .inr (.inr k))
        obtain ⟨w', r, q⟩ := hl i y w e1 e2 hvis
        obtain ⟨c2, h2⟩ := look k
        refine ⟨w', r, .inr ⟨.inr k, c2, h2, ?_⟩⟩
        have c1 := cm h2
        rcases q with ⟨k', _⟩ | ⟨_, c3, e', z⟩
        · have k' : X.env.scope.names.lookup y = some .local := k'
          rcases L.free _ (PySem.mem_of_lookup k) rfl with k2 | k2 <;> rw [show X.env.scope.names.lookup y = _ from k2] at k' <;> cases k'
        · rw [c1] at e'
          cases e'
          exact cellK z
  · obtain ⟨w', z⟩ := I.cell y c (cm e)
    exact ⟨w', cellK z⟩
  · exact I.freeC y c (cm e)
  · show (some v :: mskL bs σ).length = (p :: X.N).length
    rw [List.length_cons, List.length_cons, mskL_len, I.len]
/-- the lambda is called -/
theorem lam_callP {A : Around} {scope : Scope} {p : Str} {f c' : Addr} {params : Arguments} {body : Expr} {pm ctv : Value} {bs : List Bool} {v : V} {u : Value} {k : Nat} {Q : VK} {tb : TE} (I : Inv X pins σ H s) (L : LamP X.env.scope scope p) (e0 : Env0 X.prog X.w X.K X.mg X.base A X.stack s H)
    (hr : Room (k + 1) A) (hm : ∀ i : Nat, X.N[i]? = some p → bs[i]? = some true) (r : RelV v u)
    (hf : s.heap.get? f = some (PySem.W.kla_obj "<lambda>" (X.env.qual ++ "<lambda>") params body scope (cloFrom X.env.cells scope.names []) pm c' ctv)) (hco : H c' = some (CodeO c' (X.env.qual ++ "<lambda>")))
    (hbind : bindArgs (PySem.W.kla_fn "<lambda>" (X.env.qual ++ "<lambda>") params body scope (cloFrom X.env.cells scope.names []) pm (.ref c') ctv) ⟨[u], []⟩ = pure [(p, u)])
    (hbody : Room k (A.deeper (lamEnv X scope s.heap.objs.size f c')) → PE (lamCxP X A X.stack s H scope p f c') body tb) (ht : tb (some v :: mskL bs σ) H Q) :
    codeAny (model X.prog X.w) A (.call (.ref f) ⟨[u], []⟩) (CR (L2.CX X.prog X.w) X.stack X.prog X.w H s Q noX) s := by
  obtain ⟨⟨oc, vs, t, hoc, hdc, hvc⟩, _, _⟩ := I.hok c' _ hco
  refine PySem.W.kla_callFunE hr.depth hf rfl L.co L.gen rfl ⟨c', oc, vs, t, rfl, hoc, hdc, hvc⟩ ?_
  rw [hbind]
  refine wpAny_pure (wpAny_newFunctionEnv L.nocell (fun y hy => ?_) (fun h₁ hns hsb => ⟨I.nolimit.fresh _ hsb, ?_⟩) L.kind)
  · rw [List.mem_singleton.mp hy]
    exact L.par
  show codeAny _ _ (.expr body (lamEnv X scope s.heap.objs.size f c')) _ _
  have kp : ∀ b o, s.heap.get? b = some o → h₁.get? b = some o := fun b o e => hsb.extBut b o (Nat.ne_of_lt (Heap.lt_size e)) (Heap.get?_push_of_some _ e)
  have J : Inv (lamCxP X A X.stack s H scope p f c') [] (some v :: mskL bs σ) H { s with heap := h₁, toks := s.toks + ([(p, u)] : List (Str × Value)).length } := lam_startP I L e0 hr.hd hm r hns kp
  refine PySem.W.kla_codeExpr (wpAny_mono ((hbody (hr.deeper _)).run [] _ _ H Q J ht) (fun v s' hq => ?_) fun e s' hq => hq)
  obtain ⟨w', H', J', rv, q⟩ := hq
  exact ⟨w', H', J'.os, J'.bare, J'.base, J'.hok, rv, q⟩
theorem noX_cx {P : Program} {w : World} {outer : List Env} {H : Hp} {s s' : Shared} {u : Value} (h : L2.CX P w outer H s noX u s') : False := by
  obtain ⟨a, B, H', cls, d, _, _, _, _, _, _, _, q⟩ := h
  exact q
end
end Ev

set_option Elab.async false
set_option linter.all false
set_option maxRecDepth 100000
set_option maxHeartbeats 1000000
/-! sorted(xs, key=f): f may do what it likes with the store. -/
namespace PySem.W
open PySem PySem.Calls PyProof.Rows
section
variable {prog : Program} {w : World} {A : Around} {E : Value → Shared → Prop} {s : Shared} {a kS : Addr} {b : Bool} {vs : List Value} {e1 : Nat} {P : PySem.Fin → Shared → Prop}
theorem keyI_rest {f : Value} {J : Nat → Array Value → Shared → Prop} (h0 : J 0 #[] s) (nk : s.heap.get? kS = some (seqObj "list" #[] 0)) (na : s.heap.get? a = some (seqObj "list" #[] e1)) (hka : kS ≠ a) (hZ : vs.length ≤ sizeLine)
    (turn : ∀ (i : Nat) (v : Value) (keys : Array Value) (e : Nat) (s' : Shared), vs[i]? = some v → J i keys s' → s'.heap.get? kS = some (seqObj "list" keys e) → s'.heap.get? a = some (seqObj "list" #[] e1) →
      wpAny (model prog w) A (call f [v]) (fun k s'' => s''.heap.get? kS = some (seqObj "list" keys e) ∧ s''.heap.get? a = some (seqObj "list" #[] e1) ∧ ∀ h', Heap.SameBut kS s''.heap h' → (∃ o, h'.get? kS = some o) → J (i + 1) (keys.push k) { s'' with heap := h' }) (fun _ _ => False) s')
    (done : ∀ (keys : Array Value) (e : Nat) (s' : Shared), J vs.length keys s' → s'.heap.get? kS = some (seqObj "list" keys e) → s'.heap.get? a = some (seqObj "list" #[] e1) → keys.size = vs.length →
      ∃ kz : List PyData, EachIs (fun v k => ∃ as, Reads s'.heap v k as) keys.toList kz ∧ AllAlike kz ∧ Sortable kz ∧ (∀ d, d ∈ kz → A.units + d.depth < cLine) ∧
        ∀ h' tk out c, (∀ b o, b ≠ a → b ≠ kS → s'.heap.get? b = some o → h'.get? b = some o) → h'.get? a = some (seqObj "list" (List.toArray out) c) → KeyedOut b kz vs out → P (.done (.ret .none)) { s' with heap := h', toks := tk }) :
    wpAny (model prog w) A (ksk_rest a f b vs.toArray e1 (.ref kS)) P E s := by
  unfold ksk_rest
  refine wpAny_bind (wpAny_rule ?_)
  first
    | rw [List.forIn_toArray]
    | (rw [← Array.forIn_toList]; simp only [List.toList_toArray])
    | rw [← Array.forIn_toList]
  refine wpAny_bind (ksk_fold (fun i s' => ∃ kA e, J i kA s' ∧ kA.size = i ∧ s'.heap.get? kS = some (seqObj "list" kA e) ∧ s'.heap.get? a = some (seqObj "list" #[] e1)) vs 0 s
    ⟨#[], 0, h0, rfl, nk, na⟩ ?step ?done)
  case step =>
    rintro j x s' hx ⟨kA, e, hJ, hsz, nk', na'⟩
    simp only [Nat.zero_add] at hJ hsz ⊢
    have hj : j < vs.length := (List.getElem?_eq_some_iff.mp hx).1
    have hz : kA.size ≤ vs.length := by omega
    refine wpAny_bind (wpAny_attempt (wpAny_mono (turn j x kA e s' hx hJ nk' na') (fun v s'' he => ?_) fun _ _ hF => hF.elim))
    obtain ⟨nk2, na2, hn⟩ := he
    try dsimp only
    have s1 := Heap.SameBut.update s''.heap kS (Obj.mapSeq (·.push v))
    obtain ⟨c2, hc2⟩ : ∃ c2, (s''.heap.update kS (Obj.mapSeq (·.push v))).get? kS = some (seqObj "list" (kA.push v) c2) := ⟨_, get?_update_seq nk2 (·.push v)⟩
    refine wpAny_bind (listUpdate_at nk2 rfl ?_ (Nat.le_trans hz hZ) (Nat.le_trans (Nat.le_of_eq (Array.size_push ..)) (Nat.succ_le_succ (Nat.le_trans hz hZ))))
    refine wpAny_pure ⟨rfl, kA.push v, c2, hn _ s1 ⟨_, hc2⟩, ?_, hc2, (s1.2 a hka.symm).trans na2⟩
    rw [Array.size_push, hsz]
  case done =>
    rintro s' ⟨kA, e, hJ, hsz, nk', na'⟩
    rw [Nat.zero_add] at hJ hsz
    obtain ⟨kz, hk, hal, hsk, hu, fin⟩ := done kA e s' hJ nk' na' hsz
    try dsimp only
    refine wpAny_bind (listItems_at nk' rfl ?_)
    have hs : ∀ b, b ∈ ([kS] : List Addr) → b = kS := fun b hb => List.mem_singleton.mp hb
    have hg : ∀ b o, (hideAll s'.heap [kS]).get? b = some o → s'.heap.get? b = some o := fun b o q => of_hideAll [kS] q
    have kp : KeepsBut a (hideAll s'.heap [kS]) s'.heap := fun b o _ q => hg b o q
    have hkS : (hideAll s'.heap [kS]).get? kS = none := hideAll_none [kS] (by simp)
    have hd : EachIs (fun v k => ∃ as, Reads s'.heap v k as) kA.toList kz := hk
    refine keyH_end (κ := dataKind s'.heap kz) (h₁ := hideAll s'.heap [kS]) kp hkS nk' na' hka (SortsAt.data (s := s') hk hal hsk hu) hsz hZ fun h3 tk3 c k3 n3 => ?_
    exact fin h3 tk3 _ c (fun b o h1 h2 q => k3 b o h1 (hideAll_get _ q (by simpa using h2))) n3 ⟨s'.heap, kA.toList, hal, rfl, hk⟩
theorem keyI_tree {f : Value} {n : Nat} {J : Nat → Array Value → Shared → Prop} (ho : s.heap.get? a = some (seqObj "list" vs.toArray n)) (hZ : vs.length ≤ sizeLine)
    (h0 : ∀ h' e1, (∀ b o, b ≠ a → s.heap.get? b = some o → h'.get? b = some o) → h'.get? a = some (seqObj "list" #[] e1) → h'.get? (s.heap.objs.size + 1) = some (seqObj "list" #[] 0) → J 0 #[] { s with heap := h' })
    (turn : ∀ (i : Nat) (v : Value) (keys : Array Value) (e e1 : Nat) (s' : Shared), vs[i]? = some v → J i keys s' → s'.heap.get? (s.heap.objs.size + 1) = some (seqObj "list" keys e) → s'.heap.get? a = some (seqObj "list" #[] e1) →
      wpAny (model prog w) A (call f [v]) (fun k s'' => s''.heap.get? (s.heap.objs.size + 1) = some (seqObj "list" keys e) ∧ s''.heap.get? a = some (seqObj "list" #[] e1) ∧ ∀ h', Heap.SameBut (s.heap.objs.size + 1) s''.heap h' → (∃ o, h'.get? (s.heap.objs.size + 1) = some o) → J (i + 1) (keys.push k) { s'' with heap := h' }) (fun _ _ => False) s')
    (done : ∀ (keys : Array Value) (e : Nat) (s' : Shared), J vs.length keys s' → s'.heap.get? (s.heap.objs.size + 1) = some (seqObj "list" keys e) → keys.size = vs.length →
      ∃ kz : List PyData, EachIs (fun v k => ∃ as, Reads s'.heap v k as) keys.toList kz ∧ AllAlike kz ∧ Sortable kz ∧ (∀ d, d ∈ kz → A.units + d.depth < cLine) ∧
        ∀ h' tk out c, (∀ b o, b ≠ a → b ≠ s.heap.objs.size + 1 → s'.heap.get? b = some o → h'.get? b = some o) → h'.get? a = some (seqObj "list" (List.toArray out) c) → KeyedOut b kz vs out → P (.done (.ret .none)) { s' with heap := h', toks := tk }) :
    wpAny (model prog w) A (ksk_tree a f b) P E s := by
  have ha : a < s.heap.objs.size := Heap.lt_size ho
  obtain ⟨e1, ho1⟩ : ∃ e1, (s.heap.update a (Obj.mapSeq fun _ => (#[] : Array Value))).get? a = some (seqObj "list" #[] e1) := ⟨_, get?_update_seq ho fun _ => #[]⟩
  have hkS : ((s.heap.update a (Obj.mapSeq fun _ => (#[] : Array Value))).push (seqObj "tuple" vs.toArray 0)).objs.size = s.heap.objs.size + 1 := by rw [size_push', Heap.size_update]
  unfold ksk_tree
  refine wpAny_bind (listItems_at ho rfl ?_)
  refine wpAny_bind (listUpdate_at ho rfl ?_ (by rw [List.size_toArray]; exact hZ) (Nat.zero_le _))
  refine wpAny_bind (seqEpoch_at ho1 rfl ?_)
  refine wpAny_bind (wpAny_newTuple ?_ (by show vs.length ≤ _; exact hZ))
  refine wpAny_bind (wpAny_newList ?_ (Nat.zero_le _))
  refine wpAny_holding ?_
  have kp : ∀ b o, b ≠ a → s.heap.get? b = some o → (sortingHeap s.heap a vs).get? b = some o := fun b o hb q => sortingHeap_old hb q
  have hk2 : (((s.heap.update a (Obj.mapSeq fun _ => (#[] : Array Value))).push (seqObj "tuple" vs.toArray 0)).push (seqObj "list" #[] 0)).get? (s.heap.objs.size + 1) = some (seqObj "list" #[] 0) := by
    rw [← hkS]
    exact Heap.get?_push_size _ rfl
  have ha2 : (((s.heap.update a (Obj.mapSeq fun _ => (#[] : Array Value))).push (seqObj "tuple" vs.toArray 0)).push (seqObj "list" #[] 0)).get? a = some (seqObj "list" #[] e1) := Heap.get?_push_of_some _ (Heap.get?_push_of_some _ ho1)
  have J0 := h0 (((s.heap.update a (Obj.mapSeq fun _ => (#[] : Array Value))).push (seqObj "tuple" vs.toArray 0)).push (seqObj "list" #[] 0)) e1 kp ha2 hk2
  rw [hkS]
  exact keyI_rest (J := J) (s := { s with heap := ((s.heap.update a (Obj.mapSeq fun _ => (#[] : Array Value))).push (seqObj "tuple" vs.toArray 0)).push (seqObj "list" #[] 0) }) (kS := s.heap.objs.size + 1) J0 hk2 ha2
    (Nat.ne_of_gt (Nat.lt_succ_of_lt ha)) hZ (fun i v keys e s' h1 h2 h3 h4 => turn i v keys e e1 s' h1 h2 h3 h4) fun keys e s' h1 h2 _ h4 => done keys e s' h1 h2 h4
end
end PySem.W

set_option Elab.async false
set_option linter.all false
set_option maxRecDepth 100000
set_option maxHeartbeats 1000000
/-! sorted(.., key=lambda p: ..). -/
namespace PySem.W
open PySem PySem.Calls PyProof.Rows
section
variable {prog : Program} {w : World} {A : Around} {E : Value → Shared → Prop} {s : Shared}
/-- sorted(xs, ..): the items collected, a new list of them sorted -/
theorem sorted_of_collect {u : Value} {kw : List (Str × Value)} {Q : Value → Shared → Prop} (ha1 : argsOk "sorted" ⟨[u], kw⟩) (ha2 : ∀ x, argsOk "list.sort" ⟨[.ref x], kw⟩)
    (body : ∀ E' : Value → Shared → Prop, wpAny (model prog w) A.in1 (collect u) (fun vs s1 => vs.length ≤ sizeLine ∧
      ∀ h2 c, (∀ b o, s1.heap.get? b = some o → h2.get? b = some o) → h2.objs.size = s1.heap.objs.size + 1 → h2.get? s1.heap.objs.size = some (seqObj "list" vs.toArray c) →
        ∀ E2 : Value → Shared → Prop, wpAny (model prog w) A.in1.in1 (Builtin.«list.sort» ⟨[.ref s1.heap.objs.size], kw⟩) (fun f s' => f = .done (.ret .none) ∧ Q (.ref s1.heap.objs.size) s') E2 { s1 with heap := h2 }) E' s) :
    wpAny (model prog w) A (call (.builtin "sorted") [u] kw) Q E s := by
  refine call_function_entry_kw kind_sorted plain_sorted entry_sorted ha1 ?_
  unfold Builtin.«sorted»
  refine wpAny_bind (m := checkCount "sorted" 1 1 _) (wpAny_pure ?_)
  refine wpAny_bind (wpAny_mono (body _) (fun vs s1 hq => ?_) fun _ _ e => e)
  obtain ⟨hL, hb⟩ := hq
  refine wpAny_bind (wpAny_newList ?_ hL)
  have hat : (s1.heap.push (seqObj "list" vs.toArray 0)).get? s1.heap.objs.size = some (seqObj "list" vs.toArray 0) := Heap.get?_push_size _ rfl
  refine wpAny_bind (wpAny_holding (wpAny_call_entry_kw slot_list_sort ⟨_, hat, rfl⟩ entry_list_sort ?body (ha2 _)))
  case body =>
    refine wpAny_mono (hb (s1.heap.push (seqObj "list" vs.toArray 0)) 0 (fun b o q => Heap.get?_push_of_some _ q) (size_push' _ _) hat _) (fun f s' hf => ?_) fun _ _ e => e
    obtain ⟨rfl, hq⟩ := hf
    exact ⟨_, rfl, wpAny_pure ⟨_, rfl, hq⟩⟩
end
end PySem.W
namespace Ev
open PySem PySem.Spec PyProof.Rows L2 LamX
/-- a lambda at f that is there, with its body's reading -/
structure LamAt (ζ : Tbs) (X : Cx) (k : Nat) (bs : List Bool) (fb : EF) (p : Str) (f : Addr) (s : Shared) (H : Hp) : Prop where
  call : ∀ {pins : List (Addr × Obj)} {σ : L2.St} {H' : Hp} {s' : Shared} {φ : Ad} {env : Sl} {m m1 : M} {r r1 : R} {v : V} {u : Value} {A : Around}, Inv X pins σ H' s' → Env0 X.prog X.w X.K X.mg X.base A X.stack s' H' → Room (k + 1) A →
    (s.heap.get? f = s'.heap.get? f) → (∀ c q, H c = some (CodeO c q) → H' c = some (CodeO c q)) → RelV v u → SR ζ X.K φ H' m → ER X.K φ H' σ env → RR X.K φ H' v r → fb (some r :: mskL bs env) m = some (r1, m1) →
      wpAny (model X.prog X.w) A (PySem.call (.ref f) [u]) (fun k s'' => ∃ x φ2 H'', RelV x k ∧ Inv X pins σ H'' s'' ∧ Un (frs X.stack) [] H' H'' s'.heap s''.heap ∧ Gr φ H' φ2 H'' ∧ SR ζ X.K φ2 H'' m1 ∧ RR X.K φ2 H'' x r1) (fun _ _ => False) s'
  free : H f = none
  nofr : f ∉ frs X.stack
  here : ∃ o, s.heap.get? f = some o
theorem er_msk {K : PySem.W.Frag} {φ : Ad} {H : Hp} {σ : L2.St} {env : Sl} {v : V} {r : R} (E : ER K φ H σ env) (h : RR K φ H v r) (bs : List Bool) : ER K φ H (some v :: mskL bs σ) (some r :: mskL bs env) := by
  refine ⟨by rw [List.length_cons, List.length_cons, mskL_len, mskL_len, E.len], fun i q e => ?_⟩
  cases i with
  | zero =>
    simp only [List.getElem?_cons_zero, Option.some.injEq] at e
    subst e
    exact ⟨v, rfl, h⟩
  | succ i =>
    rw [List.getElem?_cons_succ] at e
    obtain ⟨e1, nb⟩ := mskL_get e
    obtain ⟨w, e2, e3⟩ := E.at_ i q e1
    refine ⟨w, ?_, e3⟩
    rw [List.getElem?_cons_succ]
    have : ∀ (bs : List Bool) (l : L2.St) (i : Nat) (w : V), l[i]? = some (some w) → bs[i]? ≠ some true → (mskL bs l)[i]? = some (some w) := by
      intro bs
      induction bs with
      | nil =>
        intro l i w e _
        have z : mskL [] l = l := by cases l <;> rfl
        rw [z]
        exact e
      | cons b bs ih =>
        intro l i w e nb
        cases l with
        | nil => simp at e
        | cons y l =>
          cases i with
          | zero =>
            simp only [List.getElem?_cons_zero] at e nb ⊢
            cases b with
            | true => exact absurd rfl nb
            | false => simpa [mskL] using e
          | succ i =>
            simp only [List.getElem?_cons_succ] at e nb
            have := ih l i w e nb
            cases b <;> simpa [mskL] using this
    exact this bs σ i w e2 nb
theorem code_stay {K : PySem.W.Frag} {φ φ' : Ad} {H H' : Hp} {m : M} (S : SR ζ K φ H m) (g : Gr φ H φ' H') {c : Addr} {q : Str} (h : H c = some (CodeO c q)) : H' c = some (CodeO c q) := by
  by_cases hc : c ∈ φ.h
  · exact g.stay c hc _ h codeO_ne
  · have hs : c ∉ φ.s := fun z => by
      obtain ⟨i, hi, e⟩ := List.mem_iff_getElem.mp z
      have hm : i < m.length := by rw [← S.len]; exact hi
      have o := S.obj i m[i] c (List.getElem?_eq_getElem hm) (by rw [List.getElem?_eq_getElem hi, e])
      exact (o.tc h).2 q rfl
    have ho : off φ H c = some (CodeO c q) := off_some.mpr ⟨fun z => (Ad.mem.mp z).elim hs hc, h, rfl⟩
    exact (off_some.mp (g.same _ _ ho)).2.1
/-- new entries are no tuples -/
def PlN (H H' : Hp) : Prop := ∀ b u, H' b = some u → H b = some u ∨ plO u
theorem plO_code {c : Addr} {q : Str} : plO (CodeO c q) := by
  unfold CodeO
  exact trivial
theorem lam_makeP {X : Cx} {pins : List (Addr × Obj)} {σ : L2.St} {H : Hp} {s : Shared} {T : List (Addr × Str)} {c P : Addr} {params : Arguments} {body : Expr} {scope : Scope} {pos : Pos} {E : Value → Shared → Prop} {Q : Value → Shared → Prop} (I : Inv X pins σ H s) (TB : TabB X.base X.mg c P) (hcode : X.env.code = .ref c)
    (hm : (P, X.env.qual ++ "<lambda>") ∈ T) (hu : ∀ p ∈ T, p.1 = P → p.2 = X.env.qual ++ "<lambda>") (hT : Tabs T H) (hdef : defaultsOf params X.env = ([], [])) (hfree : ∀ y ∈ scope.names, y.2 = .free → ∃ c, X.env.cells.lookup y.1 = some c)
    (h : ∀ (f cb : Addr) (pm ctv : Value) (Hb : Hp) (sb : Shared), Inv X pins σ Hb sb → ExtN H Hb → PlN H Hb → Tabs T Hb →
      sb.heap.get? f = some (PySem.W.kla_obj "<lambda>" (X.env.qual ++ "<lambda>") params body scope (cloFrom X.env.cells scope.names []) pm cb ctv) → Hb f = none → f ∉ frs X.stack → Hb cb = some (CodeO cb (X.env.qual ++ "<lambda>")) → Q (.ref f) sb) :
    wpAny (model X.prog X.w) X.A (eval (.Lambda params body scope pos) X.env) Q E s := by
  obtain ⟨ps, hP, tr, am⟩ := hT _ hm
  refine PySem.W.kla_eval hdef ?_
  have hPs : s.heap.get? P = some { cls := .none, data := .fields ps } := I.hok P _ hP
  have bP : s.heap.BuiltinsAt X.mg P := TB.bm.keeps I.bk
  have out : ∀ f, s.heap.objs.size ≤ f → f ∉ frs X.stack := fun f hf z => by
    rcases List.mem_cons.mp (I.stkSub _ z) with e | e
    · have := I.lt
      rw [← e] at this
      exact Nat.lt_irrefl _ (Nat.lt_of_lt_of_le this hf)
    · exact I.nofs hf e
  cases hc : codeAmong pos ps.toList with
  | some cv =>
    obtain ⟨cb, e, hco⟩ := am pos cv hc
    subst e
    refine PySem.W.kla_makeFunctionHit (mg := X.mg) (c := c) (P := P) (ps := ps) (closure_ok hfree) I.ok.glob (I.mod.glob.keeps I.bk) hcode (TB.code.keeps I.bk) hPs tr hc bP fun ctv h' tk hx hsz => ?_
    exact h _ cb _ ctv H _ (I.kept (t' := tk) fun b o e => Heap.get?_push_of_some _ (hx b o e)) (ExtN.refl H) (fun _ _ e => .inl e) hT (Heap.get?_push_size _ rfl) (I.hok.fresh hsz) (out _ hsz) hco
  | none =>
    refine PySem.W.kla_makeFunction (mg := X.mg) (c := c) (P := P) (ps := ps) (closure_ok hfree) I.ok.glob (I.mod.glob.keeps I.bk) hcode (TB.code.keeps I.bk) hPs tr hc TB.gP bP fun cb ctv h' tk hx hge hlt hrec htb => ?_
    obtain ⟨c2, oc, vs, t, e2, hoc, hd, hv⟩ := hrec
    cases e2
    have hz : s.heap.objs.size ≤ h'.objs.size := Nat.le_trans hge (Nat.le_of_lt hlt)
    have nC : H cb = none := I.hok.fresh hge
    have I1 := inv_table (t' := tk) (more := #[rawInt pos.line, rawInt pos.col, .ref cb]) (h' := h'.push (PySem.W.kla_obj "<lambda>" (X.env.qual ++ "<lambda>") params body scope (cloFrom X.env.cells scope.names []) ((X.mg "__name__").getD .none) cb ctv)) I hP
      (fun b o hb e => Heap.get?_push_of_some _ (hx b o hb e)) (Heap.get?_push_of_some _ htb) hge ⟨oc, vs, t, Heap.get?_push_of_some _ hoc, hd, hv⟩
    have ex : ExtN H (upd (upd H P (.tbl (ps ++ #[rawInt pos.line, rawInt pos.col, .ref cb]))) cb (CodeO cb (X.env.qual ++ "<lambda>"))) := fun b o e n => by
      rw [upd_ne (ne_of_none e nC), upd_ne (fun z => n ps (Option.some.inj (e.symm.trans (by rw [z]; exact hP))))]
      exact e
    have pn : PlN H (upd (upd H P (.tbl (ps ++ #[rawInt pos.line, rawInt pos.col, .ref cb]))) cb (CodeO cb (X.env.qual ++ "<lambda>"))) := fun b u e => by
      by_cases z : b = cb
      · subst z
        rw [upd_same] at e
        cases e
        exact .inr plO_code
      · rw [upd_ne z] at e
        by_cases y : b = P
        · subst y
          rw [upd_same] at e
          cases e
          exact .inr trivial
        · rw [upd_ne y] at e
          exact .inl e
    have el : (ps ++ #[rawInt pos.line, rawInt pos.col, .ref cb]).toList = ps.toList ++ [rawInt pos.line, rawInt pos.col, .ref cb] := by simp
    refine h h'.objs.size cb ((X.mg "__name__").getD .none) ctv _ _ I1 ex pn (fun p hp => ?_) (Heap.get?_push_size _ rfl) ?_ (out _ hz) upd_same
    · by_cases hb : p.1 = P
      · rw [hu p hp hb, hb]
        refine ⟨_, by rw [upd_ne (ne_of_none hP nC), upd_same], by rw [el]; exact PySem.TriplesOk_snoc _ _ _ _ tr, fun p' cv hcv => ?_⟩
        rw [el] at hcv
        rcases among_app _ tr hcv with z | z
        · obtain ⟨c0, e1, e2⟩ := am p' cv z
          exact ⟨c0, e1, ex _ _ e2 codeO_ne⟩
        · exact ⟨cb, z, upd_same⟩
      · obtain ⟨qs, a1, a2, a3⟩ := hT p hp
        refine ⟨qs, by rw [upd_ne (ne_of_none a1 nC), upd_ne hb]; exact a1, a2, fun p' cv hcv => ?_⟩
        obtain ⟨c0, e1, e2⟩ := a3 p' cv hcv
        exact ⟨c0, e1, ex _ _ e2 codeO_ne⟩
    · rw [upd_ne (Nat.ne_of_gt hlt), upd_ne (Nat.ne_of_gt (Nat.lt_of_lt_of_le (Heap.lt_size hPs) hz))]
      exact I.hok.fresh hz
/-- the tables may have grown -/
theorem gr_extN {φ : Ad} {H H' : Hp} (e : ExtN H H') : Gr φ H φ H' := ⟨List.prefix_refl _, rfl, rfl, fun b o h => by
  rw [off_some] at h ⊢
  exact ⟨h.1, e b o h.2.1 (fun ps z => by rw [z] at h; exact absurd h.2.2 (by simp [isTb])), h.2.2⟩, fun b _ u h n => e b u h n, fun b o u h => e b _ h (fun ps z => by cases z)⟩
theorem SR.extN {K : PySem.W.Frag} {φ : Ad} {H H' : Hp} {m : M} (S : SR ζ K φ H m) (e : ExtN H H') (pn : PlN H H') (hT : Tabs φ.t H') : SR ζ K φ H' m := by
  refine ⟨S.len, S.nd, fun i o a e1 e2 => ?_, fun a ha => ?_, S.teq, S.tin, hT, fun b u z => (pn b u z).elim (S.pl b u) id, S.kt⟩
  · have q := S.obj i o a e1 e2
    exact q.mono' (gr_extN e).same fun u z => e _ _ z (fun ps y => (q.tc z).1 ps y)
  · rcases S.hid a ha with ⟨u, h, n⟩ | h
    · exact .inl ⟨u, e a u h (fun ps z => by rw [z] at n; cases n), n⟩
    · exact .inr h
end Ev

set_option Elab.async false
set_option linter.all false
set_option maxRecDepth 100000
set_option maxHeartbeats 1000000
/-! sorted(.., key=lambda p: ..): the rule. -/
namespace Ev
open PySem PySem.Spec PyProof.Rows L2 LamX
section
variable {X : Cx} {pins : List (Addr × Obj)} {σ : L2.St} {H : Hp} {s : Shared} {k : Nat} {bs : List Bool} {fb : EF} {p : Str} {f : Addr}
/-- what a lambda of one parameter asks of its maker -/
structure LamOk (ζ : Tbs) (X : Cx) (k : Nat) (bs : List Bool) (fb : EF) (p : Str) (params : Arguments) (body : Expr) (scope : Scope) (c P : Addr) : Prop where
  tb : TabB X.base X.mg c P
  code : X.env.code = .ref c
  mem : (P, X.env.qual ++ "<lambda>") ∈ ζ
  uniq : ∀ q ∈ ζ, q.1 = P → q.2 = X.env.qual ++ "<lambda>"
  scp : LamP X.env.scope scope p
  dflt : defaultsOf params X.env = ([], [])
  bind : ∀ (q : Str) (cl : List (Str × Addr)) (pm cv ctv : Value) (u : Value), bindArgs (PySem.W.kla_fn "<lambda>" q params body scope cl pm cv ctv) ⟨[u], []⟩ = pure [(p, u)]
  msk : ∀ i : Nat, X.N[i]? = some p → bs[i]? = some true
  body : ∀ (A : Around) (s : Shared) (H : Hp) (f c' : Addr), Room k (A.deeper (lamEnv X scope s.heap.objs.size f c')) → PE (lamCxP X A X.stack s H scope p f c') body (tE ζ X.K fb)
/-- a lambda made: it can be called -/
theorem lam_make {params : Arguments} {body : Expr} {scope : Scope} {pos : Pos} {c P : Addr} {φ : Ad} {m : M} {E : Value → Shared → Prop} {Q : Value → Shared → Prop} (L : LamOk ζ X k bs fb p params body scope c P) (I : Inv X pins σ H s) (S : SR ζ X.K φ H m)
    (h : ∀ f H1 s', Inv X pins σ H1 s' → Gr φ H φ H1 → SR ζ X.K φ H1 m → LamAt ζ X k bs fb p f s' H1 → Q (.ref f) s') : wpAny (model X.prog X.w) X.A (eval (.Lambda params body scope pos) X.env) Q E s := by
  refine lam_makeP (T := ζ) I L.tb L.code L.mem L.uniq (by rw [← S.teq]; exact S.tab) L.dflt (L.scp.has I.ok) fun f c' pm ctv H1 s' I1 eN pn T1 hf hfn hfr hco => ?_
  refine h f H1 s' I1 (gr_extN eN) (S.extN eN pn (by rw [S.teq]; exact T1)) ⟨?_, hfn, hfr, ⟨_, hf⟩⟩
  intro pins σ H' s2 φ env m m1 r r1 v u A I2 e0 hr hfe hcc rv S2 E2 R2 hfb
  have hf2 := hf
  rw [hfe] at hf2
  refine wpAny_call (codeAny_mono (lam_callP (Q := fun x H'' => ∃ φ2, Gr φ H' φ2 H'' ∧ SR ζ X.K φ2 H'' m1 ∧ RR X.K φ2 H'' x r1) I2 L.scp e0 hr L.msk rv hf2 (hcc _ _ hco) (L.bind _ _ _ _ _ _) (fun _ => L.body A s2 H' f c' ‹_›)
    ⟨φ, some r :: mskL bs env, m, r1, m1, S2, er_msk E2 R2 bs, hfb, fun φ2 H2 v2 g2 S3 R3 => ⟨φ2, g2, S3, R3⟩⟩) fun q s3 hq => ?_)
  cases q with
  | error e => exact (noX_cx hq).elim
  | ok fl =>
    cases fl with
    | ret u2 =>
      obtain ⟨x, H2, os, bare, un, hok, rx, φ2, g2, S3, R3⟩ := hq
      obtain ⟨hh, g, d, t, os'⟩ := s3
      obtain rfl : os' = s2.os := os
      exact ⟨x, φ2, H2, rx, I2.call (h' := hh) (g' := g) (d' := d) (t' := t) (ch := []) un hok bare (fun b z => absurd z (by simp)), un, g2, S3, R3⟩
    | next => exact False.elim hq
    | brk => exact False.elim hq
    | cont => exact False.elim hq
end
/-- a key as data -/
def keyF (fb : EF) (bs : List Bool) (env : Sl) (d : D) (m : M) : Option (D × M) := (fb (some (.val d) :: mskL bs env) m).bind fun x => match x.1 with
  | .val k => some (k, x.2)
  | _ => none
def kfold (fk : D → M → Option (D × M)) : List D → M → Option (List D × M)
  | [], m => some ([], m)
  | d :: ds, m => (fk d m).bind fun x => (kfold fk ds x.2).bind fun y => some (x.1 :: y.1, y.2)
theorem kfold_len {fk : D → M → Option (D × M)} : ∀ {ds ks : List D} {m m' : M}, kfold fk ds m = some (ks, m') → ks.length = ds.length
  | [], _, _, _, h => by cases h; rfl
  | d :: ds, _, m, _, h => by
    obtain ⟨x, h1, h⟩ := bind_some_iff h
    obtain ⟨y, h2, h⟩ := bind_some_iff h
    cases h
    rw [List.length_cons, List.length_cons, kfold_len h2]
/-- stably by the keys -/
def sortKD (ks ds : List D) : List D := ((ks.zip ds).mergeSort (PySem.W.dataLe false Prod.fst)).map Prod.snd
def sortKF (fk : D → M → Option (D × M)) (ds : List D) (m : M) : Option (R × M) := (kfold fk ds m).bind fun x => if (sortableB x.1 && smallAll x.1 && decide (ds.length ≤ sizeLine)) = true then some (.val (.list (sortKD x.1 ds)), x.2) else none
/-- a value that reads as data -/
def Rk (K : PySem.W.Frag) (φ : Ad) (H : Hp) (v : Value) (d : D) : Prop := ∃ x : V, RelV x v ∧ Dp K (off φ H) x d
theorem Rk.mono {K : PySem.W.Frag} {φ φ' : Ad} {H H' : Hp} {v : Value} {d : D} (g : Gr φ H φ' H') (h : Rk K φ H v d) : Rk K φ' H' v d := by
  obtain ⟨x, r, q⟩ := h
  exact ⟨x, r, dp_mono g.same q⟩
theorem each_at {α β : Type} {F : α → β → Prop} : ∀ {as : List α} {bs : List β} {i : Nat} {a : α}, PySem.W.EachIs F as bs → as[i]? = some a → ∃ b, bs[i]? = some b ∧ F a b
  | _, _, _, _, .nil, e => by simp at e
  | _, _, 0, _, .cons (b := b) h t, e => by
    simp at e
    subst e
    exact ⟨b, rfl, h⟩
  | _, _, i + 1, _, .cons _ t, e => by
    obtain ⟨v, h1, h2⟩ := each_at (i := i) t (by simpa using e)
    exact ⟨v, by simpa using h1, h2⟩
theorem each_push {α β : Type} {F : α → β → Prop} : ∀ {as : List α} {bs : List β} {a : α} {b : β}, PySem.W.EachIs F as bs → F a b → PySem.W.EachIs F (as ++ [a]) (bs ++ [b])
  | _, _, _, _, .nil, h => .cons h .nil
  | _, _, _, _, .cons q t, h => .cons q (each_push t h)
theorem each_zip {α β γ : Type} {F : α → β → Prop} : ∀ {as : List α} {bs : List β} {cs : List γ}, cs.length = bs.length → PySem.W.EachIs F as bs → PySem.W.EachIs (fun a (q : γ × β) => F a q.2) as (cs.zip bs)
  | _, _, [], e, .nil => .nil
  | _, _, _ :: _, e, .nil => by simp at e
  | _, _, [], e, .cons _ _ => by simp at e
  | _, _, c :: cs, e, .cons q t => .cons q (each_zip (by simpa using e) t)
theorem each_mapB {α β γ : Type} {F : α → γ → Prop} (f : β → γ) : ∀ {as : List α} {bs : List β}, PySem.W.EachIs (fun a b => F a (f b)) as bs → PySem.W.EachIs F as (bs.map f)
  | _, _, .nil => .nil
  | _, _, .cons q t => .cons q (each_mapB f t)
section
variable {X : Cx} {pins : List (Addr × Obj)} {σ : L2.St} {H : Hp} {s : Shared} {k : Nat} {bs : List Bool} {fb : EF} {p : Str} {f : Addr}
theorem sortK_core {φ : Ad} {env : Sl} {m m' : M} {r : R} {ds : List D} {u : Value} {Q : VK} (I : Inv X pins σ H s) (hr : Room (k + 3) X.A) (S : SR ζ X.K φ H m) (E : ER X.K φ H σ env) (L : LamAt ζ X k bs fb p f s H) (hev : sortKF (keyF fb bs env) ds m = some (r, m'))
    (hcol : ∀ E' : Value → Shared → Prop, wpAny (model X.prog X.w) X.A.in1 (collect u) (fun vs s1 => Inv X pins σ H s1 ∧ (∀ b o, s.heap.get? b = some o → s1.heap.get? b = some o) ∧ PySem.W.EachIs (Rk X.K φ H) vs ds) E' s)
    (q : ∀ φ2 H2 v2, Gr φ H φ2 H2 → SR ζ X.K φ2 H2 m' → RR X.K φ2 H2 v2 r → Q v2 H2) :
    wpAny (model X.prog X.w) X.A (PySem.call (.builtin "sorted") [u] [(Str.ofString "key", .ref f)]) (EP X pins σ Q) X.xe s := by
  obtain ⟨⟨ks, mE⟩, hk, hev⟩ := bind_some_iff hev
  simp only at hev
  split at hev
  · rename_i hc
    cases hev
    rw [Bool.and_eq_true, Bool.and_eq_true] at hc
    obtain ⟨⟨c1, c2⟩, c3⟩ := hc
    obtain ⟨hal, hso⟩ := sortable_ok c1
    have hsm := of_decide_eq_true c2
    have hlen := of_decide_eq_true c3
    have hun := hr.un
    have hkl := kfold_len hk
    refine PySem.W.sorted_of_collect (PyProof.Rows.ksk_s1 _ _) (fun _ => PyProof.Rows.ksk_l1 _ _) fun E' => ?_
    refine wpAny_mono (hcol E') (fun vs s1 ⟨I1, up, hR⟩ => ⟨by rw [hR.length]; exact hlen, fun h2 c kp hsz hat E2 => ?_⟩) fun _ _ e => e
    rw [PyProof.Rows.ksk_t1]
    have I2 : Inv X pins σ H { s1 with heap := h2 } := I1.kept (t' := s1.toks) kp
    have nS : ∀ b : Addr, s1.heap.objs.size ≤ b → H b = none := fun b hb => I1.hok.fresh hb
    have nF : ∀ b : Addr, s1.heap.objs.size ≤ b → b ∉ frs X.stack := fun b hb z => by
      rcases List.mem_cons.mp (I1.stkSub _ z) with e | e
      · have h1 := I1.lt
        rw [← e] at h1
        exact Nat.lt_irrefl _ (Nat.lt_of_lt_of_le h1 hb)
      · exact I1.nofs hb e
    have hkS : s1.heap.objs.size ≤ h2.objs.size + 1 := by omega
    obtain ⟨of, hof⟩ := L.here
    have hflt : f < s1.heap.objs.size := Heap.lt_size (up _ _ hof)
    have hfa : f ≠ s1.heap.objs.size := Nat.ne_of_lt hflt
    have hfk : f ≠ h2.objs.size + 1 := by rw [hsz]; exact Nat.ne_of_lt (Nat.lt_succ_of_lt (Nat.lt_succ_of_lt hflt))
    have hka : h2.objs.size + 1 ≠ s1.heap.objs.size := by omega
    have fpk : ∀ {H' : Hp}, H' (h2.objs.size + 1) = none → FpOk X pins H' (h2.objs.size + 1) := fun h => I1.fpOk hkS h
    have fpa : ∀ {H' : Hp}, H' s1.heap.objs.size = none → FpOk X pins H' s1.heap.objs.size := fun h => I1.fpOk (Nat.le_refl _) h
    refine PySem.W.keyI_tree (s := { s1 with heap := h2 }) (n := c) (J := fun i keys s' => ∃ φ' H' m1 kds rest, Inv X pins σ H' s' ∧ Gr φ H φ' H' ∧ SR ζ X.K φ' H' m1 ∧ H' (h2.objs.size + 1) = none ∧ H' s1.heap.objs.size = none ∧ H' f = none ∧ s'.heap.get? f = s.heap.get? f ∧
        PySem.W.EachIs (Rk X.K φ' H') keys.toList kds ∧ kfold (keyF fb bs env) (ds.drop i) m1 = some (rest, m') ∧ ks = kds ++ rest) hat (by rw [hR.length]; exact hlen) (fun h' e1 k1 na nk => ?_) (fun i v keys e e1 s' hv hJ nk na => ?_) fun keys e s' hJ nk hsz2 => ?_
    · -- the start
      have I3 : Inv X pins σ H { s1 with heap := h' } := Inv.turnedL (s := { s1 with heap := h2 }) (t' := s1.toks) I2 (ch := [s1.heap.objs.size]) (fun b o hb e => k1 b o (fun z => hb (by simp [z])) e) (fun b hb => by
        rw [List.mem_singleton.mp hb]
        exact fpa (nS _ (Nat.le_refl _)))
      exact ⟨φ, H, m, [], ks, I3, .refl, S, nS _ hkS, nS _ (Nat.le_refl _), L.free, (k1 f _ hfa (kp _ _ (up _ _ hof))).trans hof.symm, .nil, hk, rfl⟩
    · -- a turn
      obtain ⟨φ', H', m1, kds, rest, I', g, S', nk', na', nf', hf', hkd, hfo, eks⟩ := hJ
      obtain ⟨d, hd, rd⟩ := each_at hR hv
      have hdr : ds.drop i = d :: ds.drop (i + 1) := by
        obtain ⟨hi, e⟩ := List.getElem?_eq_some_iff.mp hd
        rw [List.drop_eq_getElem_cons hi, e]
      rw [hdr] at hfo
      obtain ⟨⟨kd, m2⟩, h1, hfo⟩ := bind_some_iff hfo
      obtain ⟨⟨rest2, m3⟩, h3, hfo⟩ := bind_some_iff hfo
      cases hfo
      obtain ⟨⟨r1, m4⟩, h4, h1⟩ := bind_some_iff h1
      cases r1 with
      | tp j => first | (cases hf; done) | (cases e; done) | (cases h1; done) | (cases h; done) | (cases h7; done) | (cases h2; done)
      | ref j => cases h1
      | val kd' =>
        cases h1
        obtain ⟨x, rx, dx⟩ := Rk.mono g rd
        refine wpAny_mono (L.call I' I'.env0.in1.in1 (hr.in1.in1) hf'.symm (fun cc q hc => code_stay S g hc) rx S' (E.mono g) (r := .val d) dx h4) (fun kv s'' hq => ?_) fun _ _ e => e
        obtain ⟨x2, φ2, H2, rx2, I3, un, g2, S3, R3⟩ := hq
        have k2 : s''.heap.get? (h2.objs.size + 1) = some (seqObj "list" keys e) := un.keep _ _ nk nk' (nF _ hkS) (by simp)
        have a2 : s''.heap.get? s1.heap.objs.size = some (seqObj "list" #[] e1) := un.keep _ _ na na' (nF _ (Nat.le_refl _)) (by simp)
        have f2 : s''.heap.get? f = s.heap.get? f := by
          rw [hof] at hf' ⊢
          exact un.keep _ _ hf' nf' L.nofr (by simp)
        refine ⟨k2, a2, fun h' sb hex => ?_⟩
        have n2 : H2 (h2.objs.size + 1) = none := un.free _ _ nk nk' (by simp)
        have n3 : H2 s1.heap.objs.size = none := un.free _ _ na na' (by simp)
        have n4 : H2 f = none := un.free _ _ (hf'.trans hof) nf' (by simp)
        have I4 : Inv X pins σ H2 { s'' with heap := h' } := I3.turnedL (t' := s''.toks) (ch := [h2.objs.size + 1]) (fun b o hb e => by
            rw [sb.2 b (fun z => hb (by simp [z]))]
            exact e) (fun b hb => by
          rw [List.mem_singleton.mp hb]
          exact fpk n2)
        refine ⟨φ2, H2, m4, kds ++ [kd], rest2, I4, g.trans g2, S3, n2, n3, n4, (sb.2 f hfk).trans f2, ?_, h3, by rw [List.append_assoc]; exact eks⟩
        have : (keys.push kv).toList = keys.toList ++ [kv] := by simp
        rw [this]
        exact each_push (hkd.mono fun v d z => z.mono g2) ⟨x2, rx2, R3⟩
    · -- the end
      obtain ⟨φ', H', m1, kds, rest, I', g, S', nk', na', nf', hf', hkd, hfo, eks⟩ := hJ
      have hdr : ds.drop vs.length = [] := List.drop_eq_nil_of_le (by rw [hR.length]; exact Nat.le_refl _)
      rw [hdr] at hfo
      cases hfo
      rw [List.append_nil] at eks
      subst eks
      refine ⟨ks, hkd.mono fun v d ⟨x, r, q⟩ => Dp.reads I' _ _ _ (dp_mono off_same q) r, hal, hso, fun d hd => ?_, fun h' tk out c2 kb hb ko => ⟨rfl, ?_⟩⟩
      · have h1 := depth_all hd
        show X.A.units + 2 + d.depth < cLine
        omega
      · have hkk : (ks.zip ds).map Prod.fst = ks := by
          rw [List.map_fst_zip]
          omega
        have e0 := PySem.W.keyedOut_each (bs := ks.zip ds) Prod.fst (by rw [hkk]; exact ko) (each_zip hkl hR)
        have e1 : PySem.W.EachIs (Rk X.K φ H) out (sortKD ks ds) := each_mapB (F := Rk X.K φ H) Prod.snd e0
        obtain ⟨ys, rv, hd⟩ := of_each (e1.mono fun v d z => z.mono g)
        have hyl : ys.length ≤ sizeLine := by
          rw [rv.length, e1.length]
          unfold sortKD
          rw [List.length_map, List.length_mergeSort, List.length_zip]
          omega
        have hsz3 : s1.heap.objs.size < h2.objs.size := by omega
        have nin : ∀ b w, H' b = some w → b ≠ s1.heap.objs.size ∧ b ≠ h2.objs.size + 1 := fun b w e => ⟨(fun z => by rw [z, na'] at e; cases e), (fun z => by rw [z, nk'] at e; cases e)⟩
        have I5 : Inv X pins σ (upd H' s1.heap.objs.size (.lst ys)) { s' with heap := h', toks := tk } := by
          refine I'.step (g' := s'.gens) (d' := s'.drawn) (ch := [s1.heap.objs.size, h2.objs.size + 1]) (fun b hb => ?_) (fun b o _ _ hc e _ => kb b o (fun z => hc (by simp [z])) (fun z => hc (by simp [z])) e) (fun b o _ _ hc e _ => ⟨o.slots, kb b o (fun z => hc (by simp [z])) (fun z => hc (by simp [z])) e⟩)
            (fun b o hc _ n => by rw [upd_ne (fun z => hc (by simp [z]))]; exact n) (fun b o hc e => ⟨o, kb b o (fun z => hc (by simp [z])) (fun z => hc (by simp [z])) e⟩) (fun b xs e => by rw [upd_ne (nin b _ e).1]; exact e) (fun b o w e => by rw [upd_ne (nin b _ e).1]; exact e) (fun b ps e => ⟨#[], by rw [upd_ne (nin b _ e).1, e]; simp⟩)
            (fun mm hm => ?_) (fun b w e => ?_) I'.bare
          · rcases List.mem_cons.mp hb with z | z
            · subst z
              have f0 := fpa (H' := H') na'
              exact ⟨f0.2.2.2.1, f0.2.1, f0.2.2.2.2.1, f0.2.2.2.2.2⟩
            · rw [List.mem_singleton.mp z]
              have f0 := fpk (H' := H') nk'
              exact ⟨f0.2.2.2.1, f0.2.1, f0.2.2.2.2.1, f0.2.2.2.2.2⟩
          · obtain ⟨o, es, ep, ho, rr⟩ := hm
            exact ⟨o, es, ep, kb _ o (fpa (H' := H') na').2.1.symm (fpk (H' := H') nk').2.1.symm ho, rr⟩
          · by_cases hb2 : b = s1.heap.objs.size
            · subst hb2
              rw [upd_same] at e
              cases e
              exact ⟨hyl, out, c2, rv, hb⟩
            · rw [upd_ne hb2] at e
              refine (I'.hok b w e).stay (fun d v hd z => ?_) (fun d z => by rw [upd_ne (nin d _ z).1]; exact z) fun d xs z => by rw [upd_ne (nin d _ z).1]; exact z
              rcases hd with y | y
              · rw [y] at z ⊢
                exact kb _ _ (nin b _ e).1 (nin b _ e).2 z
              · exact kb _ _ (nin d _ y).1 (nin d _ y).2 z
        refine ⟨.ref s1.heap.objs.size, _, I5, rfl, q φ' _ _ (g.trans (gr_alloc na')) (S'.alloc na') (rr_newL S' na' hd)⟩
  · cases hev
end
theorem collect_tupV {P : Program} {w : World} {A : Around} {E : Value → Shared → Prop} {s : Shared} {l : Addr} {vs : List Value} {Q : List Value → Shared → Prop} (hl : IsTup s.heap l vs.toArray) (hz : vs.length ≤ sizeLine)
    (q : ∀ h' : Heap, (∀ b o, s.heap.get? b = some o → h'.get? b = some o) → Q vs { s with heap := h' }) : wpAny (model P w) A (collect (.ref l)) Q E s := by
  obtain ⟨o, ho, hc, n, hd⟩ := hl
  have hn : (s.heap.push (seqObj "list" #[] 0)).get? s.heap.objs.size = some (seqObj "list" #[] 0) := Heap.get?_push_size _ rfl
  have ho' : (s.heap.push (seqObj "list" #[] 0)).get? l = some o := Heap.get?_push_of_some _ ho
  unfold collect
  refine wpAny_bind (wpAny_runValue (codeAny_builtin F.entry_proto_collect ?_))
  refine wpAny_bind (m := newList []) (wpAny_newList (wpAny_pure ⟨plainId_quiet F.plain_list_iadd _, codeAny_builtin F.entry_list_iadd ?_⟩))
  show wpAny (model P w) _ (Builtin.List.listExtendWith (.ref s.heap.objs.size) (.ref l) (.ref s.heap.objs.size)) _ _ ⟨s.heap.push (seqObj "list" #[] 0), s.gens, s.drawn, s.toks, s.os⟩
  unfold Builtin.List.listExtendWith
  refine wpAny_bind (wpAny_typeOf (T := "tuple") ⟨o, ho', hc⟩ ?_)
  have ht : (Value.type "tuple" == Value.type "tuple") = true := rfl
  rw [if_pos (by rw [ht, Bool.or_true])]
  refine wpAny_bind (listItems_at ho' hd (wpAny_bind (listItems_at hn rfl ?_)))
  rw [if_neg (by simp)]
  refine wpAny_bind (listUpdate_at hn rfl (wpAny_pure ?_) (Nat.zero_le _) (by
    have e : (#[] ++ vs.toArray).size = vs.length := by simp
    rw [e]
    exact Nat.le_succ_of_le hz))
  refine wpAny_bind (m := load s.heap.objs.size) (wpAny_load (get?_update_seq hn _) ?_)
  have e : ((#[] : Array Value) ++ vs.toArray).toList = vs := by simp
  show wpAny _ _ (pure ((#[] : Array Value) ++ vs.toArray).toList) Q E _
  rw [e]
  refine wpAny_pure (q _ fun b u hb => ?_)
  have nb : b ≠ s.heap.objs.size := Nat.ne_of_lt (Heap.lt_size hb)
  rw [Heap.get?_update_ne _ _ _ _ nb]
  exact Heap.get?_push_of_some _ hb
section
variable {X : Cx} {k : Nat} {bs : List Bool} {fb fe : EF} {p : Str} {e body : Expr} {params : Arguments} {scope : Scope} {c P : Addr} {p0 pos lpos kpos : Pos}
/-- a list or a tuple as what is gone through -/
theorem col_LT {pins : List (Addr × Obj)} {σ : L2.St} {φ : Ad} {H : Hp} {m : M} {s : Shared} {r : R} {v : V} {u : Value} {ds : List D} (I : Inv X pins σ H s) (S : SR ζ X.K φ H m) (R : RR X.K φ H v r) (rv : RelV v u) (h : asLT r m = some ds) {A : Around} {E : Value → Shared → Prop} :
    wpAny (model X.prog X.w) A (collect u) (fun vs s1 => Inv X pins σ H s1 ∧ (∀ b o, s.heap.get? b = some o → s1.heap.get? b = some o) ∧ PySem.W.EachIs (Rk X.K φ H) vs ds) E s := by
  by_cases ht : ∃ ts, r = .val (.tuple ts)
  · obtain ⟨ts, rfl⟩ := ht
    cases h
    obtain ⟨a, xs, rfl, hs, hd⟩ := seqT_of R
    obtain rfl : u = Value.ref a := rv
    obtain ⟨its, rvs, hl, hz⟩ := I.tuple hs
    refine collect_tupV hl (by rw [← rvs.length]; exact hz) fun h' up => ⟨I.kept (t' := s.toks) up, up, each_of hd rvs⟩
  · have h2 : asL r m = some ds := by
      unfold asLT at h
      split at h
      · exact absurd ⟨_, rfl⟩ ht
      · exact h
    obtain ⟨a, xs, rfl, hs, hd⟩ := seqL_of S R h2
    obtain rfl : u = Value.ref a := rv
    obtain ⟨its, rvs, hl, hz⟩ := I.list hs
    have up : ∀ b o, s.heap.get? b = some o → ((s.heap.push (seqObj "list" #[] 0)).update s.heap.objs.size (Obj.mapSeq (· ++ its.toArray))).get? b = some o := fun b o hb => by
      rw [Heap.get?_update_ne _ _ _ _ (Nat.ne_of_lt (Heap.lt_size hb))]
      exact Heap.get?_push_of_some _ hb
    refine collect_list hl.isList ⟨I.kept (t' := s.toks) up, up, each_of hd rvs⟩ (by rw [← rvs.length]; exact hz)
def lst1 (fa : AF) : Sl → M → Option (R × M) := fun env m => (fa env m).bind fun x => match x.1 with
  | [r] => some (r, x.2)
  | _ => none
def eSortK (bs : List Bool) (fb : EF) (fa : AF) : EF := fun env m => (lst1 fa env m).bind fun x => (asLT x.1 x.2).bind fun ds => sortKF (keyF fb bs env) ds x.2
theorem x_sortK {fa : AF} (L : LamOk ζ X k bs fb p params body scope c P) (hr : Room (k + 3) X.A) (hg : Gl X "sorted") (hm : X.mg "sorted" = none) (ha : PA X [e] (tA ζ X.K fa))
    (h1 : backTo pos (starEach [e] X.env) = (false, eval e X.env) :: backTo pos (starEach [] X.env) := by rfl) (h2 : (backTo pos (starEach [e] X.env)).any (·.1) = false := by rfl) :
    PE X (.Call (.Name "sorted" p0) [e] [⟨some "key", .Lambda params body scope lpos, kpos⟩] pos) (tE ζ X.K (eSortK bs fb fa)) := by
  refine ⟨fun pins s σ H Q I h => ?_⟩
  obtain ⟨φ, env, m, r, m', S, E, hf, q⟩ := h
  obtain ⟨⟨r1, m1⟩, h3, hf⟩ := bind_some_iff hf
  obtain ⟨ds, h4, hf⟩ := bind_some_iff hf
  obtain ⟨⟨rs, m2⟩, h5, h3⟩ := bind_some_iff h3
  simp only at h3
  split at h3
  · rename_i r0
    cases h3
    refine wpAny_Call_Name_kw (ld_blt I hg hm bt_sorted ?_)
    refine callWith_kw (thn (ha.run pos pins s σ H (fun vs H1 => ∃ φ1, Gr φ H φ1 H1 ∧ SR ζ X.K φ1 H1 m1 ∧ RRs X.K φ1 H1 vs [r1]) I ⟨φ, env, m, [r1], m1, S, E, h5, fun φ1 H1 vs g1 S1 R1 => ⟨φ1, g1, S1, R1⟩⟩) fun us s1 ⟨vs, H1, I1, rvs, φ1, g1, S1, R1⟩ => ?_) h1 h2
    cases R1 with
    | cons R1 R0 =>
      cases R0
      obtain ⟨u, rfl, rv⟩ := one_val rvs
      show wpAny _ _ (evalAll ((do let v ← eval (.Lambda params body scope lpos) X.env; standAt pos; pure v) :: (backToKw pos (keywordEach [] X.env)).map (·.2))) _ _ s1
      refine wpAny_evalAll_cons (wpAny_bind (lam_make L I1 S1 fun f H2 s2 I2 g2 S2 LA => wpAny_bind (wpAny_standAt (wpAny_pure (wpAny_evalAll_nil ?_)))))
      exact sortK_core I2 hr S2 (E.mono (g1.trans g2)) LA hf (fun E' => col_LT I2 S2 (R1.mono g2) rv h4) fun φ2 H3 v2 g3 S3 R3 => q φ2 H3 v2 (g1.trans (g2.trans g3)) S3 R3
  · cases h3
/-! ranges -/
theorem cr_range1 : CallR X (.type "range") (fun vs H Q => ∃ j, vs = [V.int j] ∧ ∀ p, H p = none → Q (.ref p) (upd H p (.rng 0 j))) := by
  intro pins s σ H vs us Q I r h
  obtain ⟨j, rfl, q⟩ := h
  obtain ⟨u1, rfl, rj⟩ := one_val r
  obtain ⟨t, rfl⟩ := rj
  refine call_range_1 ⟨.ref s.heap.objs.size, upd H s.heap.objs.size (.rng 0 j), I.laid (fun b o z => Heap.get?_push_of_some _ z) (Nat.le_refl _) ?_, rfl, q _ (I.hok.fresh (Nat.le_refl _))⟩
  exact ⟨_, t, _, Heap.get?_push_size _ rfl⟩
/-- range(b) or range(a, b): the bounds -/
def bds (rs : List R) : Option (Int × Int) := match rs with
  | [.val (.int j)] => some (0, j)
  | [.val (.int i), .val (.int j)] => some (i, j)
  | _ => none
theorem col_R {pins : List (Addr × Obj)} {σ : L2.St} {φ : Ad} {H : Hp} {s : Shared} {a : Addr} {i j : Int} (I : Inv X pins σ H s) (hc : X.calm = true) (h : H a = some (.rng i j)) (ok : RgOk i j) {E : Value → Shared → Prop} :
    wpAny (model X.prog X.w) X.A.in1 (collect (.ref a)) (fun vs s1 => Inv X pins σ H s1 ∧ (∀ b o, s.heap.get? b = some o → s1.heap.get? b = some o) ∧ PySem.W.EachIs (Rk X.K φ H) vs (rngD i (j - i).toNat)) E s := by
  obtain ⟨t, u, v, ho⟩ := I.hok a _ h
  obtain ⟨b1, b2, b3, b4, b5⟩ := ok
  refine collect_range (A := X.A.in1) (a := i) (b := j) (c := 1) (t := t) (u := u) (v := v) (n := (j - i).toNat) (I.ok.hd hc) ho (small_one b1 b2 b3 b4) (rangeSize_nat i j) b5 fun h' tk acc up hi => ⟨I.kept up, up, ?_⟩
  exact each_of (rgV_dp i j) (vals_rg hi)
def eSortKR (bs : List Bool) (fb : EF) (fa : AF) : EF := fun env m => (fa env m).bind fun x => (bds x.1).bind fun b => if rgOkB b.1 b.2 = true then sortKF (keyF fb bs env) (rngD b.1 (b.2 - b.1).toNat) x.2 else none
theorem x_sortKR {e : Expr} {es : List Expr} {fa : AF} {pr pr2 : Pos} (L : LamOk ζ X k bs fb p params body scope c P) (hc : X.calm = true) (hr : Room (k + 3) X.A) (hg : Gl X "sorted") (hm : X.mg "sorted" = none) (hg2 : Gl X "range") (hm2 : X.mg "range" = none) (ha : PA X (e :: es) (tA ζ X.K fa))
    (he : starEach (e :: es) X.env = (false, eval e X.env) :: starEach es X.env := by rfl) (hpl : (backTo pr2 (starEach es X.env)).any (·.1) = false := by rfl)
    (h0 : starEach [.Call (.Name "range" pr) (e :: es) [] pr2] X.env = (false, eval (.Call (.Name "range" pr) (e :: es) [] pr2) X.env) :: starEach [] X.env := by rfl)
    (h1 : backTo pos (starEach [.Call (.Name "range" pr) (e :: es) [] pr2] X.env) = (false, eval (.Call (.Name "range" pr) (e :: es) [] pr2) X.env) :: backTo pos (starEach [] X.env) := by rfl) (h2 : (backTo pos (starEach [.Call (.Name "range" pr) (e :: es) [] pr2] X.env)).any (·.1) = false := by rfl) :
    PE X (.Call (.Name "sorted" p0) [.Call (.Name "range" pr) (e :: es) [] pr2] [⟨some "key", .Lambda params body scope lpos, kpos⟩] pos) (tE ζ X.K (eSortKR bs fb fa)) := by
  refine ⟨fun pins s σ H Q I h => ?_⟩
  obtain ⟨φ, env, m, r, m', S, E, hf, q⟩ := h
  obtain ⟨⟨rs, m1⟩, h5, hf⟩ := bind_some_iff hf
  obtain ⟨⟨i, j⟩, h4, hf⟩ := bind_some_iff hf
  simp only at hf h4
  split at hf
  · rename_i ok
    have hrg : ∀ vs H1 φ1 (Q : VK), RRs X.K φ1 H1 vs rs → (∀ p, H1 p = none → Q (.ref p) (upd H1 p (.rng i j))) → (∀ pins s σ us, Inv X pins σ H1 s → Vals vs us → wpAny (model X.prog X.w) X.A (call (.type "range") us) (EP X pins σ Q) X.xe s) := by
      intro vs H1 φ1 Q R q pins s σ us I rv
      unfold bds at h4
      split at h4
      · cases h4
        cases R with
        | cons a t =>
          cases t
          have e := rr_int a
          subst e
          exact cr_range1 pins s σ H1 _ us Q I rv ⟨_, rfl, q⟩
      · cases h4
        cases R with
        | cons a t =>
          cases t with
          | cons b t =>
            cases t
            have e := rr_int a
            have e2 := rr_int b
            subst e e2
            exact cr_range2 pins s σ H1 _ us Q I rv ⟨_, _, rfl, q⟩
      · cases h4
    have hR : PE X (.Call (.Name "range" pr) (e :: es) [] pr2) (fun σ H Q => ∃ φ env m m', SR ζ X.K φ H m ∧ ER X.K φ H σ env ∧ fa env m = some (rs, m') ∧ ∀ φ' H' p, Gr φ H φ' H' → SR ζ X.K φ' H' m' → H' p = none → Q (.ref p) (upd H' p (.rng i j))) := by
      refine ⟨fun pins s σ H Q I h => ?_⟩
      obtain ⟨φ, env, m, m', S, E, hf, q⟩ := h
      refine wpAny_Call_Name_kw (ld_blt I hg2 hm2 boot_range ?_)
      refine PyProof.Rows.callWith_type1 (thn (ha.run pr2 pins s σ H (fun vs H1 => ∃ φ1, Gr φ H φ1 H1 ∧ SR ζ X.K φ1 H1 m' ∧ RRs X.K φ1 H1 vs rs) I ⟨φ, env, m, rs, m', S, E, hf, fun φ1 H1 vs g1 S1 R1 => ⟨φ1, g1, S1, R1⟩⟩) fun us s1 ⟨vs, H1, I1, rvs, φ1, g1, S1, R1⟩ => ?_) he hpl
      exact hrg vs H1 φ1 Q R1 (fun p hp => q φ1 H1 p g1 S1 hp) pins s1 σ us I1 rvs
    refine wpAny_Call_Name_kw (ld_blt I hg hm bt_sorted ?_)
    refine callWith_kw (args_cons (thn (hR.run pins s σ H (fun v H1 => ∃ φ1 p, Gr φ H φ1 H1 ∧ SR ζ X.K φ1 H1 m1 ∧ v = .ref p ∧ off φ1 H1 p = some (.rng i j)) I ⟨φ, env, m, m1, S, E, h5, fun φ1 H1 p g1 S1 hp => ⟨φ1, p, g1.trans (gr_alloc hp), S1.alloc hp, rfl, off_some.mpr ⟨S1.new hp, upd_same, rfl⟩⟩⟩) fun u s1 ⟨v, H1, I1, rv, φ1, p1, g1, S1, ev, ho⟩ => args_nil ?_) h0) h1 h2
    subst ev
    obtain rfl : u = Value.ref p1 := rv
    show wpAny _ _ (evalAll ((do let v ← eval (.Lambda params body scope lpos) X.env; standAt pos; pure v) :: (backToKw pos (keywordEach [] X.env)).map (·.2))) _ _ s1
    refine wpAny_evalAll_cons (wpAny_bind (lam_make L I1 S1 fun f H2 s2 I2 g2 S2 LA => wpAny_bind (wpAny_standAt (wpAny_pure (wpAny_evalAll_nil ?_)))))
    exact sortK_core I2 hr S2 (E.mono (g1.trans g2)) LA hf (fun E' => col_R I2 hc (off_some.mp (g2.same _ _ ho)).2.1 (rgOk_of ok)) fun φ2 H3 v2 g3 S3 R3 => q φ2 H3 v2 (g1.trans (g2.trans g3)) S3 R3
  · cases hf
end
end Ev
namespace Ev
open PySem PySem.Spec PyProof.Rows L2 LamX
theorem msk_ok {N : List Str} {p : Str} {bs : List Bool} (h : (N.map fun x => decide (x = p)) = bs) (i : Nat) (e : N[i]? = some p) : bs[i]? = some true := by
  rw [← h, List.getElem?_map, e]
  simp
theorem msk_no {N : List Str} {p : Str} {bs : List Bool} (h : N.contains p = false) (i : Nat) (e : N[i]? = some p) : bs[i]? = some true := by
  have := List.mem_of_getElem? e
  rw [← List.contains_iff_mem, h] at this
  cases this
theorem tab_uniq : ∀ (ζ : Tbs) {P : Addr} {x : Str}, (ζ.map Prod.fst).Nodup → (P, x) ∈ ζ → ∀ p ∈ ζ, p.1 = P → p.2 = x
  | [], _, _, _, h => by cases h
  | z :: ζ, P, x, nd, h => fun p hp e => by
    rw [List.map_cons, List.nodup_cons] at nd
    rcases List.mem_cons.mp h with h | h
    · rcases List.mem_cons.mp hp with q | q
      · rw [q, ← h]
      · exact absurd (List.mem_map.mpr ⟨p, q, by rw [e, ← h]⟩) nd.1
    · rcases List.mem_cons.mp hp with q | q
      · refine absurd (List.mem_map.mpr ⟨_, h, ?_⟩) nd.1
        rw [← q, e]
      · exact tab_uniq ζ nd.2 h p q e
end Ev

/-! fractions, in plain Lean -/
namespace Qa
theorem low_num (n d : Int) (h : 0 < d) : n / (Int.gcd n d : Int) = ((n:Rat)/d).num ∧ d / (Int.gcd n d : Int) = (((n:Rat)/d).den : Int) := by
  rw [← Rat.divInt_eq_div, Rat.num_divInt, Rat.den_divInt]
  rw [Int.sign_eq_one_of_pos h, Int.gcd_comm d n]
  constructor
  · rw [Int.one_mul]
  · rw [if_neg (by omega)]
    have : (d.natAbs : Int) = d := by omega
    push_cast
    rw [this]
theorem frac (x : Rat) : ((x.num : Int) : Rat) / (((x.den : Nat) : Int) : Rat) = x := by
  rw [← Rat.divInt_eq_div, Rat.num_divInt_den]
theorem den_pos (x : Rat) : (0 : Int) < ((x.den : Nat) : Int) := by
  have := x.den_nz
  omega
theorem den_ne (x : Rat) : (((x.den : Nat) : Int) : Rat) ≠ 0 := by
  have h := x.den_nz
  intro e
  have : ((x.den : Nat) : Int) = 0 := by exact_mod_cast e
  omega
theorem add_eq (x y : Rat) : (((x.num * y.den + y.num * x.den : Int)) : Rat) / ((((x.den * y.den : Int))) : Rat) = x + y := by
  have h1 := frac x
  have h2 := frac y
  have h3 := den_ne x
  have h4 := den_ne y
  push_cast at *
  generalize ((x.num : Int) : Rat) = a at *
  generalize ((y.num : Int) : Rat) = b at *
  generalize ((x.den : Nat) : Rat) = c at *
  generalize ((y.den : Nat) : Rat) = d at *
  rw [← h1, ← h2]
  grind
theorem mul_eq (x y : Rat) : (((x.num * y.num : Int)) : Rat) / ((((x.den * y.den : Int))) : Rat) = x * y := by
  have h1 := frac x
  have h2 := frac y
  have h3 := den_ne x
  have h4 := den_ne y
  push_cast at *
  generalize ((x.num : Int) : Rat) = a at *
  generalize ((y.num : Int) : Rat) = b at *
  generalize ((x.den : Nat) : Rat) = c at *
  generalize ((y.den : Nat) : Rat) = d at *
  rw [← h1, ← h2]
  grind
theorem num_neg (x : Rat) : (-x).num = -x.num ∧ (-x).den = x.den := ⟨rfl, rfl⟩
/-- a multiple of 1 / N -/
def In (N : Nat) (x : Rat) : Prop := ∃ k : Int, x * (N : Rat) = k
theorem In.add {N : Nat} {x y : Rat} (a : In N x) (b : In N y) : In N (x + y) := by
  obtain ⟨k, a⟩ := a
  obtain ⟨l, b⟩ := b
  refine ⟨k + l, ?_⟩
  push_cast
  grind
theorem In.neg {N : Nat} {x : Rat} (a : In N x) : In N (-x) := by
  obtain ⟨k, a⟩ := a
  refine ⟨-k, ?_⟩
  push_cast
  grind
theorem In.sub {N : Nat} {x y : Rat} (a : In N x) (b : In N y) : In N (x - y) := by
  obtain ⟨k, a⟩ := a
  obtain ⟨l, b⟩ := b
  refine ⟨k - l, ?_⟩
  push_cast
  grind
theorem In.mul {N M : Nat} {x y : Rat} (a : In N x) (b : In M y) : In (N * M) (x * y) := by
  obtain ⟨k, a⟩ := a
  obtain ⟨l, b⟩ := b
  refine ⟨k * l, ?_⟩
  push_cast
  grind
theorem In.int {N : Nat} (i : Int) : In N (i : Rat) := ⟨i * N, by push_cast; rfl⟩
theorem In.nat {N : Nat} (i : Nat) : In N (i : Rat) := ⟨i * N, by push_cast; rfl⟩
theorem In.up {N : Nat} {x : Rat} (a : In N x) (M : Nat) : In (N * M) x := by
  obtain ⟨k, a⟩ := a
  refine ⟨k * M, ?_⟩
  push_cast
  grind
theorem In.dvd {N M : Nat} {x : Rat} (a : In N x) (h : N ∣ M) : In M x := by
  obtain ⟨c, rfl⟩ := h
  exact a.up c
theorem In.inv {N : Nat} (h : 0 < N) : In N (1 / (N : Rat)) := ⟨1, by
  have : (N : Rat) ≠ 0 := by
    intro e
    have : N = 0 := by exact_mod_cast e
    omega
  grind⟩
theorem In.den {N : Nat} {x : Rat} (hN : 0 < N) (a : In N x) : x.den ∣ N := by
  obtain ⟨k, a⟩ := a
  have hn : (N : Rat) ≠ 0 := by
    intro e
    have : N = 0 := by exact_mod_cast e
    omega
  have e : x = (k : Rat) / (((N : Nat) : Int) : Rat) := by
    push_cast
    grind
  have h2 := (low_num k N (by omega)).2
  rw [← e] at h2
  have h3 : (x.den : Int) * (Int.gcd k N : Int) = N := by
    rw [← h2]
    exact Int.ediv_mul_cancel (Int.gcd_dvd_right _ _)
  exact ⟨Int.gcd k N, by exact_mod_cast h3.symm⟩
theorem In.den_le {N : Nat} {x : Rat} (hN : 0 < N) (a : In N x) : x.den ≤ N := Nat.le_of_dvd hN (a.den hN)
theorem num_le {B : Nat} {x : Rat} (h1 : -(B : Rat) ≤ x) (h2 : x ≤ (B : Rat)) : x.num.natAbs ≤ B * x.den := by
  have e1 := Rat.le_iff (a := -(B : Rat)) (b := x)
  have e2 := Rat.le_iff (a := x) (b := (B : Rat))
  have a1 := e1.mp h1
  have a2 := e2.mp h2
  have n1 : (-(B : Rat)).num = -(B : Int) := rfl
  have n2 : ((B : Rat)).num = (B : Int) := rfl
  have n3 : (-(B : Rat)).den = 1 := rfl
  have n4 : ((B : Rat)).den = 1 := rfl
  rw [n1, n3] at a1
  rw [n2, n4] at a2
  have e3 : (-(B : Int)) * (x.den : Int) = -(((B * x.den : Nat)) : Int) := by push_cast; grind
  have e4 : ((B : Int)) * (x.den : Int) = (((B * x.den : Nat)) : Int) := by push_cast; rfl
  rw [e3] at a1
  rw [e4] at a2
  omega
end Qa

set_option Elab.async false
set_option linter.all false
set_option maxRecDepth 100000
/-! greatest common divisors, fractions. -/
namespace Ev
open PySem PySem.Spec PyProof.Rows L2 Qa
theorem gcd_loop {c : TF} {body : SF} {m : M} (e : Nat → Nat → Sl) (hc : ∀ a b, c (e a b) m = some (decide (0 < b), m)) (hb : ∀ a b, 0 < b → body (e a b) m = some (.nx (e b (a % b)) m)) :
    ∀ (k n a b : Nat), b < 2 ^ k → 2 * k + 1 ≤ n → wloop c body n (e a b) m = some (.nx (e (Nat.gcd a b) 0) m)
  | k, 0, a, b, _, h => by omega
  | k, n + 1, a, 0, _, _ => by
    unfold wloop
    rw [hc, ob_some]
    simp
  | 0, n + 1, a, b + 1, h, _ => by simp at h
  | k + 1, n + 1, a, b + 1, h, hn => by
    have hp : 0 < b + 1 := Nat.succ_pos b
    have hlt : a % (b + 1) < b + 1 := Nat.mod_lt a hp
    unfold wloop
    rw [hc, ob_some]
    simp only [hp, decide_true, if_true]
    rw [hb a (b + 1) hp, ob_some, ev_aft_nx]
    have e1 : Nat.gcd a (b + 1) = Nat.gcd (b + 1) (a % (b + 1)) := by rw [Nat.gcd_comm a, Nat.gcd_rec, Nat.gcd_comm]
    rw [e1]
    cases n with
    | zero => omega
    | succ n =>
      by_cases hr : a % (b + 1) = 0
      · rw [hr]
        unfold wloop
        rw [hc, ob_some]
        simp
      · have hrp : 0 < a % (b + 1) := Nat.pos_of_ne_zero hr
        unfold wloop
        rw [hc, ob_some]
        simp only [hrp, decide_true, if_true]
        rw [hb _ _ hrp, ob_some, ev_aft_nx]
        have h2 : (b + 1) % (a % (b + 1)) < 2 ^ k := by
          have h3 : (b + 1) % (a % (b + 1)) < a % (b + 1) := Nat.mod_lt _ hrp
          have h4 : (b + 1) % (a % (b + 1)) + a % (b + 1) ≤ b + 1 := by
            have h5 := Nat.div_add_mod (b + 1) (a % (b + 1))
            have h6 : 1 ≤ (b + 1) / (a % (b + 1)) := Nat.div_pos (Nat.le_of_lt hlt) hrp
            have h7 : a % (b + 1) * 1 ≤ a % (b + 1) * ((b + 1) / (a % (b + 1))) := Nat.mul_le_mul_left _ h6
            omega
          rw [Nat.pow_succ] at h
          omega
        rw [gcd_loop e hc hb k n _ _ h2 (by omega)]
        have e2 : Nat.gcd (a % (b + 1)) ((b + 1) % (a % (b + 1))) = Nat.gcd (b + 1) (a % (b + 1)) := by rw [Nat.gcd_comm (a % (b + 1)), ← Nat.gcd_rec, Nat.gcd_comm]
        rw [e2]
/-- small: below 2 ^ k -/
def Sz (k : Nat) (i : Int) : Prop := i.natAbs < 2 ^ k
theorem Sz.log {k : Nat} {i : Int} (h : Sz k i) : i.natAbs.log2 ≤ k := by
  by_cases z : i.natAbs = 0
  · rw [z]; exact Nat.zero_le _
  · exact Nat.le_of_lt ((Nat.log2_lt z).mpr h)
theorem Sz.mul {k l : Nat} {i j : Int} (a : Sz k i) (b : Sz l j) : Sz (k + l) (i * j) := by
  unfold Sz at *
  rw [Int.natAbs_mul, Nat.pow_add]
  exact Nat.mul_lt_mul'' a b
theorem Sz.up {k l : Nat} {i : Int} (a : Sz k i) (h : k ≤ l) : Sz l i := Nat.lt_of_lt_of_le a (Nat.pow_le_pow_right (by decide) h)
theorem Sz.add {k : Nat} {i j : Int} (a : Sz k i) (b : Sz k j) : Sz (k + 1) (i + j) := by
  unfold Sz at *
  rw [Nat.pow_succ]
  omega
theorem Sz.neg {k : Nat} {i : Int} (a : Sz k i) : Sz k (-i) := by
  unfold Sz at *
  omega
theorem pm_sz {k l : Nat} {i j : Int} {m : M} (a : Sz k i) (b : Sz l j) (h : k + l < 900000) : pMul (.val (.int i)) (.val (.int j)) m = some (.val (.int (i * j)), m) := by
  have h : mulOk i j = true := by
    have h1 := a.log
    have h2 := b.log
    exact decide_eq_true (by omega)
  show (if mulOk i j = true then some (R.val (.int (i * j)), m) else none) = _
  rw [if_pos h]
theorem pdv_sz {k : Nat} {i j : Int} {m : M} (hj : 0 < j) (b : Sz k j) (h : k < 8000) : pDiv (.val (.int i)) (.val (.int j)) m = some (.val (.int (i / j)), m) := by
  have h : divOk i j = true := by
    have h2 := b.log
    exact decide_eq_true ⟨hj, by omega⟩
  show (if divOk i j = true then some (R.val (.int (i / j)), m) else none) = _
  rw [if_pos h]
/-- a fraction as the program has it -/
def encQ (x : Rat) : D := .tuple [.int x.num, .int (x.den : Int)]
/-- below 2 ^ 1000, above and below the line -/
structure SmQ (x : Rat) : Prop where
  num : Sz 1000 x.num
  den : Sz 1000 (x.den : Int)
theorem SmQ.of {N B : Nat} {x : Rat} (hN : 0 < N) (a : In N x) (h1 : -(B : Rat) ≤ x) (h2 : x ≤ (B : Rat)) (h : B * N < 2 ^ 1000) (hN2 : N < 2 ^ 1000) : SmQ x := by
  have h3 := num_le h1 h2
  have h4 := a.den_le hN
  refine ⟨Nat.lt_of_le_of_lt (Nat.le_trans h3 (Nat.mul_le_mul_left B h4)) h, ?_⟩
  show ((x.den : Nat) : Int).natAbs < 2 ^ 1000
  rw [Int.natAbs_natCast]
  exact Nat.lt_of_le_of_lt h4 hN2
theorem SmQ.nat {n : Nat} (h : n < 2 ^ 1000) : SmQ (n : Rat) := ⟨by show ((n : Nat) : Int).natAbs < _; rw [Int.natAbs_natCast]; exact h, by show (1 : Nat) < 2 ^ 1000; exact Nat.one_lt_two_pow (by decide)⟩
theorem encQ_nat (n : Nat) : encQ (n : Rat) = .tuple [.int n, .int 1] := rfl
theorem encQ_0 : encQ 0 = .tuple [.int 0, .int 1] := rfl
theorem encQ_1 : encQ 1 = .tuple [.int 1, .int 1] := rfl
theorem inv_num {n : Nat} (h : 0 < n) : (1 / (n : Rat)).num = 1 ∧ (1 / (n : Rat)).den = n := by
  have e := low_num 1 n (by omega)
  have g : Int.gcd 1 n = 1 := by simp
  rw [g] at e
  have e2 : ((1 : Int) : Rat) / (((n : Nat) : Int) : Rat) = 1 / (n : Rat) := by push_cast; rfl
  rw [e2] at e
  refine ⟨by rw [← e.1]; simp, ?_⟩
  have := e.2
  have h2 : ((n : Nat) : Int) / ((1 : Nat) : Int) = n := by simp
  rw [h2] at this
  exact_mod_cast this.symm
theorem encQ_inv {n : Nat} (h : 0 < n) : encQ (1 / (n : Rat)) = .tuple [.int 1, .int n] := by
  unfold encQ
  rw [(inv_num h).1, (inv_num h).2]
theorem encQ_neg (x : Rat) : encQ (-x) = .tuple [.int (-x.num), .int (x.den : Int)] := rfl
theorem pixq0 {x : Rat} {m : M} : pIdx (.val (encQ x)) (.val (.int 0)) m = some (.val (.int x.num), m) := by
  unfold encQ
  rw [pix_t, atI_0]
  rfl
theorem pixq1 {x : Rat} {m : M} : pIdx (.val (encQ x)) (.val (.int 1)) m = some (.val (.int (x.den : Int)), m) := by
  unfold encQ
  rw [pix_t, atI_1]
  rfl
theorem num_pos (x : Rat) : 0 < x.num ↔ 0 < x := by
  rw [Rat.lt_iff]
  have h1 : (0 : Rat).num = 0 := rfl
  have h2 : (0 : Rat).den = 1 := rfl
  rw [h1, h2]
  simp
theorem num_zero (x : Rat) : x.num = 0 ↔ x = 0 := Rat.num_eq_zero
/-- ints as data -/
def encI (l : List Nat) : List D := l.map fun a : Nat => .int a
def encT (l : List Nat) : D := .tuple (encI l)
theorem encI_len (l : List Nat) : (encI l).length = l.length := by unfold encI; rw [List.length_map]
theorem encI_get {l : List Nat} {i a : Nat} (h : l[i]? = some a) : (encI l)[i]? = some (.int a) := by
  unfold encI
  rw [List.getElem?_map, h]
  rfl
theorem sum_cast : ∀ l : List Nat, (l.map fun a : Nat => (a : Int)).sum = ((l.sum : Nat) : Int)
  | [] => rfl
  | a :: l => by
    rw [List.map_cons, List.sum_cons, sum_cast l, List.sum_cons]
    push_cast
    rfl
theorem psum_T {l : List Nat} {m : M} : pSum [.val (encT l)] m = some (.val (.int (l.sum : Nat)), m) := by
  have h := psum_t (m := m) l (fun a : Nat => (a : Int))
  rw [sum_cast] at h
  exact h
theorem plen_T {l : List Nat} {m : M} : pLen [.val (encT l)] m = some (.val (.int (l.length : Nat)), m) := by
  unfold encT
  rw [plen_t, encI_len]
theorem pix_T {l : List Nat} {i a : Nat} {m : M} (h : l[i]? = some a) : pIdx (.val (encT l)) (.val (.int (i : Nat))) m = some (.val (.int a), m) := by
  unfold encT
  rw [pix_t, at_nat (encI_get h)]
  rfl
theorem pix_T0 {l : List Nat} {a : Nat} {m : M} (h : l[0]? = some a) : pIdx (.val (encT l)) (.val (.int 0)) m = some (.val (.int a), m) := pix_T (i := 0) h
/-! slices -/
def sl1 (r : R) (lo hi : Option Int) (m : M) : Option (R × M) := match r with
  | .val (.tuple ds) => some (.val (.tuple (cutD ds lo hi)), m)
  | r => (asL r m).bind fun ds => some (.val (.list (cutD ds lo hi)), m)
theorem ev_sl {f : EF} {l h : OF} {env : Sl} {m : M} : eSl f l h env m = (f env m).bind fun x => (l env x.2).bind fun y => (h env y.2).bind fun z => sl1 x.1 y.1 z.1 z.2 := nr rfl
theorem ev_oNone {env : Sl} {m : M} : oNone env m = some (none, m) := nr rfl
theorem ev_oSome {f : EF} {env : Sl} {m : M} : oSome f env m = (f env m).bind fun x => (asI x.1).bind fun i => some (some i, x.2) := nr rfl
theorem sl1_r {k : Nat} {m : M} {ds : List D} {lo hi : Option Int} (h : m[k]? = some (.lst ds)) : sl1 (.ref k) lo hi m = some (.val (.list (cutD ds lo hi)), m) := by
  show ((asL (.ref k) m).bind fun ds => some (R.val (.list (cutD ds lo hi)), m)) = _
  rw [asL_r h]
  rfl
theorem sl1_t {m : M} {ds : List D} {lo hi : Option Int} : sl1 (.val (.tuple ds)) lo hi m = some (.val (.tuple (cutD ds lo hi)), m) := nr rfl
theorem sl1_l {m : M} {ds : List D} {lo hi : Option Int} : sl1 (.val (.list ds)) lo hi m = some (.val (.list (cutD ds lo hi)), m) := nr rfl
theorem six_nat {n d k : Nat} : HT.sIx n d (some (k : Int)) = min k n := by
  unfold HT.sIx
  simp
  omega
theorem cut_take {ds : List D} {k : Nat} : cutD ds none (some (k : Int)) = ds.take k := by
  unfold cutD
  rw [six_nat]
  show (ds.drop 0).take (min k ds.length - 0) = _
  rw [List.drop_zero, Nat.sub_zero, ← List.take_eq_take_min]
theorem cut_drop {ds : List D} {k : Nat} : cutD ds (some (k : Int)) none = ds.drop k := by
  unfold cutD
  rw [six_nat]
  show (ds.drop (min k ds.length)).take (ds.length - min k ds.length) = _
  by_cases h : k ≤ ds.length
  · rw [Nat.min_eq_left h]
    refine List.take_of_length_le ?_
    rw [List.length_drop]
    exact Nat.le_refl _
  · rw [Nat.min_eq_right (by omega), Nat.sub_self, List.take_zero, List.drop_eq_nil_of_le (by omega)]
theorem cut_mid {ds : List D} {j k : Nat} (h : j ≤ k) : cutD ds (some (j : Int)) (some (k : Int)) = (ds.take k).drop j := by
  unfold cutD
  rw [six_nat, six_nat, List.drop_take]
  by_cases h2 : k ≤ ds.length
  · rw [Nat.min_eq_left h2, Nat.min_eq_left (by omega)]
  · by_cases h3 : j ≤ ds.length
    · rw [Nat.min_eq_right (by omega), Nat.min_eq_left h3, List.take_of_length_le, List.take_of_length_le]
      · rw [List.length_drop]; omega
      · rw [List.length_drop]; omega
    · rw [Nat.min_eq_right (by omega), Nat.min_eq_right (by omega), List.drop_eq_nil_of_le (by omega), List.drop_eq_nil_of_le (by omega)]
      simp
theorem encI_take (l : List Nat) (k : Nat) : (encI l).take k = encI (l.take k) := by
  unfold encI
  rw [List.map_take]
theorem encI_drop (l : List Nat) (k : Nat) : (encI l).drop k = encI (l.drop k) := by
  unfold encI
  rw [List.map_drop]
/-! whole part -/
theorem floor_facts (x : Rat) (h : 0 ≤ x) : ∃ w : Nat, x.num / (x.den : Int) = (w : Nat) ∧ (w : Rat) ≤ x ∧ x < (w : Rat) + 1 ∧ (((x.num % (x.den : Int) : Int)) : Rat) / (((x.den : Nat) : Int) : Rat) = x - (w : Rat) := by
  have hd := den_pos x
  have hn : 0 ≤ x.num := by
    rw [Rat.le_iff] at h
    have h1 : (0 : Rat).num = 0 := rfl
    have h2 : (0 : Rat).den = 1 := rfl
    rw [h1, h2] at h
    simpa using h
  have hw := Int.ediv_nonneg hn (Int.le_of_lt hd)
  obtain ⟨w, hw2⟩ : ∃ w : Nat, x.num / (x.den : Int) = w := ⟨(x.num / (x.den : Int)).toNat, by omega⟩
  have e := Int.emod_add_mul_ediv x.num (x.den : Int)
  have r0 := Int.emod_nonneg x.num (show ((x.den : Nat) : Int) ≠ 0 by omega)
  have r1 := Int.emod_lt_of_pos x.num hd
  rw [hw2] at e
  have f := frac x
  have dn := den_ne x
  have dp : (0 : Rat) < (((x.den : Nat) : Int) : Rat) := by exact_mod_cast hd
  have e' : ((x.num % (x.den : Int) : Int) : Rat) + (((x.den : Nat) : Int) : Rat) * (w : Rat) = ((x.num : Int) : Rat) := by exact_mod_cast congrArg (fun z : Int => (z : Rat)) e
  have key : (((x.num % (x.den : Int) : Int)) : Rat) / (((x.den : Nat) : Int) : Rat) = x - (w : Rat) := by
    rw [← f, ← e']
    grind
  have r0' : (0 : Rat) ≤ (((x.num % (x.den : Int) : Int)) : Rat) := by exact_mod_cast r0
  have r1' : (((x.num % (x.den : Int) : Int)) : Rat) < (((x.den : Nat) : Int) : Rat) := by exact_mod_cast r1
  have k0 : (0 : Rat) ≤ (((x.num % (x.den : Int) : Int)) : Rat) / (((x.den : Nat) : Int) : Rat) := by
    rw [Rat.div_def]
    exact Rat.mul_nonneg r0' (Rat.le_of_lt (Rat.inv_pos.mpr dp))
  have k1 : (((x.num % (x.den : Int) : Int)) : Rat) / (((x.den : Nat) : Int) : Rat) < 1 := by
    have := (Rat.mul_lt_mul_right (Rat.inv_pos.mpr dp)).mpr r1'
    rw [← Rat.div_def, ← Rat.div_def] at this
    grind
  exact ⟨w, hw2, by grind, by grind, key⟩
/-! a list of the store gone through -/
theorem stepR_nx {k i n : Nat} {ds : List D} {d : D} {m m1 m2 : M} {gf : GF} {sf : SF} {env env1 env2 : Sl} (hm : m[k]? = some (.lst ds)) (hd : ds[i]? = some d) (hg : gf (.val d) env m = some (env1, m1)) (hb : sf env1 m1 = some (.nx env2 m2)) :
    loop (srcR k) gf sf (n + 1) i env m = loop (srcR k) gf sf n (i + 1) env2 m2 := by
  have e : srcR k i m = some (some d) := by
    unfold srcR
    rw [hm]
    simp only [hd]
  show ((srcR k i m).bind fun o => match o with
    | none => some (.nx env m)
    | some d => (gf (.val d) env m).bind fun x => (sf x.1 x.2).bind fun fl => aftF fl (loop (srcR k) gf sf n (i + 1))) = _
  rw [e, ob_some]
  simp only [hg, ob_some, hb, ev_aft_nx]
theorem stepR_rt {k i n : Nat} {ds : List D} {d : D} {m m1 m2 : M} {gf : GF} {sf : SF} {env env1 : Sl} {r : R} (hm : m[k]? = some (.lst ds)) (hd : ds[i]? = some d) (hg : gf (.val d) env m = some (env1, m1)) (hb : sf env1 m1 = some (.rt r m2)) :
    loop (srcR k) gf sf (n + 1) i env m = some (.rt r m2) := by
  have e : srcR k i m = some (some d) := by
    unfold srcR
    rw [hm]
    simp only [hd]
  show ((srcR k i m).bind fun o => match o with
    | none => some (.nx env m)
    | some d => (gf (.val d) env m).bind fun x => (sf x.1 x.2).bind fun fl => aftF fl (loop (srcR k) gf sf n (i + 1))) = _
  rw [e, ob_some]
  simp only [hg, ob_some, hb, ev_aft_rt]
theorem endR {k i n : Nat} {ds : List D} {m : M} {gf : GF} {sf : SF} {env : Sl} (hm : m[k]? = some (.lst ds)) (hd : ds[i]? = none) : loop (srcR k) gf sf n i env m = some (.nx env m) := by
  have e : srcR k i m = some none := by
    unfold srcR
    rw [hm]
    simp only [hd]
  cases n <;> simp [loop, e]
theorem run_ref {k : Nat} {ds : List D} {m : M} {gf : GF} {sf : SF} {env : Sl} (hm : m[k]? = some (.lst ds)) : runI (an1 (.ref k) m) gf sf env = loop (srcR k) gf sf ds.length 0 env m := by
  unfold an1 runI
  simp only [hm, ob_some]
theorem eraseIdx_mapL {α β : Type} (f : α → β) : ∀ (l : List α) (j : Nat), (l.map f).eraseIdx j = (l.eraseIdx j).map f
  | [], j => by simp
  | a :: l, 0 => by simp
  | a :: l, j + 1 => by simp [eraseIdx_mapL f l j]
theorem place_enc {i : Nat} : ∀ {l : List Nat}, i ∈ l → ∃ j, placeI (i : Int) (l.map fun a : Nat => (a : Int)) = some j ∧ l.eraseIdx j = l.erase i
  | [], h => by cases h
  | a :: l, h => by
    rw [List.map_cons]
    unfold placeI
    by_cases e : a = i
    · subst e
      exact ⟨0, by rw [if_pos rfl], by simp⟩
    · have e2 : ¬ ((a : Int) = (i : Int)) := by omega
      rw [if_neg e2]
      rcases List.mem_cons.mp h with z | z
      · exact absurd z.symm e
      · obtain ⟨j, h1, h2⟩ := place_enc z
        refine ⟨j + 1, by rw [h1]; rfl, ?_⟩
        rw [List.eraseIdx_cons_succ, h2, List.erase_cons_tail (by simpa using e)]
theorem remove_enc {l : List Nat} {i k : Nat} {m : M} (nd : l.Nodup) (h : i ∈ l) (hm : m[k]? = some (.lst (encI l))) : pRemove (.ref k) [.val (.int (i : Nat))] m = some (.val .none, m.set k (.lst (encI (l.filter fun j => j != i)))) := by
  obtain ⟨j, h1, h2⟩ := place_enc h
  have e1 : asIs (encI l) = some (l.map fun a : Nat => (a : Int)) := asIs_map' l fun a : Nat => (a : Int)
  show ((m[k]?).bind fun o => match o with
    | .lst ds => (asIs ds).bind fun ns => (placeI (i : Int) ns).bind fun j => some (R.val .none, m.set k (.lst ((ns.eraseIdx j).map PyData.int)))
    | .dct _ _ _ => none) = _
  rw [hm, ob_some]
  simp only [e1, ob_some, h1]
  have e2 : ((l.map fun a : Nat => (a : Int)).eraseIdx j).map PyData.int = encI (l.filter fun j => j != i) := by
    rw [eraseIdx_mapL, h2, List.Nodup.erase_eq_filter nd]
    unfold encI
    rw [List.map_map]
    rfl
  rw [e2]
/-! one turn of a while -/
theorem w_nx {c : TF} {body : SF} {n : Nat} {env e2 : Sl} {m m1 m2 : M} (hc : c env m = some (true, m1)) (hb : body env m1 = some (.nx e2 m2)) : wloop c body (n + 1) env m = wloop c body n e2 m2 := by
  show ((c env m).bind fun x => if x.1 = true then (body env x.2).bind fun fl => aftF fl (wloop c body n) else some (.nx env x.2)) = _
  rw [hc, ob_some]
  simp only [if_true, hb, ob_some, ev_aft_nx]
theorem w_end {c : TF} {body : SF} {n : Nat} {env : Sl} {m m1 : M} (hc : c env m = some (false, m1)) : wloop c body (n + 1) env m = some (.nx env m1) := by
  show ((c env m).bind fun x => if x.1 = true then (body env x.2).bind fun fl => aftF fl (wloop c body n) else some (.nx env x.2)) = _
  rw [hc, ob_some]
  simp only [Bool.false_eq_true, if_false]
end Ev

set_option Elab.async false
set_option linter.all false
set_option maxRecDepth 100000
/-! repr of data that is not large. -/
namespace Ev
open PySem PySem.Spec PyProof.Rows L2
structure Sh (w dep : Nat) (d : D) : Prop where
  sm : smallD d = true
  wt : d.weight ≤ w
  dp : d.depth ≤ dep
structure ShA (w dep : Nat) (ds : List D) : Prop where
  sm : smallDs ds = true
  wt : PyData.weightAll ds ≤ w
  dp : PyData.depthAll ds ≤ dep
theorem Sh.int {i : Int} (h : -(1000000000000000000000000 : Int) < i ∧ i < (1000000000000000000000000 : Int)) : Sh 81 0 (.int i) := by
  refine ⟨decide_eq_true h, ?_, Nat.le_refl _⟩
  have h1 := int_log h
  show (if i == 0 then 0 else i.natAbs.log2 + 1) ≤ 81
  split
  · exact Nat.zero_le _
  · have := log2_lt_of (k := 79) (Nat.lt_of_lt_of_le h1 (by decide))
    omega
theorem Sh.up {w w' dep dep' : Nat} {d : D} (h : Sh w dep d) (hw : w ≤ w') (hd : dep ≤ dep') : Sh w' dep' d := ⟨h.sm, Nat.le_trans h.wt hw, Nat.le_trans h.dp hd⟩
theorem Sh.non : Sh 1 0 .none := ⟨rfl, by decide, by decide⟩
theorem Sh.bl {b : Bool} : Sh 1 0 (.bool b) := ⟨rfl, by cases b <;> decide, by cases b <;> decide⟩
theorem ShA.nil : ShA 0 0 [] := ⟨rfl, Nat.le_refl _, Nat.le_refl _⟩
theorem ShA.cons {w v a b : Nat} {d : D} {ds : List D} (h : Sh w a d) (t : ShA v b ds) : ShA (w + 1 + v) (max a b) (d :: ds) := by
  refine ⟨?_, ?_, ?_⟩
  · show (smallD d && smallDs ds) = true
    rw [h.sm, t.sm]
    rfl
  · show d.weight + 1 + PyData.weightAll ds ≤ _
    have := h.wt
    have := t.wt
    omega
  · show max d.depth (PyData.depthAll ds) ≤ _
    have := h.dp
    have := t.dp
    omega
theorem Sh.tup {w dep : Nat} {ds : List D} (h : ShA w dep ds) : Sh w (dep + 1) (.tuple ds) := ⟨h.sm, h.wt, by
  show PyData.depthAll ds + 1 ≤ _
  have := h.dp
  omega⟩
theorem Sh.lst {w dep : Nat} {ds : List D} (h : ShA w dep ds) : Sh w (dep + 1) (.list ds) := ⟨h.sm, h.wt, by
  show PyData.depthAll ds + 1 ≤ _
  have := h.dp
  omega⟩
theorem ShA.map {α : Type} {w dep : Nat} {f : α → D} : ∀ {l : List α}, (∀ x ∈ l, Sh w dep (f x)) → ShA ((w + 1) * l.length) dep (l.map f)
  | [], _ => ⟨rfl, Nat.le_refl _, Nat.zero_le _⟩
  | a :: l, h => by
    have ih := ShA.map (l := l) fun x hx => h x (List.mem_cons_of_mem _ hx)
    have := ShA.cons (h a (by simp)) ih
    rw [Nat.max_self] at this
    rw [List.length_cons, Nat.mul_succ, Nat.add_comm]
    exact this
theorem Sh.repr {w dep : Nat} {d : D} {m : M} (h : Sh w dep d) (hw : w ≤ 500000) (hd : dep ≤ 60) : pRepr [.val d] m = some (.val (.str d.shown), m) := pRepr_ok h.sm (Nat.le_trans h.dp hd) (Nat.le_trans h.wt hw)
theorem sh_encI {l : List Nat} (h : ∀ a ∈ l, a < 1000000000000000000000000) : ShA (82 * l.length) 0 (encI l) := by
  refine ShA.map (f := fun a : Nat => PyData.int a) fun a ha => Sh.int ⟨by omega, ?_⟩
  have := h a ha
  omega
/-- a fraction that is not large -/
theorem sh_Q {N B : Nat} {x : Rat} (hN : 0 < N) (a : Qa.In N x) (h1 : -(B : Rat) ≤ x) (h2 : x ≤ (B : Rat)) (h : B * N < 1000000000000000000000000) (hN2 : N < 1000000000000000000000000) : Sh 164 1 (encQ x) := by
  have h3 := Qa.num_le h1 h2
  have h4 := a.den_le hN
  have h5 : B * x.den ≤ B * N := Nat.mul_le_mul_left B h4
  have e1 : Sh 81 0 (.int x.num) := Sh.int (by omega)
  have e2 : Sh 81 0 (.int (x.den : Int)) := Sh.int (by omega)
  exact (Sh.tup (ShA.cons e1 (ShA.cons e2 ShA.nil))).up (by decide) (by decide)
theorem ev_gTp {n : Nat} {g : GsF} {ds : List D} {env : Sl} {m : M} : gTp n g (.val (.tuple ds)) env m = if ds.length = n then g (ds.map R.val) env m else none := nr rfl
theorem ev_gsC {g : GF} {h : GsF} {r : R} {rs : List R} {env : Sl} {m : M} : gsCons g h (r :: rs) env m = (g r env m).bind fun x => h rs x.1 x.2 := nr rfl
theorem ev_gsN {env : Sl} {m : M} : gsNil [] env m = some (env, m) := nr rfl
end Ev

set_option Elab.async false
set_option linter.all false
set_option maxRecDepth 100000
/-! sorting by keys, of known values. -/
namespace Ev
open PySem PySem.Spec PyProof.Rows L2
theorem kfold_map {α : Type} {fk : D → M → Option (D × M)} {m : M} (enc K : α → D) : ∀ (l : List α), (∀ a ∈ l, fk (enc a) m = some (K a, m)) → kfold fk (l.map enc) m = some (l.map K, m)
  | [], _ => rfl
  | a :: l, h => by
    rw [List.map_cons]
    unfold kfold
    rw [h a (by simp), ob_some, kfold_map enc K l fun b hb => h b (List.mem_cons_of_mem _ hb), ob_some]
    rfl
theorem sortKD_map {α : Type} (enc K : α → D) (l : List α) : sortKD (l.map K) (l.map enc) = (l.mergeSort fun a b => PySem.W.dataLe false K a b).map enc := by
  unfold sortKD
  have e : (l.map K).zip (l.map enc) = l.map fun a => (K a, enc a) := by
    induction l with
    | nil => rfl
    | cons a l ih => simp [ih]
  have e2 := List.map_mergeSort (r := fun a b => PySem.W.dataLe false K a b) (s := PySem.W.dataLe false Prod.fst) (f := fun a => (K a, enc a)) (l := l) fun a _ b _ => rfl
  rw [e, ← e2, List.map_map]
  rfl
theorem depth_map {α : Type} {K : α → D} {n : Nat} : ∀ (l : List α), (∀ a ∈ l, (K a).depth ≤ n) → PyData.depthAll (l.map K) ≤ n
  | [], _ => Nat.zero_le _
  | a :: l, h => by
    have := h a (by simp)
    have := depth_map l fun b hb => h b (List.mem_cons_of_mem _ hb)
    show max (K a).depth (PyData.depthAll (l.map K)) ≤ n
    omega
theorem sortable_tup {α : Type} {K : α → D} (l : List α) (h : ∀ a ∈ l, ∃ x xs, K a = .tuple (x :: xs)) (hal : ∀ a ∈ l, ∀ b ∈ l, PySem.W.alike (K a) (K b) = true) : sortableB (l.map K) = true := by
  unfold sortableB
  rw [Bool.and_eq_true, Bool.or_eq_true]
  refine ⟨?_, .inl ?_⟩
  · rw [List.all_eq_true]
    intro x hx
    rw [List.all_eq_true]
    intro y hy
    obtain ⟨a, ha, rfl⟩ := List.mem_map.mp hx
    obtain ⟨b, hb, rfl⟩ := List.mem_map.mp hy
    exact hal a ha b hb
  · rw [List.all_eq_true]
    intro x hx
    obtain ⟨a, ha, rfl⟩ := List.mem_map.mp hx
    obtain ⟨y, ys, e⟩ := h a ha
    rw [e]
theorem sortKF_map {α : Type} {fk : D → M → Option (D × M)} {m : M} (enc K : α → D) (l : List α) (h : ∀ a ∈ l, fk (enc a) m = some (K a, m)) (h1 : sortableB (l.map K) = true) (h2 : ∀ a ∈ l, (K a).depth ≤ 60) (h3 : l.length ≤ 16777216) :
    sortKF fk (l.map enc) m = some (.val (.list ((l.mergeSort fun a b => PySem.W.dataLe false K a b).map enc)), m) := by
  have e1 : smallAll (l.map K) = true := decide_eq_true (depth_map l h2)
  have e2 : decide ((l.map enc).length ≤ sizeLine) = true := decide_eq_true (by rw [List.length_map, sz]; exact h3)
  unfold sortKF
  rw [kfold_map enc K l h, ob_some]
  simp only [h1, e1, e2, Bool.and_self, if_true, sortKD_map]
theorem alike_ii (a b c d : Int) : PySem.W.alike (.tuple [.int a, .int b]) (.tuple [.int c, .int d]) = true := by simp [PySem.W.alike, PySem.W.alikeAll]
/-- by pairs of ints -/
theorem sortKF_ii {α : Type} {fk : D → M → Option (D × M)} {m : M} (enc : α → D) (x y : α → Int) (l : List α) (h : ∀ a ∈ l, fk (enc a) m = some (.tuple [.int (x a), .int (y a)], m)) (h3 : l.length ≤ 16777216) :
    sortKF fk (l.map enc) m = some (.val (.list ((l.mergeSort fun p q => decide (x p < x q ∨ (x p = x q ∧ y p ≤ y q))).map enc)), m) := by
  have := sortKF_map enc (fun a => .tuple [.int (x a), .int (y a)]) l h (sortable_tup l (fun a _ => ⟨_, _, rfl⟩) fun a _ b _ => alike_ii _ _ _ _) (fun a _ => by show 1 ≤ 60; decide) h3
  rw [this]
  have e := PySem.W.dataLe_ii (β := α) x y
  have e2 : (fun a b => PySem.W.dataLe false (fun a => PyData.tuple [.int (x a), .int (y a)]) a b) = fun p q => decide (x p < x q ∨ (x p = x q ∧ y p ≤ y q)) := e
  rw [e2]
@[simp] theorem ev_sortKR {bs : List Bool} {fb : EF} {fa : AF} {env : Sl} {m : M} : eSortKR bs fb fa env m = (fa env m).bind fun x => (bds x.1).bind fun b => if rgOkB b.1 b.2 = true then sortKF (keyF fb bs env) (rngD b.1 (b.2 - b.1).toNat) x.2 else none := nr rfl
theorem bds1 {n : Nat} : bds [.val (.int (n : Nat))] = some (0, (n : Int)) := nr rfl
theorem rgOk0 {n : Nat} (h : n ≤ 1000000) : rgOkB 0 (n : Int) = true := decide_eq_true ⟨by decide, by decide, by omega, by omega, by omega⟩
/-! natural numbers -/
theorem pmN {a b : Nat} {m : M} (ha : a < 1000000000000000000) (hb : b < 1000000000000000000) : pMul (.val (.int (a : Int))) (.val (.int (b : Int))) m = some (.val (.int ((a * b : Nat) : Int)), m) := by
  rw [pm_ii (by omega) (by omega)]
  push_cast
  rfl
theorem pdN {a b : Nat} {m : M} (h : 0 < b) (hb : b < 1000000000000000000) : pDiv (.val (.int (a : Int))) (.val (.int (b : Int))) m = some (.val (.int ((a / b : Nat) : Int)), m) := by
  rw [pdv_ii (by omega) (by omega)]
  push_cast
  rfl
theorem pmodN {a b : Nat} {m : M} (h : 0 < b) : pMod (.val (.int (a : Int))) (.val (.int (b : Int))) m = some (.val (.int ((a % b : Nat) : Int)), m) := by
  rw [pmd_ii (by omega)]
  push_cast
  rfl
theorem ppN {a b : Nat} {m : M} : pPlus (.val (.int (a : Int))) (.val (.int (b : Int))) m = some (.val (.int ((a + b : Nat) : Int)), m) := by
  rw [pp_ii]
  push_cast
  rfl
theorem pltN {a b : Nat} {m : M} : pLt (.val (.int (a : Int))) (.val (.int (b : Int))) m = some (.val (.bool (decide (a < b))), m) := by
  rw [plt_ii]
  simp
theorem pgtN {a b : Nat} {m : M} : pGt (.val (.int (a : Int))) (.val (.int (b : Int))) m = some (.val (.bool (decide (b < a))), m) := by
  rw [pgt_ii]
  simp
/-- a list of natural numbers in the store, read and written -/
theorem pix_rN {k i a : Nat} {l : List Nat} {m : M} (hm : m[k]? = some (.lst (encI l))) (h : l[i]? = some a) : pIdx (.ref k) (.val (.int (i : Int))) m = some (.val (.int (a : Int)), m) := by
  rw [pix_r hm, at_nat (encI_get h)]
  rfl
theorem pset_rN {k i a : Nat} {l : List Nat} {m : M} (hm : m[k]? = some (.lst (encI l))) (h : i < l.length) : pSet (.ref k) (.val (.int (i : Int))) (.val (.int (a : Int))) m = some (m.set k (.lst (encI (l.set i a)))) := by
  rw [pset_r hm, encI_len, ixN_nat h, ob_some]
  congr 2
  unfold encI
  rw [List.map_set]
theorem getD_some {l : List Nat} {i : Nat} (h : i < l.length) : l[i]? = some (l.getD i 0) := by
  rw [List.getD, List.getElem?_eq_getElem h]
  rfl
theorem psum_rN {k : Nat} {r : List Nat} {m : M} (h : m[k]? = some (.lst (encI r))) : pSum [.ref k] m = some (.val (.int (r.sum : Nat)), m) := by
  show ((asLT (.ref k) m).bind fun ds => (asIs ds).bind fun ns => some (R.val (.int ns.sum), m)) = _
  have e1 : asLT (.ref k) m = some (encI r) := by simp [asLT, asL, h]
  have e2 : asIs (encI r) = some (r.map fun a : Nat => (a : Int)) := asIs_map' r fun a : Nat => (a : Int)
  rw [e1, ob_some, e2, ob_some, sum_cast]
def rp (ds : List D) (r : R) (m : M) : Option (List D × M) := (asI r).bind fun k => if -(2 ^ 63) ≤ k ∧ k < 2 ^ 63 ∧ ds.length * k.toNat ≤ sizeLine then some ((List.replicate k.toNat ds).flatten, m) else none
theorem ev_rep {f : NF} {g : EF} {env : Sl} {m : M} : nRep f g env m = (f env m).bind fun x => (g env x.2).bind fun y => rp x.1 y.1 y.2 := nr rfl
theorem rp_zeros {n : Nat} {m : M} (h : n ≤ 1000) : rp [.int 0] (.val (.int (n : Int))) m = some (encI (List.replicate n 0), m) := by
  unfold rp
  rw [ev_asI, ob_some, if_pos ⟨by omega, by omega, by rw [sz, Int.toNat_natCast]; simp; omega⟩]
  rw [Int.toNat_natCast]
  congr 2
  unfold encI
  rw [List.map_replicate]
  induction n with
  | zero => rfl
  | succ n ih =>
    rw [List.replicate_succ, List.flatten_cons, ih (by omega), List.replicate_succ]
    rfl
end Ev

set_option Elab.async false
set_option linter.all false
set_option maxRecDepth 100000
/-! dicts: the pure side, and what is asked of one dict. -/
namespace Ev
open PySem PySem.Spec PyProof.Rows L2

def sameD : Bool → D → D → Bool
  | false, a, b => decide (keyK a = keyK b)
  | true, a, b => decide (keyN a = keyN b)
theorem sameD_F {a b : D} : sameD false a b = decide (keyK a = keyK b) := rfl
theorem sameD_T {a b : D} : sameD true a b = decide (keyN a = keyN b) := rfl
def topN : NestedKey → Bool
  | .tup ks => decide ((NestedKey.tup ks).depth ≤ 8)
  | _ => false
def keyOkN (d : D) : Bool := match keyN d with
  | some k => topN k
  | none => false
def keyOk : Bool → D → Bool
  | false, d => (keyK d).isSome
  | true, d => keyOkN d
def lookD (t : Bool) (kvs : List (D × D)) (d : D) : Option D := (kvs.find? fun q => sameD t q.1 d).map (·.2)
def putD (t : Bool) (kvs : List (D × D)) (d x : D) : List (D × D) :=
  if (kvs.any fun q => sameD t q.1 d) = true then kvs.map (fun q => if sameD t q.1 d = true then (q.1, x) else q) else kvs ++ [(d, x)]
def putE (es : List (NestedKey × Addr × V)) (k : NestedKey) (b : Addr) (v : V) : List (NestedKey × Addr × V) :=
  if (es.any fun p => decide (p.1 = k)) = true then es.map (fun p => if p.1 = k then (p.1, p.2.1, v) else p) else es ++ [(k, b, v)]
def atE (es : List (NestedKey × Addr × V)) (k : NestedKey) : Option V := (es.find? fun p => decide (p.1 = k)).map (·.2.2)
abbrev RawE : List (NestedKey × Addr × V) → List (NestedKey × Addr × Value) → Prop := Paired fun p q => p.1 = q.1 ∧ p.2.1 = q.2.1 ∧ RelV p.2.2 q.2.2

/-! ### keys -/
mutual
theorem hash_ind (w w' : World) : ∀ (d : D) (k : NestedKey), keyN d = some k → k.hash w = k.hash w'
  | .none, _, e => by cases e; rfl
  | .int i, _, e => by cases e; rfl
  | .tuple ds, _, e => by
    unfold keyN at e
    obtain ⟨ks, e1, e2⟩ := Option.map_eq_some_iff.mp e
    subst e2
    unfold NestedKey.hash
    rw [hashes_ind w w' ds ks e1]
  | .bool _, _, e => by cases e
  | .str _, _, e => by cases e
  | .list _, _, e => by cases e
  | .dict _, _, e => by cases e
theorem hashes_ind (w w' : World) : ∀ (ds : List D) (ks : List NestedKey), keyNs ds = some ks → NestedKey.hashes w ks = NestedKey.hashes w' ks
  | [], _, e => by cases e; rfl
  | d :: ds, _, e => by
    unfold keyNs at e
    obtain ⟨k, e1, e⟩ := bind_some_iff e
    obtain ⟨ks, e2, e3⟩ := Option.map_eq_some_iff.mp e
    subst e3
    unfold NestedKey.hashes
    rw [hash_ind w w' d k e1, hashes_ind w w' ds ks e2]
end
section
variable {X : Cx} {pins : List (Addr × Obj)} {σ : L2.St} {H : Hp} {s : Shared}
mutual
theorem nested_of (I : Inv X pins σ H s) : ∀ {d : D} {k : NestedKey} {v : V} {u : Value}, keyN d = some k → Dp X.K H v d → RelV v u → NestedIs s.heap k u
  | .none, _, _, u, e, .non, r => by
    cases e
    cases u <;> first | exact .none | exact absurd r (fun z => nomatch z)
  | .int i, _, _, u, e, .int _, r => by
    cases e
    obtain ⟨t, rfl⟩ := (show ∃ t, u = Value.int i t from r)
    exact .int i t
  | .tuple ds, _, _, u, e, .tup (a := a) h ha, r => by
    unfold keyN at e
    obtain ⟨ks, e1, e2⟩ := Option.map_eq_some_iff.mp e
    subst e2
    obtain rfl : u = Value.ref a := r
    obtain ⟨its, rv, ⟨o, h1, h2, n, h3⟩, _⟩ := I.tuple h
    exact .tup h1 h2 h3 (by simpa using nesteds_of I e1 ha rv)
theorem nesteds_of (I : Inv X pins σ H s) : ∀ {ds : List D} {ks : List NestedKey} {vs : List V} {us : List Value}, keyNs ds = some ks → DpAll X.K H vs ds → Vals vs us → NestedAll s.heap ks us
  | [], _, _, _, e, .nil, r => by
    cases e
    cases r
    exact .nil
  | d :: ds, _, _, _, e, .cons h t, r => by
    unfold keyNs at e
    obtain ⟨k, e1, e⟩ := bind_some_iff e
    obtain ⟨ks, e2, e3⟩ := Option.map_eq_some_iff.mp e
    subst e3
    cases r with
    | cons r1 rt => exact .cons (nested_of I e1 h r1) (nesteds_of I e2 t rt)
end
end

/-! ### the lists side by side -/
section
variable {K : PySem.W.Frag} {H : Hp}
theorem KOk.find : ∀ {ks : List (Key × V)} {kvs : List (D × D)} {d : D} {k : Key}, KOk K H ks kvs → keyK d = some k →
    (lookD false kvs d = none ∧ valV ks k = none) ∨ ∃ x v, lookD false kvs d = some x ∧ valV ks k = some v ∧ Dp K H v x
  | _, _, d, k, .nil, e => .inl ⟨rfl, rfl⟩
  | p :: ks, q :: kvs, d, k, .cons h t, e => by
    by_cases c : p.1 = k
    · refine .inr ⟨q.2, p.2, ?_, valV_pos c, h.2⟩
      have : sameD false q.1 d = true := by rw [sameD_F, h.1, e, c]; simp
      unfold lookD
      rw [List.find?_cons, this]
      rfl
    · have : sameD false q.1 d = false := by rw [sameD_F, h.1, e]; simp [c]
      rw [valV_neg c]
      unfold lookD
      rw [List.find?_cons, this]
      exact KOk.find t e
theorem KOk.any : ∀ {ks : List (Key × V)} {kvs : List (D × D)} {d : D} {k : Key}, KOk K H ks kvs → keyK d = some k → (ks.any fun p => decide (p.1 = k)) = kvs.any fun q => sameD false q.1 d
  | _, _, d, k, .nil, e => rfl
  | p :: ks, q :: kvs, d, k, .cons h t, e => by
    rw [List.any_cons, List.any_cons, KOk.any t e]
    have : sameD false q.1 d = decide (p.1 = k) := by rw [sameD_F, h.1, e]; simp
    rw [this]
theorem KOk.put {ks : List (Key × V)} {kvs : List (D × D)} {d x : D} {k : Key} {v : V} (h : KOk K H ks kvs) (e : keyK d = some k) (hx : Dp K H v x) : KOk K H (putK ks k v) (putD false kvs d x) := by
  unfold putK putD
  rw [h.any e]
  split
  · rename_i hc; clear hc
    induction h with
    | nil => exact .nil
    | @cons p q ps qs h t ih =>
      rw [List.map_cons, List.map_cons]
      refine .cons ?_ ih
      have : sameD false q.1 d = decide (p.1 = k) := by rw [sameD_F, h.1, e]; simp
      rw [this]
      by_cases c : p.1 = k
      · rw [if_pos c, if_pos (decide_eq_true c)]
        exact ⟨h.1, hx⟩
      · rw [if_neg c, if_neg (by simp [c])]
        exact h
  · exact Paired.snoc h ⟨e, hx⟩
theorem NOk.find : ∀ {ks : List (NestedKey × Addr × V)} {kvs : List (D × D)} {d : D} {k : NestedKey}, NOk K H ks kvs → keyN d = some k →
    (lookD true kvs d = none ∧ atE ks k = none) ∨ ∃ x v, lookD true kvs d = some x ∧ atE ks k = some v ∧ Dp K H v x
  | _, _, d, k, .nil, e => .inl ⟨rfl, rfl⟩
  | p :: ks, q :: kvs, d, k, .cons h t, e => by
    by_cases c : p.1 = k
    · refine .inr ⟨q.2, p.2.2, ?_, by unfold atE; rw [List.find?_cons, decide_eq_true c]; rfl, h.2.2⟩
      have : sameD true q.1 d = true := by rw [sameD_T, h.1.1, e, c]; simp
      unfold lookD
      rw [List.find?_cons, this]
      rfl
    · have : sameD true q.1 d = false := by rw [sameD_T, h.1.1, e]; simp [c]
      unfold lookD atE
      rw [List.find?_cons, this, List.find?_cons, decide_eq_false c]
      exact NOk.find t e
theorem NOk.any : ∀ {ks : List (NestedKey × Addr × V)} {kvs : List (D × D)} {d : D} {k : NestedKey}, NOk K H ks kvs → keyN d = some k → (ks.any fun p => decide (p.1 = k)) = kvs.any fun q => sameD true q.1 d
  | _, _, d, k, .nil, e => rfl
  | p :: ks, q :: kvs, d, k, .cons h t, e => by
    rw [List.any_cons, List.any_cons, NOk.any t e]
    have : sameD true q.1 d = decide (p.1 = k) := by rw [sameD_T, h.1.1, e]; simp
    rw [this]
theorem NOk.put {ks : List (NestedKey × Addr × V)} {kvs : List (D × D)} {d x : D} {k : NestedKey} {b : Addr} {v : V} (h : NOk K H ks kvs) (e : keyN d = some k) (hk : k.depth ≤ 8) (hb : Dp K H (.ref b) d) (hx : Dp K H v x) : NOk K H (putE ks k b v) (putD true kvs d x) := by
  unfold putE putD
  rw [h.any e]
  split
  · rename_i hc; clear hc
    induction h with
    | nil => exact .nil
    | @cons p q ps qs h t ih =>
      rw [List.map_cons, List.map_cons]
      refine .cons ?_ ih
      have : sameD true q.1 d = decide (p.1 = k) := by rw [sameD_T, h.1.1, e]; simp
      rw [this]
      by_cases c : p.1 = k
      · rw [if_pos c, if_pos (decide_eq_true c)]
        exact ⟨h.1, h.2.1, hx⟩
      · rw [if_neg c, if_neg (by simp [c])]
        exact h
  · exact Paired.snoc h ⟨⟨e, hk⟩, hb, hx⟩
theorem RawE.val : ∀ {es : List (NestedKey × Addr × V)} {xs : List (NestedKey × Addr × Value)}, RawE es xs → ∀ k, RelO (atE es k) ((atKey xs k).map (·.2))
  | _, _, .nil, k => True.intro
  | p :: es, q :: xs, .cons h t, k => by
    by_cases c : p.1 = k
    · have a : atE (p :: es) k = some p.2.2 := by unfold atE; rw [List.find?_cons, decide_eq_true c]; rfl
      have b : atKey (q :: xs) k = some q.2 := by simp [atKey, List.find?_cons, h.1.symm.trans c]
      rw [a, b]
      exact h.2.2
    · have a : atE (p :: es) k = atE es k := by unfold atE; rw [List.find?_cons, decide_eq_false c]
      have b : atKey (q :: xs) k = atKey xs k := by simp [atKey, List.find?_cons, show ¬ q.1 = k from fun z => c (h.1.trans z)]
      rw [a, b]
      exact RawE.val t k
theorem atE_any (es : List (NestedKey × Addr × V)) (k : NestedKey) : (es.any fun p => decide (p.1 = k)) = (atE es k).isSome := by
  induction es with
  | nil => rfl
  | cons p es ih =>
    rw [List.any_cons, ih]
    unfold atE
    rw [List.find?_cons]
    by_cases c : p.1 = k
    · rw [decide_eq_true c]; rfl
    · rw [decide_eq_false c]; rfl
theorem RawE.put {es : List (NestedKey × Addr × V)} {xs : List (NestedKey × Addr × Value)} (h : RawE es xs) (k : NestedKey) (b : Addr) {v : V} {u : Value} (r : RelV v u) : RawE (putE es k b v) (storedH xs k b u) := by
  unfold putE storedH
  rw [atE_any, (h.val k).isSome_eq, Option.isSome_map]
  split
  · rename_i hc; clear hc
    induction h with
    | nil => exact .nil
    | @cons p q ps qs h t ih =>
      rw [List.map_cons, List.map_cons]
      refine .cons ?_ ih
      obtain ⟨h1, h2, h3⟩ := h
      unfold putAt
      by_cases c : p.1 = k
      · rw [if_pos c, if_pos (h1.symm.trans c)]
        exact ⟨h1, h2, r⟩
      · rw [if_neg c, if_neg (fun z => c (h1.trans z))]
        exact ⟨h1, h2, h3⟩
  · exact Paired.snoc h ⟨rfl, rfl, r⟩
end
theorem lookD_any (t : Bool) (kvs : List (D × D)) (d : D) : (kvs.any fun q => sameD t q.1 d) = (lookD t kvs d).isSome := by
  induction kvs with
  | nil => rfl
  | cons p es ih =>
    rw [List.any_cons, ih]
    unfold lookD
    rw [List.find?_cons]
    cases sameD t p.1 d <;> rfl
theorem lkd_rd {lk : Bool} {u : HO} {H : Hp} {a : Addr} (h : lkd lk u (H a)) : Rd H a u := by
  cases lk with
  | false => exact .inl h
  | true => exact .inr h

section
variable {X : Cx} {pins : List (Addr × Obj)} {σ : L2.St} {H : Hp} {s : Shared} {φ : Ad} {m : M} {ζ : Tbs}
theorem memPaired {α β : Type} {F : α → β → Prop} : ∀ {l₁ : List α} {l₂ : List β} {b : β}, Paired F l₁ l₂ → b ∈ l₂ → ∃ a ∈ l₁, F a b
  | _, _, _, .nil, h => by cases h
  | _, _, b, .cons h t, hb => by
    rcases List.mem_cons.mp hb with e | e
    · subst e
      exact ⟨_, List.mem_cons_self, h⟩
    · obtain ⟨a, h1, h2⟩ := memPaired t e
      exact ⟨a, List.mem_cons_of_mem _ h1, h2⟩
theorem memPairedL {α β : Type} {F : α → β → Prop} : ∀ {l₁ : List α} {l₂ : List β} {a : α}, Paired F l₁ l₂ → a ∈ l₁ → ∃ b ∈ l₂, F a b
  | _, _, _, .nil, h => by cases h
  | _, _, b, .cons h t, hb => by
    rcases List.mem_cons.mp hb with e | e
    · subst e
      exact ⟨_, List.mem_cons_self, h⟩
    · obtain ⟨a, h1, h2⟩ := memPairedL t e
      exact ⟨a, List.mem_cons_of_mem _ h1, h2⟩
/-- the dict of tuple keys that stands there -/
theorem xd_rd {P : Program} {w : World} {a : Addr} {es : List (NestedKey × Addr × V)} {kvs : List (D × D)} (I : Inv X pins σ H s) (h : Rd H a (.ext (XD P w a es))) (n : NOk X.K H es kvs) :
    es.length ≤ sizeLine ∧ (a == sysModules) = false ∧ ∃ xs, RawE es xs ∧ s.heap.DictOfH (nestedKind X.prog X.w) a xs := by
  obtain ⟨⟨z, hd, xs, rel, o, ea, ep, h1, h2, h3, h4, h5⟩, _⟩ := (show ObjOk X.prog X.w H s.heap a (.ext (XD P w a es)) from rd_of I.hok h)
  have key : ∀ x ∈ xs, ∃ d, keyN d = some x.1 ∧ x.1.depth ≤ 8 ∧ Dp X.K H (.ref x.2.1) d := fun x hx => by
    obtain ⟨p, hp, e1, e2, _⟩ := memPaired rel hx
    obtain ⟨q, hq, ⟨e3, e4⟩, e5, _⟩ := memPairedL n hp
    exact ⟨q.1, by rw [← e1]; exact e3, by rw [← e1]; exact e4, by rw [← e2]; exact e5⟩
  refine ⟨z, hd, xs, rel, o, ea, ep, h1, h2, h3, ?_, fun x hx => ?_, h5⟩
  · rw [h4]
    refine List.map_congr_left fun x hx => ?_
    obtain ⟨d, e1, _⟩ := key x hx
    unfold entryOfKey
    congr 1
    exact hash_ind w X.w d x.1 e1
  · obtain ⟨d, e1, e2, e3⟩ := key x hx
    exact ⟨nested_of I e1 e3 rfl, e2⟩
theorem keyK_V {K : PySem.W.Frag} {Ho : Hp} {d : D} {k : Key} {v : V} (e : keyK d = some k) (h : Dp K Ho v d) : v = kV k := by
  cases d with
  | int i => cases e; cases h; rfl
  | str x => cases e; cases h; rfl
  | _ => cases e
theorem keyOk_N {d : D} (h : keyOkN d = true) : ∃ k, keyN d = some k ∧ k.depth ≤ 8 ∧ ∃ ds, d = .tuple ds := by
  unfold keyOkN at h
  split at h
  · rename_i k e
    cases k with
    | tup ks =>
      refine ⟨_, e, of_decide_eq_true h, ?_⟩
      cases d with
      | tuple ds => exact ⟨ds, rfl⟩
      | _ => cases e
    | _ => cases h
  · cases h
theorem NOk.off {K : PySem.W.Frag} {es : List (NestedKey × Addr × V)} {kvs : List (D × D)} (h : NOk K (off φ H) es kvs) : NOk K H es kvs := Paired.mapP h fun p q z => ⟨z.1, dp_mono off_same z.2.1, dp_mono off_same z.2.2⟩
/-- a top key that is a tuple stands at an address -/
theorem key_ref {K : PySem.W.Frag} {Ho : Hp} {d : D} {v : V} (h : Dp K Ho v d) (t : ∃ ds, d = .tuple ds) : ∃ b, v = .ref b := by
  obtain ⟨ds, rfl⟩ := t
  cases h
  exact ⟨_, rfl⟩
end
end Ev

set_option Elab.async false
set_option linter.all false
set_option maxRecDepth 100000
/-! dicts: d[k], k in d, d[k] = v, len(d), {}. -/
namespace Ev
open PySem PySem.Spec PyProof.Rows L2

def pDGet (a b : R) (m : M) : Option (R × M) := match a, b with
  | .ref k, .val d => (m[k]?).bind fun ob => match ob with
    | .dct t _ kvs => if keyOk t d = true then (lookD t kvs d).bind fun x => some (.val x, m) else none
    | _ => none
  | _, _ => none
def pDHas (a b : R) (m : M) : Option Bool := match a, b with
  | .ref k, .val d => (m[k]?).bind fun ob => match ob with
    | .dct t _ kvs => if keyOk t d = true then some (lookD t kvs d).isSome else none
    | _ => none
  | _, _ => none
def pDIn (b a : R) (m : M) : Option (R × M) := (pDHas a b m).bind fun x => some (.val (.bool x), m)
def pDNin (b a : R) (m : M) : Option (R × M) := (pDHas a b m).bind fun x => some (.val (.bool (!x)), m)
def pDSet (o i v : R) (m : M) : Option M := match o, i, v with
  | .ref k, .val d, .val x => (m[k]?).bind fun ob => match ob with
    | .dct t false kvs => if keyOk t d = true ∧ kvs.length < sizeLine then some (m.set k (.dct t false (putD t kvs d x))) else none
    | _ => none
  | _, _, _ => none
def pLenD := p1 fun r m => match r with
  | .ref k => (m[k]?).bind fun ob => match ob with
    | .dct _ _ kvs => some (.val (.int kvs.length), m)
    | _ => none
  | _ => none
section
variable {X : Cx} {pins : List (Addr × Obj)} {σ : L2.St} {H : Hp} {s : Shared} {φ : Ad} {m : M} {k : Nat}
theorem KOk.off {K : PySem.W.Frag} {es : List (Key × V)} {kvs : List (D × D)} (h : KOk K (off φ H) es kvs) : KOk K H es kvs := Paired.mapP h fun p q z => ⟨z.1, dp_mono off_same z.2⟩
/-- d[k] -/
theorem dget_run (hr : Room k X.A) {o i : V} {ov iv : Value} {Q : VK} (I : Inv X pins σ H s) (ro : RelV o ov) (ri : RelV i iv) (q : r2P ζ X.K pDGet o i H Q) :
    s.TypeIs ov "dict" ∧ wpAny (model X.prog X.w) X.A (getItem ov iv) (EP X pins σ Q) X.xe s := by
  obtain ⟨φ, m, r1, r2, r, m', S, R1, R2, hf, kk⟩ := q
  unfold pDGet at hf
  split at hf
  · rename_i k0 d
    obtain ⟨ob, ho, hf⟩ := bind_some_iff hf
    split at hf
    · rename_i t lk kvs
      split at hf
      · rename_i hk
        obtain ⟨x, hx, hf⟩ := bind_some_iff hf
        cases hf
        obtain ⟨a, rfl, ha⟩ := R1
        obtain rfl : ov = Value.ref a := ro
        have O := S.obj k0 _ a ho ha
        match t, O with
        | false, ⟨ks, h1, h2⟩ =>
          obtain ⟨kk0, e0⟩ := Option.isSome_iff_exists.mp (show (keyK d).isSome = true from hk)
          obtain rfl := keyK_V e0 R2
          rcases h2.find e0 with ⟨e1, _⟩ | ⟨y, v, e1, e2, e3⟩
          · rw [hx] at e1; cases e1
          · rw [hx] at e1
            cases e1
            have g : DGet H a (kV kk0) (some v) := .inl ⟨ks, kk0, lkd_rd h1, rfl, e2.symm⟩
            exact ⟨dict_typeIs I g, d_getItem (by have := hr.un; omega) I g ri fun w' s' I' rw' => ⟨v, H, I', rw', kk φ H v .refl S e3⟩⟩
        | true, ⟨P, w, es, h1, h2⟩ =>
          obtain ⟨kn, e0, e4, e5⟩ := keyOk_N hk
          obtain ⟨z, hd, xs, rel, dd⟩ := xd_rd I (lkd_rd h1) h2.off
          rcases h2.find e0 with ⟨e1, _⟩ | ⟨y, v, e1, e2, e3⟩
          · rw [hx] at e1; cases e1
          · rw [hx] at e1
            cases e1
            have rr := rel.val kn
            rw [e2] at rr
            obtain ⟨w', hw, rw'⟩ := RelO.some_of rr
            obtain ⟨p, hp, hp2⟩ := Option.map_eq_some_iff.mp hw
            obtain ⟨b, rfl⟩ := key_ref R2 e5
            obtain rfl : iv = Value.ref b := ri
            have nk := nested_of I e0 (dp_mono off_same R2) (show RelV (.ref b) (.ref b) from rfl)
            refine ⟨dd.typeIs, ?_⟩
            refine wpAny_getItem_heap (knd := nestedKind X.prog X.w) (show X.A.in1.units + 8 < cLine by have := hr.un; show X.A.units + 1 + 8 < cLine; omega) ⟨nk, e4⟩ dd hp ?_
            rw [hp2]
            exact ⟨v, H, I.tok _, rw', kk φ H v .refl S e3⟩
      · cases hf
    · cases hf
  · cases hf
theorem pget_d (hr : Room k X.A) : PGet X (r2P ζ X.K pDGet) := fun pins s σ H o i ov iv Q I ro ri q => (dget_run hr I ro ri q).2
/-- d[k] in an expression: the value behind getItem is any -/
theorem subT_any {prog : Program} {w : World} {A : Around} {E : Value → Shared → Prop} {s : Shared} {value slice : Expr} {o i : Value} {T id : String} {Q : Value → Shared → Prop} (hT : s.TypeIs o T)
    (hl : typeLookup (.type T) "__getitem__" = pure (some (.builtin id))) (h : wpAny (model prog w) A (getItem o i) Q E s) (hs : subscripted slice false o i = operate [o, i] (getItem o i)) : wpAny (model prog w) A (subscriptTail value slice o i) Q E s := by
  unfold subscriptTail
  refine wpAny_bind ?_
  rw [getitemInPython_of_ne hT.not_modules]
  refine wpAny_bind (wpAny_specialOf hT hl ?_)
  have fin : wpAny (model prog w) A (subscripted slice false o i) (fun r s₃ => wpAny (model prog w) A (letTemporaryGo value o r >>= fun _ => pure r) Q E s₃) E s := by
    rw [hs]
    exact wpAny_operating (wpAny_mono h (fun r s₃ h₃ => wpAny_bind (wpAny_letTemporaryGo (wpAny_pure h₃))) fun _ _ x => x)
  first
    | exact wpAny_pure (wpAny_bind fin)
    | exact wpAny_bind (wpAny_pure (wpAny_bind fin))
    | exact wpAny_bind fin
theorem ix_d (hr : Room k X.A) : IxR X (r2P ζ X.K pDGet) := fun value slice pins s σ H x y v u Q I rx ry q hsub => by
  obtain ⟨h1, h2⟩ := dget_run hr I rx ry q
  exact subT_any h1 PySem.F.slot_dict_getitem.lookup h2 hsub
theorem x_dget {a b : Expr} {f g : EF} {pos : Pos} (hr : Room k X.A) (ha : PE X a (tE ζ X.K f)) (hb : PE X b (tE ζ X.K g)) (hs : PlainIx b := by exact fun _ _ => rfl) : PE X (.Subscript a b pos) (tE ζ X.K (eBin pDGet f g)) :=
  pe_imp (pe_ix (ix_d hr) ha hb hs) fun _ _ _ q => two_imp q
/-- k in d -/
theorem dhas_run (hr : Room k X.A) {i o : V} {iv ov : Value} {r1 r2 : R} {φ : Ad} {m : M} {b : Bool} (I : Inv X pins σ H s) (S : SR ζ X.K φ H m) (R1 : RR X.K φ H o r1) (R2 : RR X.K φ H i r2) (ro : RelV o ov) (ri : RelV i iv) (hf : pDHas r1 r2 m = some b) :
    (∀ Q : Value → Shared → Prop, (∀ s', Inv X pins σ H s' → Q (.bool b) s') → wpAny (model X.prog X.w) X.A (compareOp .In iv ov) Q X.xe s) ∧
    (∀ Q : Value → Shared → Prop, (∀ s', Inv X pins σ H s' → Q (.bool (!b)) s') → wpAny (model X.prog X.w) X.A (compareOp .NotIn iv ov) Q X.xe s) := by
  unfold pDHas at hf
  split at hf
  · rename_i k0 d
    obtain ⟨ob, ho, hf⟩ := bind_some_iff hf
    split at hf
    · rename_i t lk kvs
      split at hf
      · rename_i hk
        cases hf
        obtain ⟨a, rfl, ha⟩ := R1
        obtain rfl : ov = Value.ref a := ro
        have O := S.obj k0 _ a ho ha
        have hun := hr.un
        match t, O with
        | false, ⟨ks, h1, h2⟩ =>
          obtain ⟨kk0, e0⟩ := Option.isSome_iff_exists.mp (show (keyK d).isSome = true from hk)
          obtain rfl := keyK_V e0 R2
          have eq : (lookD false kvs d).isSome = (valV ks kk0).isSome := by
            rcases h2.find e0 with ⟨e1, e2⟩ | ⟨y, v, e1, e2, e3⟩ <;> rw [e1, e2] <;> rfl
          have g : DGet H a (kV kk0) (valV ks kk0) := .inl ⟨ks, kk0, lkd_rd h1, rfl, rfl⟩
          rw [eq]
          exact ⟨fun Q q => d_in (by omega) I g ri q, fun Q q => d_notIn (by omega) I g ri q⟩
        | true, ⟨P, w, es, h1, h2⟩ =>
          obtain ⟨kn, e0, e4, e5⟩ := keyOk_N hk
          obtain ⟨z, hd, xs, rel, dd⟩ := xd_rd I (lkd_rd h1) h2.off
          obtain ⟨b, rfl⟩ := key_ref R2 e5
          obtain rfl : iv = Value.ref b := ri
          have nk := nested_of I e0 (dp_mono off_same R2) (show RelV (.ref b) (.ref b) from rfl)
          have eq : (lookD true kvs d).isSome = (atKey xs kn).isSome := by
            have rr := (rel.val kn).isSome_eq
            rw [Option.isSome_map] at rr
            rw [← rr]
            rcases h2.find e0 with ⟨e1, e2⟩ | ⟨y, v, e1, e2, e3⟩ <;> rw [e1, e2] <;> rfl
          rw [eq]
          have rm : (nestedKind X.prog X.w).room X.A.in1 := show X.A.units + 1 + 8 < cLine by omega
          exact ⟨fun Q q => wpAny_in_heap (knd := nestedKind X.prog X.w) rm ⟨nk, e4⟩ hd dd (q _ (I.tok _)), fun Q q => wpAny_notIn_heap (knd := nestedKind X.prog X.w) rm ⟨nk, e4⟩ hd dd (q _ (I.tok _))⟩
      · cases hf
    · cases hf
  · cases hf
theorem o_din (hr : Room k X.A) : OpR X (compareOp .In) (r2P ζ X.K pDIn) := by
  intro pins s σ H x y v u Q I rx ry q
  obtain ⟨φ, m, r1, r2, r, m', S, R1, R2, hf, kk⟩ := q
  obtain ⟨b, h1, hf⟩ := bind_some_iff hf
  cases hf
  exact (dhas_run hr I S R2 R1 ry rx h1).1 _ fun s' I' => ⟨.bl b, H, I', rfl, kk φ H _ .refl S (Dp.bl _)⟩
theorem o_dnin (hr : Room k X.A) : OpR X (compareOp .NotIn) (r2P ζ X.K pDNin) := by
  intro pins s σ H x y v u Q I rx ry q
  obtain ⟨φ, m, r1, r2, r, m', S, R1, R2, hf, kk⟩ := q
  obtain ⟨b, h1, hf⟩ := bind_some_iff hf
  cases hf
  exact (dhas_run hr I S R2 R1 ry rx h1).2 _ fun s' I' => ⟨.bl (!b), H, I', rfl, kk φ H _ .refl S (Dp.bl _)⟩
/-- d[k] = v -/
theorem dset_ok (hr : Room k X.A) : PSet X (rSetP ζ X.K pDSet) := by
  intro pins s σ H o i v ov iv u Q I ro ri rv z
  obtain ⟨φ, m, r1, r2, r3, m', S, R1, R2, R3, hf, kk⟩ := z
  unfold pDSet at hf
  split at hf
  · rename_i k0 d x
    obtain ⟨ob, ho, hf⟩ := bind_some_iff hf
    split at hf
    · rename_i t kvs
      split at hf
      · rename_i hk
        obtain ⟨hk, hl⟩ := hk
        cases hf
        obtain ⟨a, rfl, ha⟩ := R1
        obtain rfl : ov = Value.ref a := ro
        have O := S.obj k0 _ a ho ha
        have hun := hr.un
        have hin : a ∈ φ.s := List.mem_of_getElem? ha
        have nh := S.apart hin
        have sm : ∀ o : HO, Same (off φ H) (off φ (upd H a o)) := fun o => off_write hin
        match t, O with
        | false, ⟨ks, h1, h2⟩ =>
          have h1' : H a = some (.dK ks) := h1
          obtain ⟨kk0, e0⟩ := Option.isSome_iff_exists.mp (show (keyK d).isSome = true from hk)
          obtain rfl := keyK_V e0 R2
          have hlen : ks.length < sizeLine := by rw [Paired.len h2]; exact hl
          have n2 := h2.put e0 R3
          refine d_setItem (by omega) I (.k h1' hlen) ri rv fun s' I' => ⟨_, I', kk φ _ (gr_write hin nh (nf_dK h1')) (S.writeO ha ⟨_, upd_same, n2⟩)⟩
        | true, ⟨P, w, es, h1, h2⟩ =>
          have h1' : H a = some (.ext (XD P w a es)) := h1
          obtain ⟨kn, e0, e4, e5⟩ := keyOk_N hk
          obtain ⟨z, hd, xs, rel, dd⟩ := xd_rd I (lkd_rd (lk := false) h1) h2.off
          obtain ⟨b, rfl⟩ := key_ref R2 e5
          obtain rfl : iv = Value.ref b := ri
          have nk := nested_of I e0 (dp_mono off_same R2) (show RelV (.ref b) (.ref b) from rfl)
          have hlen : es.length < sizeLine := by rw [Paired.len h2]; exact hl
          have hx : xs.length ≤ sizeLine := by rw [← Paired.len rel]; omega
          refine wpAny_setItem_heap (hsz := hx) (knd := nestedKind X.prog X.w) (show X.A.units + 1 + 8 < cLine by omega) ⟨nk, e4⟩ dd fun h' dd' hs => ?_
          have rel' := rel.put kn b rv
          have n2 := h2.put e0 e4 R2 R3
          have hl2 : (putE es kn b v).length ≤ sizeLine := by
            unfold putE
            split
            · rw [List.length_map]; omega
            · rw [List.length_append, List.length_cons, List.length_nil]; omega
          obtain ⟨o', ea, ep, q1, q2, q3, q4, q5, q6⟩ := dd'
          have new : ObjOk X.prog X.w (upd H a (.ext (XD X.prog X.w a (putE es kn b v)))) h' a (.ext (XD X.prog X.w a (putE es kn b v))) :=
            ⟨⟨hl2, hd, _, rel', o', ea, ep, q1, q2, q3, q4, q6⟩, ⟨o', q1⟩, fun g1 g2 ⟨y1, y2, y3, y4, y5, y6, y7, y8, y9⟩ kp => ⟨y1, y2, y3, y4, y5, y6, y7, kp _ y8, y9⟩⟩
          have I' := d_write (t' := s.toks + (nestedKind X.prog X.w).draws kn) I (by rw [h1']; exact True.intro) hs ⟨o', q1⟩ new
          exact ⟨_, I', kk φ _ (gr_write hin nh (nf_ext h1')) (S.writeO ha ⟨_, _, _, upd_same, n2⟩)⟩
      · cases hf
    · cases hf
  · cases hf
/-- len(d) -/
theorem c_lenD : CallR X (.builtin "len") (rsP ζ X.K pLenD) := c_one fun pins s σ H v us Q φ m a r m' I rx S ra hf kk => by
  split at hf
  · rename_i k0
    obtain ⟨ob, ho, hf⟩ := bind_some_iff hf
    split at hf
    · rename_i t lk kvs
      cases hf
      obtain ⟨a, rfl, ha⟩ := ra
      have O := S.obj k0 _ a ho ha
      have hn := line63
      have hsl : sizeLine = 16777216 := by decide
      obtain ⟨u, rfl, ru⟩ := vals1 rx
      obtain rfl : u = Value.ref a := ru
      match t, O with
      | false, ⟨ks, h1, h2⟩ =>
        obtain ⟨z, hd, vs, rel, dd⟩ := dk_rd I.hok (lkd_rd h1)
        refine d_len I (lkd_rd h1) fun t s' I' => ⟨.int kvs.length, H, I', ⟨t, by rw [Paired.len h2]⟩, kk φ H _ .refl S (Dp.int _)⟩
      | true, ⟨P, w, es, h1, h2⟩ =>
        obtain ⟨z, hd, xs, rel, dd⟩ := xd_rd I (lkd_rd h1) h2.off
        have e1 : xs.length = kvs.length := by rw [← Paired.len rel, Paired.len h2]
        have e2 : es.length = xs.length := Paired.len rel
        refine call_len_dictH hd dd (by omega) ?_
        rw [e1]
        exact ⟨.int kvs.length, H, I.tok _, ⟨_, rfl⟩, kk φ H _ .refl S (Dp.int _)⟩
    · cases hf
  · cases hf
/-- {} -/
def eDNew (t : Bool) : EF := fun _ m => some (.ref m.length, m ++ [.dct t false []])
theorem x_dnew {pos : Pos} : PE X (.Dict [] [] pos) (tE ζ X.K (eDNew false)) := pe_imp pe_dnewK fun σ H Q q => by
  obtain ⟨φ, env, m, r, m', S, E, hf, kk⟩ := q
  cases hf
  intro p hp
  refine kk (φ.add p) _ _ (gr_enter hp) (S.enterO hp ⟨[], upd_same, .nil⟩) ⟨p, rfl, ?_⟩
  show (φ.s ++ [p])[m.length]? = some p
  rw [← S.len, List.getElem?_append_right (Nat.le_refl _), Nat.sub_self]
  rfl
theorem xd_empty (h : Heap) (hb : sysModules < h.objs.size) {P : Program} {w : World} {H : Hp} : ObjOk P w H (h.push { cls := .type "dict", data := .dict #[] }) h.objs.size (.ext (XD P w h.objs.size [])) := by
  obtain ⟨o, ea, ep, q1, q2, q3, q4, q5, q6⟩ := Heap.DictOfH.new (knd := nestedKind P w) h
  exact ⟨⟨Nat.zero_le _, beq_eq_false_iff_ne.mpr (Nat.ne_of_gt hb), [], .nil, o, ea, ep, q1, q2, q3, q4, q6⟩, ⟨o, q1⟩, fun g1 g2 ⟨y1, y2, y3, y4, y5, y6, y7, y8, y9⟩ kp => ⟨y1, y2, y3, y4, y5, y6, y7, kp _ y8, y9⟩⟩
def tDNewX (X : Cx) : TE := fun _ H Q => ∀ p, H p = none → Q (.ref p) (upd H p (.ext (XD X.prog X.w p [])))
theorem pe_dnewX {pos : Pos} : PE X (.Dict [] [] pos) (tDNewX X) := ⟨fun pins s σ H Q I h =>
  wpAny_Dict_empty ⟨.ref s.heap.objs.size, _, I.laid (a := s.heap.objs.size) (o := .ext (XD X.prog X.w s.heap.objs.size [])) (t' := s.toks) (fun _ _ q => Heap.get?_push_of_some _ q) (Nat.le_refl _) (xd_empty s.heap I.big), rfl, h _ (I.hok.fresh (Nat.le_refl _))⟩⟩
theorem x_dnewT {pos : Pos} : PE X (.Dict [] [] pos) (tE ζ X.K (eDNew true)) := pe_imp pe_dnewX fun σ H Q q => by
  obtain ⟨φ, env, m, r, m', S, E, hf, kk⟩ := q
  cases hf
  intro p hp
  refine kk (φ.add p) _ _ (gr_enter hp) (S.enterO hp ⟨X.prog, X.w, [], upd_same, .nil⟩) ⟨p, rfl, ?_⟩
  show (φ.s ++ [p])[m.length]? = some p
  rw [← S.len, List.getElem?_append_right (Nat.le_refl _), Nat.sub_self]
  rfl
end
end Ev

set_option Elab.async false
set_option linter.all false
set_option maxRecDepth 100000
/-! {k: v}, one pair. -/
namespace Ev
open PySem PySem.Spec PyProof.Rows L2

def eDisp1 (t : Bool) (f g : EF) : EF := fun env m => (f env (m ++ [.dct t false []])).bind fun x => (g env x.2).bind fun y => match x.1, y.1 with
  | .val d, .val v => if keyOk t d = true then match y.2[m.length]? with
    | some (.dct t' false []) => if t' = t then some (.ref m.length, y.2.set m.length (.dct t false [(d, v)])) else none
    | _ => none else none
  | _, _ => none
section
variable {X : Cx} {k : Nat} {a b : Expr} {f g : EF} {pos : Pos}
theorem disp1_some {t : Bool} {env : Sl} {m m' : M} {r : R} (h : eDisp1 t f g env m = some (r, m')) : ∃ d v m1 m2, f env (m ++ [.dct t false []]) = some (.val d, m1) ∧ g env m1 = some (.val v, m2) ∧ keyOk t d = true ∧ m2[m.length]? = some (.dct t false []) ∧ r = .ref m.length ∧ m' = m2.set m.length (.dct t false [(d, v)]) := by
  obtain ⟨⟨r1, m1⟩, h1, h⟩ := bind_some_iff h
  obtain ⟨⟨r2, m2⟩, h2, h⟩ := bind_some_iff h
  cases r1 with
  | tp j => first | (cases hf; done) | (cases e; done) | (cases h1; done) | (cases h; done) | (cases h7; done) | (cases h2; done)
  | ref j => cases r2 <;> cases h
  | val d =>
    cases r2 with
    | tp j => first | (cases hf; done) | (cases e; done) | (cases h1; done) | (cases h; done) | (cases h7; done) | (cases h2; done)
    | ref j => cases h
    | val v =>
      have h' : (if keyOk t d = true then match m2[m.length]? with
        | some (.dct t' false []) => if t' = t then some (R.ref m.length, m2.set m.length (.dct t false [(d, v)])) else none
        | _ => none else none) = some (r, m') := h
      split at h'
      · rename_i hk
        split at h'
        · rename_i t' hm
          split at h'
          · rename_i ht
            subst ht
            cases h'
            exact ⟨d, v, m1, m2, h1, h2, hk, hm, rfl, rfl⟩
          · cases h'
        · cases h'
      · cases h'
theorem x_disp1 (ha : PE X a (tE ζ X.K f)) (hb : PE X b (tE ζ X.K g)) : PE X (.Dict [some a] [b] pos) (tE ζ X.K (eDisp1 false f g)) := pe_imp (pe_disp (pps_cons ha hb pps_nil) rfl rfl (fun z => nomatch z) (by show 1 ≤ 15; decide)) fun σ H Q q => by
  obtain ⟨φ, env, m, r, m', S, E, hf, kk⟩ := q
  obtain ⟨d, v, m1, m2, h1, h2, hk, hm, rfl, rfl⟩ := disp1_some hf
  intro p hp
  have S1 : SR ζ X.K (φ.add p) (upd H p (.dK [])) (m ++ [.dct false false []]) := S.enterO hp ⟨[], upd_same, .nil⟩
  have g1 : Gr φ H (φ.add p) (upd H p (.dK [])) := gr_enter hp
  have hp1 : (φ.add p).s[m.length]? = some p := by
    show (φ.s ++ [p])[m.length]? = some p
    rw [← S.len, List.getElem?_append_right (Nat.le_refl _), Nat.sub_self]
    rfl
  refine ⟨φ.add p, env, m ++ [.dct false false []], .val d, m1, S1, E.mono g1, h1, fun φ1 H1 v1 g2 S2 R1 => ?_⟩
  refine ⟨φ1, env, m1, .val v, m2, S2, E.mono (g1.trans g2), h2, fun φ2 H2 v2 g3 S3 R2 => ?_⟩
  have hp2 : φ2.s[m.length]? = some p := prefix_get (g2.trans g3).pre hp1
  obtain ⟨ks, o1, o2⟩ := S3.obj m.length _ p hm hp2
  cases o2
  have o1' : H2 p = some (.dK []) := o1
  obtain ⟨kk0, e0⟩ := Option.isSome_iff_exists.mp (show (keyK d).isSome = true from hk)
  have R1' : Dp X.K (off φ2 H2) v1 d := dp_mono g3.same R1
  obtain rfl := keyK_V e0 R1'
  have hin : p ∈ φ2.s := List.mem_of_getElem? hp2
  refine ⟨o1', [(kk0, v2)], rfl, by show 1 ≤ 15; decide, kk φ2 _ _ (g1.trans (g2.trans (g3.trans (gr_write hin (S3.apart hin) (nf_dK o1'))))) (S3.writeO hp2 ⟨_, upd_same, ?_⟩) ⟨p, rfl, hp2⟩⟩
  exact .cons ⟨e0, R2⟩ .nil
theorem x_disp1T (hr : Room k X.A) (ha : PE X a (tE ζ X.K f)) (hb : PE X b (tE ζ X.K g)) : PE X (.Dict [some a] [b] pos) (tE ζ X.K (eDisp1 true f g)) := ⟨fun pins s σ H Q I q => by
  obtain ⟨φ, env, m, r, m', S, E, hf, kk⟩ := q
  obtain ⟨d, v, m1, m2, h1, h2, hk, hm, rfl, rfl⟩ := disp1_some hf
  have hp : H s.heap.objs.size = none := I.hok.fresh (Nat.le_refl _)
  have I0 : Inv X pins σ (upd H s.heap.objs.size (.ext (XD X.prog X.w s.heap.objs.size []))) { s with heap := s.heap.push { cls := .type "dict", data := .dict #[] }, toks := s.toks } :=
    I.laid (fun _ _ q => Heap.get?_push_of_some _ q) (Nat.le_refl _) (xd_empty s.heap I.big)
  generalize hq : s.heap.objs.size = p at *
  have S1 : SR ζ X.K (φ.add p) (upd H p (.ext (XD X.prog X.w p []))) (m ++ [.dct true false []]) := S.enterO hp ⟨_, _, [], upd_same, .nil⟩
  have g1 : Gr φ H (φ.add p) (upd H p (.ext (XD X.prog X.w p []))) := gr_enter hp
  have hp1 : (φ.add p).s[m.length]? = some p := by
    show (φ.s ++ [p])[m.length]? = some p
    rw [← S.len, List.getElem?_append_right (Nat.le_refl _), Nat.sub_self]
    rfl
  refine wpAny_Dict_any rfl rfl (fun z => nomatch z) (by show 1 ≤ 15; decide) ?_
  refine thn ((pps_cons ha hb pps_nil).run pins _ σ _ (fun ps H' => ∃ v1 v2 φ2, ps = [(v1, v2)] ∧ Gr (φ.add p) (upd H p (.ext (XD X.prog X.w p []))) φ2 H' ∧ SR ζ X.K φ2 H' m2 ∧ Dp X.K (off φ2 H') v1 d ∧ Dp X.K (off φ2 H') v2 v) I0 ?_) fun ws s2 ⟨ps, H2, I2, rel, v1, v2, φ2, e1, g2, S2, R1, R2⟩ => ?_
  · refine ⟨φ.add p, env, m ++ [.dct true false []], .val d, m1, S1, E.mono g1, h1, fun φ1 H1 v1 g2 S2 R1 => ?_⟩
    refine ⟨φ1, env, m1, .val v, m2, S2, E.mono (g1.trans g2), h2, fun φ2 H2 v2 g3 S3 R2 => ?_⟩
    exact ⟨v1, v2, φ2, rfl, g2.trans g3, S3, dp_mono g3.same R1, R2⟩
  · subst e1
    have hp2 : φ2.s[m.length]? = some p := prefix_get g2.pre hp1
    obtain ⟨P, w, es, o1, o2⟩ := S2.obj m.length _ p hm hp2
    cases o2
    have o1' : H2 p = some (.ext (XD P w p [])) := o1
    obtain ⟨z, hd, xs, rl, dd⟩ := xd_rd I2 (.inl o1') .nil
    cases rl
    obtain ⟨kn, e0, e4, e5⟩ := keyOk_N hk
    obtain ⟨b, rfl⟩ := key_ref R1 e5
    cases rel with
    | @cons x y xs ys hxy t =>
      cases t
      obtain ⟨y1, y2⟩ := y
      obtain ⟨ry1, ry2⟩ := hxy
      obtain rfl : y1 = Value.ref b := ry1
      have nk := nested_of I2 e0 (dp_mono off_same R1) (show RelV (.ref b) (.ref b) from rfl)
      have hun := hr.un
      have hin : p ∈ φ2.s := List.mem_of_getElem? hp2
      rw [hq]
      refine wpAny_storeAllH (knd := nestedKind X.prog X.w) (show X.A.units + 8 < cLine by omega) [(.ref b, y2)] [(kn, b, y2)] [] _ _ ⟨rfl, rfl, ⟨nk, e4⟩, trivial⟩ dd (by rw [sizeLine_eq]; show 0 + 1 ≤ 16777216; decide) fun h' tk dd' hs => ?_
      obtain ⟨o', ea, ep, q1, q2, q3, q4, q5, q6⟩ := dd'
      have new : ObjOk X.prog X.w (upd H2 p (.ext (XD X.prog X.w p [(kn, b, v2)]))) h' p (.ext (XD X.prog X.w p [(kn, b, v2)])) :=
        ⟨⟨by rw [sizeLine_eq]; show 1 ≤ 16777216; decide, hd, _, .cons ⟨rfl, rfl, ry2⟩ .nil, o', ea, ep, q1, q2, q3, q4, q6⟩, ⟨o', q1⟩, fun g1 g2 ⟨y1, y2, y3, y4, y5, y6, y7, y8, y9⟩ kp => ⟨y1, y2, y3, y4, y5, y6, y7, kp _ y8, y9⟩⟩
      have I3 := d_write (t' := tk) I2 (by rw [o1']; exact True.intro) hs ⟨o', q1⟩ new
      exact ⟨.ref p, _, I3, rfl, kk φ2 _ _ (g1.trans (g2.trans (gr_write hin (S2.apart hin) (nf_ext o1')))) (S2.writeO hp2 ⟨_, _, _, upd_same, .cons ⟨⟨e0, e4⟩, R1, R2⟩ .nil⟩) ⟨p, rfl, hp2⟩⟩⟩
end
end Ev

set_option Elab.async false
set_option linter.all false
set_option maxRecDepth 100000
/-! dicts walked: the lock, the keys in their order. -/
namespace Ev
open PySem PySem.Spec PyProof.Rows L2

/-- the keys of a dict, one after the other -/
def itDict (f : EF) : IF := fun env m => (f env m).bind fun x => match x.1 with
  | .ref k => match x.2[k]? with
    | some (.dct _ true kvs) => iL (kvs.map Prod.fst) x.2
    | _ => none
  | _ => none
def unlockM (k : Nat) (m : M) : Option M := match m[k]? with
  | some (.dct t true kvs) => some (m.set k (.dct t false kvs))
  | _ => none
def unlockF (k : Nat) : Fl → Option Fl
  | .nx e m => (unlockM k m).map (.nx e)
  | .rt r m => (unlockM k m).map (.rt r)
  | .bk e m => (unlockM k m).map (.bk e)
  | .ct e m => (unlockM k m).map (.ct e)
/-- a statement that walks the dict in the slot i -/
def sLockF (i : Nat) (f : SF) : SF := fun env m => match env[i]? with
  | some (some (.ref k)) => match m[k]? with
    | some (.dct t false kvs) => (f env (m.set k (.dct t true kvs))).bind (unlockF k)
    | _ => none
  | _ => none
def eLockF (i : Nat) (f : EF) : EF := fun env m => match env[i]? with
  | some (some (.ref k)) => match m[k]? with
    | some (.dct t false kvs) => (f env (m.set k (.dct t true kvs))).bind fun x => (unlockM k x.2).map fun m' => (x.1, m')
    | _ => none
  | _ => none
section
variable {K : PySem.W.Frag} {φ φ' : Ad} {H H' : Hp} {m m' : M} {σ : L2.St} {env : Sl}
theorem ER.monoS (hp : φ.s <+: φ'.s) (hs : Same (off φ H) (off φ' H')) (e : ER K φ H σ env) : ER K φ' H' σ env := ⟨e.len, fun i r h => by
  obtain ⟨v, h1, h2⟩ := e.at_ i r h
  exact ⟨v, h1, h2.monoS hp hs⟩⟩
/-- what stands at an unlocked dict -/
theorem OR.unl {Ho : Hp} {a : Addr} {t : Bool} {kvs : List (D × D)} (h : OR K Ho H a (.dct t false kvs)) : ∃ u, H a = some u ∧ Mut (some u) ∧ (∀ ob v, u ≠ .frz ob v) ∧
    (∀ od Ho' H', Same Ho Ho' → H' a = some (.frz od u) → OR K Ho' H' a (.dct t true kvs)) := by
  match t, h with
  | false, ⟨ks, h1, h2⟩ => exact ⟨_, h1, True.intro, fun _ _ z => (nomatch z), fun od Ho' H' e q => ⟨ks, ⟨od, q⟩, Paired.mapP h2 fun p q z => ⟨z.1, dp_mono e z.2⟩⟩⟩
  | true, ⟨P, w, es, h1, h2⟩ => exact ⟨_, h1, True.intro, fun _ _ z => (nomatch z), fun od Ho' H' e q => ⟨P, w, es, ⟨od, q⟩, Paired.mapP h2 fun p q z => ⟨z.1, dp_mono e z.2.1, dp_mono e z.2.2⟩⟩⟩
theorem OR.lck {Ho : Hp} {a : Addr} {t : Bool} {kvs : List (D × D)} {o : Obj} {u : HO} (h : OR K Ho H a (.dct t true kvs)) (e : H a = some (.frz o u)) {H' : Hp} (e' : H' a = some u) : OR K Ho H' a (.dct t false kvs) := by
  match t, h with
  | false, ⟨ks, ⟨o', h1⟩, h2⟩ =>
    rw [e] at h1
    cases h1
    exact ⟨ks, e', h2⟩
  | true, ⟨P, w, es, ⟨o', h1⟩, h2⟩ =>
    rw [e] at h1
    cases h1
    exact ⟨P, w, es, e', h2⟩
theorem OR.lckpl {Ho : Hp} {a : Addr} {t : Bool} {kvs : List (D × D)} {o : Obj} {u : HO} (h : OR K Ho H a (.dct t true kvs)) (e : H a = some (.frz o u)) : plO u := by
  match t, h with
  | false, ⟨ks, ⟨o', h1⟩, h2⟩ =>
    rw [e] at h1
    cases h1
    exact trivial
  | true, ⟨P, w, es, ⟨o', h1⟩, h2⟩ =>
    rw [e] at h1
    cases h1
    exact trivial
theorem mut_pl {u : HO} {od : Obj} (h : Mut (some u)) : plO (.frz od u) := by
  cases u with
  | tup xs => exact (show False from h).elim
  | _ => exact trivial
/-- behind the walk -/
theorem unlock_gr {a : Addr} {u : HO} {od : Obj} (S : SR ζ K φ H m) (ha : a ∈ φ.s) (hu : H a = some u) (nf : ∀ ob v, u ≠ .frz ob v) (g : Gr φ (upd H a (.frz od u)) φ' H') : Gr φ H φ' (upd H' a u) := by
  have ha' : a ∈ φ'.s := g.pre.subset ha
  refine ⟨g.pre, g.eqh, g.eqt, fun b o e => off_write ha' b o (g.same b o (off_write ha b o e)), fun b hb v e n => ?_, fun b o v e => ?_⟩
  · have nb : b ≠ a := fun z => S.apart ha (z ▸ hb)
    rw [upd_ne nb]
    exact g.stay b hb v (by rw [upd_ne nb]; exact e) n
  · have nb : b ≠ a := fun z => by
      rw [z, hu] at e
      cases e
      exact nf _ _ rfl
    rw [upd_ne nb]
    exact g.frz b o v (by rw [upd_ne nb]; exact e)
theorem unlock_sr {a : Addr} {u : HO} {od : Obj} {k : Nat} (S : SR ζ K φ' H' m) (ha : φ'.s[k]? = some a) (e : H' a = some (.frz od u)) (h : unlockM k m = some m') : SR ζ K φ' (upd H' a u) m' := by
  unfold unlockM at h
  split at h
  · rename_i t kvs hm
    cases h
    exact S.writeO ha ((S.obj k _ a hm ha).lck e upd_same) ((S.obj k _ a hm ha).lckpl e)
  · cases h
end
section
variable {X : Cx} {i : Nat} {st : Stmt} {e tg : Expr} {f : SF} {fe : EF}
theorem s_lock (h : PS X st (tS ζ X.K f)) : PS X st (tS ζ X.K (sLockF i f)) := ps_imp (ps_lock h) fun W σ H q => by
  obtain ⟨φ, env, m, fl, S, E, hf, k⟩ := q
  unfold sLockF at hf
  split at hf
  · rename_i j hj
    split at hf
    · rename_i t kvs hm
      obtain ⟨fl2, h1, hf⟩ := bind_some_iff hf
      obtain ⟨v, hv, a, rfl, ha⟩ := E.at_ i _ hj
      obtain ⟨u, hu, mu, nf, lk⟩ := (S.obj j _ a hm ha).unl
      have hin : a ∈ φ.s := List.mem_of_getElem? ha
      refine ⟨a, u, hu, mu, fun od => ?_⟩
      have S1 : SR ζ X.K φ (upd H a (.frz od u)) (m.set j (.dct t true kvs)) := S.writeO ha (lk od _ _ (fun _ _ z => z) upd_same) (mut_pl mu)
      have E1 : ER X.K φ (upd H a (.frz od u)) σ env := E.monoS (List.prefix_refl _) (off_write hin)
      refine ⟨φ, env, _, fl2, S1, E1, h1, ?_⟩
      have fin : ∀ {φ1 : Ad} {H1 : Hp} {m1 m2 : M}, Gr φ (upd H a (.frz od u)) φ1 H1 → SR ζ X.K φ1 H1 m1 → unlockM j m1 = some m2 → H1 a = some (.frz od u) ∧ Gr φ H φ1 (upd H1 a u) ∧ SR ζ X.K φ1 (upd H1 a u) m2 ∧ Same (off φ1 H1) (off φ1 (upd H1 a u)) := fun {φ1 H1 m1 m2} g1 S1 q => by
        have e1 := g1.frz a od u upd_same
        exact ⟨e1, unlock_gr S hin hu nf g1, unlock_sr S1 (prefix_get g1.pre ha) e1 q, off_write (g1.pre.subset hin)⟩
      cases fl2 with
      | nx e m1 =>
        obtain ⟨m2, q, rfl⟩ := Option.map_eq_some_iff.mp hf
        exact fun φ1 σ1 H1 g1 S1 E1 => (fin g1 S1 q).elim fun a1 ⟨a2, a3, a4⟩ => ⟨a1, k φ1 σ1 _ a2 a3 (E1.monoS (List.prefix_refl _) a4)⟩
      | bk e m1 =>
        obtain ⟨m2, q, rfl⟩ := Option.map_eq_some_iff.mp hf
        exact fun φ1 σ1 H1 g1 S1 E1 => (fin g1 S1 q).elim fun a1 ⟨a2, a3, a4⟩ => ⟨a1, k φ1 σ1 _ a2 a3 (E1.monoS (List.prefix_refl _) a4)⟩
      | ct e m1 =>
        obtain ⟨m2, q, rfl⟩ := Option.map_eq_some_iff.mp hf
        exact fun φ1 σ1 H1 g1 S1 E1 => (fin g1 S1 q).elim fun a1 ⟨a2, a3, a4⟩ => ⟨a1, k φ1 σ1 _ a2 a3 (E1.monoS (List.prefix_refl _) a4)⟩
      | rt r m1 =>
        obtain ⟨m2, q, rfl⟩ := Option.map_eq_some_iff.mp hf
        exact fun φ1 H1 v g1 S1 R1 => (fin g1 S1 q).elim fun a1 ⟨a2, a3, a4⟩ => ⟨a1, k φ1 _ v a2 a3 (R1.monoS (List.prefix_refl _) a4)⟩
    · cases hf
  · cases hf
theorem x_lock (h : PE X e (tE ζ X.K fe)) : PE X e (tE ζ X.K (eLockF i fe)) := pe_imp (pe_lock h) fun σ H Q q => by
  obtain ⟨φ, env, m, r, m', S, E, hf, k⟩ := q
  unfold eLockF at hf
  split at hf
  · rename_i j hj
    split at hf
    · rename_i t kvs hm
      obtain ⟨⟨r1, m1⟩, h1, hf⟩ := bind_some_iff hf
      obtain ⟨m2, hq, hf⟩ := Option.map_eq_some_iff.mp hf
      cases hf
      obtain ⟨v, hv, a, rfl, ha⟩ := E.at_ i _ hj
      obtain ⟨u, hu, mu, nf, lk⟩ := (S.obj j _ a hm ha).unl
      have hin : a ∈ φ.s := List.mem_of_getElem? ha
      refine ⟨a, u, hu, mu, fun od => ?_⟩
      have S1 : SR ζ X.K φ (upd H a (.frz od u)) (m.set j (.dct t true kvs)) := S.writeO ha (lk od _ _ (fun _ _ z => z) upd_same) (mut_pl mu)
      have E1 : ER X.K φ (upd H a (.frz od u)) σ env := E.monoS (List.prefix_refl _) (off_write hin)
      refine ⟨φ, env, _, r1, m1, S1, E1, h1, fun φ1 H1 v g1 S1 R1 => ?_⟩
      have e1 := g1.frz a od u upd_same
      exact ⟨e1, k φ1 _ v (unlock_gr S hin hu nf g1) (unlock_sr S1 (prefix_get g1.pre ha) e1 hq) (R1.monoS (List.prefix_refl _) (off_write (g1.pre.subset hin)))⟩
    · cases hf
  · cases hf
end

/-! ### the keys of a locked dict -/
def Itx (d : Addr) (o : Obj) (P : Program) (w : World) (es : List (NestedKey × Addr × V)) : It :=
  ⟨fun i H => H d = some (.frz o (.ext (XD P w d es))) ∧ i < es.length, fun i H x H' => H' = H ∧ ∃ p, es[i]? = some p ∧ x = .ref p.2.1, fun i H => H d = some (.frz o (.ext (XD P w d es))) ∧ es.length ≤ i⟩
theorem paired_at {α β : Type} {F : α → β → Prop} : ∀ {l₁ : List α} {l₂ : List β} {i : Nat} {a : α}, Paired F l₁ l₂ → l₁[i]? = some a → ∃ b, l₂[i]? = some b ∧ F a b
  | _, _, _, _, .nil, e => by simp at e
  | _, _, 0, _, .cons (b := b) h t, e => by
    simp at e
    subst e
    exact ⟨b, rfl, h⟩
  | _, _, i + 1, _, .cons _ t, e => by
    obtain ⟨v, h1, h2⟩ := paired_at (i := i) t (by simpa using e)
    exact ⟨v, by simpa using h1, h2⟩
theorem frzX {X : Cx} {pins : List (Addr × Obj)} {σ : L2.St} {H : Hp} {s : Shared} {d : Addr} {o : Obj} {P : Program} {w : World} {es : List (NestedKey × Addr × V)} (I : Inv X pins σ H s) (h : H d = some (.frz o (.ext (XD P w d es)))) :
    (d == sysModules) = false ∧ s.heap.get? d = some o ∧ o.ExactDict ∧ ∃ (ea : Array DictEntry) (ep : Nat), o.data = .dict ea ep ∧ ea.size = es.length ∧ ∀ (i : Nat) (p : NestedKey × Addr × V), es[i]? = some p → ∃ en : DictEntry, ea[i]? = some en ∧ en.key = .ref p.2.1 ∧ RelV p.2.2 en.val := by
  obtain ⟨hd, ⟨z, hs, xs, rel, o', ea, ep, h1, h2, h3, h4, h5⟩, _⟩ := I.hok d _ h
  rw [hd] at h1
  cases h1
  refine ⟨hs, hd, h2, ea, ep, h3, ?_, fun i p e => ?_⟩
  · rw [size_of_entries h4, ← Paired.len rel]
  · obtain ⟨q, q1, q2, q3, q4⟩ := paired_at rel e
    refine ⟨_, by rw [entry_at h4, q1]; rfl, ?_, q4⟩
    show Value.ref q.2.1 = _
    rw [q3]
theorem turn_x {P : Program} {w : World} {K : PySem.W.Frag} {tg : Expr} {d : Addr} {o : Obj} {ea : Array DictEntry} {ep : Nat} {P0 : Program} {w0 : World} {es : List (NestedKey × Addr × V)} (it : Addr) (hod : o.data = .dict ea ep) :
    Turn P w K tg (Itx d o P0 w0 es) [it] it (fun i h => h.IsKeyIter it d i es.length ep) where
  mem := by simp
  obj := fun i h st b hb => by
    have e : b = it := by simpa using hb
    subst e
    obtain ⟨oi, e, c, dd⟩ := st
    exact ⟨oi, e, fun v z => by rw [dd] at z; cases z⟩
  keep := fun i h h' st k => st.at fun oi e => k it (by simp) oi e
  item := by
    intro X hP hw hK hc i pins s σ H E I hf st hg
    subst hP hw hK
    obtain ⟨hd, hi⟩ := hg
    obtain ⟨f0, f1, f2, f3, f4, f5⟩ := hf it (by simp)
    obtain ⟨hs, hgd, hx, es', ep', hdt, hsz, ent⟩ := frzX I hd
    obtain ⟨rfl, rfl⟩ := dict_ep hod hdt
    obtain ⟨p, hkv⟩ : ∃ p, es[i]? = some p := ⟨es[i], List.getElem?_eq_getElem hi⟩
    obtain ⟨en, hen, hkey, hq⟩ := ent i p hkv
    refine next_key_item st hgd hdt hsz hen fun h' st' sb => ?_
    have I1 : Inv X pins σ H { s with heap := h' } := I.turned (t' := s.toks) (fun b ob hb e => (sb.2 b hb).trans e) f0 f1 f3 f4 f5
    obtain ⟨oi, e, c, dd⟩ := id st'
    exact ⟨en.key, rfl, go_of (s := { s with heap := h' }) e c dd (by decide) ⟨.ref p.2.1, H, I1, hkey, ⟨rfl, p, hkv, rfl⟩, st', fun b hb => (hf b hb).1⟩⟩
  done := by
    intro X hP hw hK hc i pins s σ H E I hf st hg
    subst hP hw hK
    obtain ⟨hd, hi⟩ := hg
    obtain ⟨f0, f1, f2, f3, f4, f5⟩ := hf it (by simp)
    obtain ⟨hs, hgd, hx, es', ep', hdt, hsz, ent⟩ := frzX I hd
    obtain ⟨rfl, rfl⟩ := dict_ep hod hdt
    exact next_key_end (I.ok.hd hc) st hgd hdt hsz hi fun h' eb => ⟨rfl, I.turned (t' := s.toks) (fun b ob hb e => eb b ob hb e) f0 f1 f3 f4 f5⟩
  self := fun A i s Q E st h => wpAny_pyIter_keyiter st h
theorem jok_k {K : PySem.W.Frag} {φ : Ad} {H : Hp} {d : Addr} {o : Obj} {ks : List (Key × V)} {kvs : List (D × D)} (h : H d = some (.frz o (.dK ks))) (n : KOk K (off φ H) ks kvs) : JOk ζ K (Itk d o ks) φ H (srcL (kvs.map Prod.fst)) where
  stop := fun φ' H' m i g S e => ⟨g.frz _ _ _ h, by
    have e' := List.getElem?_eq_none_iff.mp (Option.some.inj e)
    rw [List.length_map, ← Paired.len n] at e'
    exact e'⟩
  go := fun φ' H' m i d g S e => ⟨g.frz _ _ _ h, by
    have e' := (List.getElem?_eq_some_iff.mp (Option.some.inj e)).1
    rw [List.length_map, ← Paired.len n] at e'
    exact e'⟩
  yld := fun φ' H' m i d x H'' g S e y => by
    have e' : (kvs.map Prod.fst)[i]? = some d := Option.some.inj e
    rw [List.getElem?_map] at e'
    obtain ⟨q, e1, e2⟩ := Option.map_eq_some_iff.mp e'
    subst e2
    obtain ⟨rfl, k, v, h1, rfl⟩ := y
    obtain ⟨q', h2, h3, h4⟩ := paired_at n h1
    rw [e1] at h2
    cases h2
    refine ⟨.refl, S, ?_⟩
    show Dp K _ (kV k) q.1
    generalize hq : q.1 = d at h3
    cases d with
    | int i => cases h3; exact .int i
    | str x => cases h3; exact .str x
    | _ => cases h3
theorem jok_x {K : PySem.W.Frag} {φ : Ad} {H : Hp} {d : Addr} {o : Obj} {P0 : Program} {w0 : World} {es : List (NestedKey × Addr × V)} {kvs : List (D × D)} (h : H d = some (.frz o (.ext (XD P0 w0 d es)))) (n : NOk K (off φ H) es kvs) : JOk ζ K (Itx d o P0 w0 es) φ H (srcL (kvs.map Prod.fst)) where
  stop := fun φ' H' m i g S e => ⟨g.frz _ _ _ h, by
    have e' := List.getElem?_eq_none_iff.mp (Option.some.inj e)
    rw [List.length_map, ← Paired.len n] at e'
    exact e'⟩
  go := fun φ' H' m i d g S e => ⟨g.frz _ _ _ h, by
    have e' := (List.getElem?_eq_some_iff.mp (Option.some.inj e)).1
    rw [List.length_map, ← Paired.len n] at e'
    exact e'⟩
  yld := fun φ' H' m i d x H'' g S e y => by
    have e' : (kvs.map Prod.fst)[i]? = some d := Option.some.inj e
    rw [List.getElem?_map] at e'
    obtain ⟨q, e1, e2⟩ := Option.map_eq_some_iff.mp e'
    subst e2
    obtain ⟨rfl, p, h1, rfl⟩ := y
    obtain ⟨q', h2, h3, h4, h5⟩ := paired_at n h1
    rw [e1] at h2
    cases h2
    exact ⟨.refl, S, dp_mono g.same h4⟩
section
variable {X : Cx} {tg e : Expr} {f : EF}
theorem i_dict (he : PE X e (tE ζ X.K f)) : PI X tg e (tI ζ X.K (itDict f)) := ⟨fun pins s σ H R I q => by
  obtain ⟨φ, env, m, src, n, m', S, E, hf, k⟩ := q
  obtain ⟨⟨r, m1⟩, h1, hf⟩ := bind_some_iff hf
  have q1 : tE ζ X.K f σ H (fun v H' => ∃ φ', Gr φ H φ' H' ∧ SR ζ X.K φ' H' m1 ∧ RR X.K φ' H' v r) := ⟨φ, env, m, r, m1, S, E, h1, fun φ1 H1 v g1 S1 R1 => ⟨φ1, g1, S1, R1⟩⟩
  refine thn (he.run pins s σ H _ I q1) fun u s1 ⟨x, H1, I1, rx, φ1, g1, S1, R1⟩ => ?_
  cases r with
  | tp j => first | (cases hf; done) | (cases e; done) | (cases h1; done) | (cases h; done) | (cases h7; done) | (cases h2; done)
  | val d => cases hf
  | ref j =>
    simp only at hf
    split at hf
    · rename_i t kvs hm
      cases hf
      obtain ⟨a, rfl, ha⟩ := R1
      obtain rfl : u = Value.ref a := rx
      match t, S1.obj j _ a hm ha with
      | false, ⟨ks, ⟨o, hd⟩, n⟩ =>
        obtain ⟨hs, hgd, hx, es, ep, vs, hdt, hsz, kv, hmm⟩ := I1.frzK hd
        refine iter_keys hs hgd hx hdt (pi_one (tk := s1.toks) I1 _ (turn_keys _ hdt) ⟨_, Heap.get?_push_size _ rfl, rfl, ?_⟩ (k φ1 H1 _ g1 S1 (jok_k hd n)))
        rw [hsz] <;> rfl
      | true, ⟨P0, w0, es, ⟨o, hd⟩, n⟩ =>
        obtain ⟨hs, hgd, hx, ea, ep, hdt, hsz, ent⟩ := frzX I1 hd
        refine iter_keys hs hgd hx hdt (pi_one (tk := s1.toks) I1 _ (turn_x _ hdt) ⟨_, Heap.get?_push_size _ rfl, rfl, ?_⟩ (k φ1 H1 _ g1 S1 (jok_x hd n)))
        rw [hsz] <;> rfl
    · cases hf⟩
end
end Ev

set_option Elab.async false
set_option linter.all false
set_option maxRecDepth 100000
/-! sorted(..) of what can be collected: dicts (their keys). -/
namespace Ev
open PySem PySem.Spec PyProof.Rows L2
section
variable {X : Cx} {k : Nat} {pins : List (Addr × Obj)} {σ : L2.St} {H : Hp} {s : Shared} {φ : Ad} {m m' : M}
abbrev Eo (K : PySem.W.Frag) (φ : Ad) (H : Hp) : List Value → List D → Prop := PySem.W.EachIs fun v d => ∃ x : V, RelV x v ∧ Dp K (off φ H) x d
theorem eo_mk {K : PySem.W.Frag} : ∀ {ds : List D} {vs : List Value}, vs.length = ds.length → (∀ (i : Nat) (v : Value) (d : D), vs[i]? = some v → ds[i]? = some d → ∃ x : V, RelV x v ∧ Dp K (off φ H) x d) → Eo K φ H vs ds
  | [], [], _, _ => .nil
  | [], _ :: _, h, _ => by cases h
  | _ :: _, [], h, _ => by cases h
  | d :: ds, v :: vs, h, q => .cons (q 0 v d rfl rfl) (eo_mk (by simpa using h) fun i v' d' e1 e2 => q (i + 1) v' d' (by simpa using e1) (by simpa using e2))
theorem sorted_gen {u : Value} {ds : List D} {Q : VK} (hr : Room k X.A) (S : SR ζ X.K φ H m) (hc : ∀ E' : Value → Shared → Prop, wpAny (model X.prog X.w) X.A.in1 (PySem.collect u) (fun vs s1 => Inv X pins σ H s1 ∧ Eo X.K φ H vs ds) E' s)
    (ok : (sortableB ds && smallAll ds && decide (ds.length ≤ sizeLine)) = true) (kk : ValK ζ X.K φ H (.val (.list (sortD ds))) m Q) : wpAny (model X.prog X.w) X.A (call (.builtin "sorted") [u]) (EP X pins σ Q) X.xe s := by
  rw [Bool.and_eq_true, Bool.and_eq_true] at ok
  obtain ⟨⟨c1, c2⟩, c3⟩ := ok
  obtain ⟨hal, hso⟩ := sortable_ok c1
  have hsm := of_decide_eq_true c2
  have hlen := of_decide_eq_true c3
  have hun := hr.un
  refine PySem.W.sorted_of_collect (args_sorted1 _) (fun _ => args_list_sort _) fun E' => wpAny_mono (hc E') (fun vs s1 hq => ?_) fun _ _ e => e
  obtain ⟨I1, e1⟩ := hq
  have hvl : vs.length = ds.length := e1.length
  refine ⟨by rw [hvl]; exact hlen, fun h2 c up hsz hat E2 => ?_⟩
  have I2 : Inv X pins σ H { s1 with heap := h2, toks := s1.toks } := I1.kept up
  have er' : PySem.W.EachIs (fun v b => ∃ as, Reads (PySem.W.sortingHeap h2 s1.heap.objs.size vs) v (id b) as) vs ds := e1.mono fun v d ⟨x, r, q⟩ => by
    obtain ⟨as, ha⟩ := Dp.reads I1 _ _ _ (dp_mono off_same q) r
    exact ⟨as, PyProof.Rows.Reads.keeps (fun b o q => PySem.W.sortingHeap_old (Nat.ne_of_lt (Heap.lt_size q)) (up b o q)) ha⟩
  refine PySem.W.list_sort_vals (κ := PySem.W.dataKind (PySem.W.sortingHeap h2 s1.heap.objs.size vs) (ds.map id)) hat (PySem.W.SortsAt.data (s := { s1 with heap := PySem.W.sortingHeap h2 s1.heap.objs.size vs }) (PySem.W.each_map (R := fun v d => ∃ as, Reads (PySem.W.sortingHeap h2 s1.heap.objs.size vs) v d as) id er') (by rw [List.map_id]; exact hal) (by rw [List.map_id]; exact hso) (PySem.W.bound_map fun b hb => ?_)) (by rw [hvl]; exact hlen) ⟨rfl, ?_⟩
  · have := depth_all hb
    show X.A.units + 1 + 1 + b.depth < cLine
    omega
  · have eo := PySem.W.sortVals_data (enc := id) false e1 er' (by rw [List.map_id]; exact hal)
    have ho := PySem.W.sortVals_length (κ := PySem.W.dataKind (PySem.W.sortingHeap h2 s1.heap.objs.size vs) (ds.map id)) false (ks := vs) (vs := vs) rfl
    generalize PySem.W.sortVals (PySem.W.dataKind (PySem.W.sortingHeap h2 s1.heap.objs.size vs) (ds.map id)) false vs vs = out at eo ho
    obtain ⟨ys, rv2, hd2⟩ := of_each eo
    obtain ⟨c2, hc2⟩ := sortedHeap_at (vs := vs) (out := out.toArray) hat
    have hp : H s1.heap.objs.size = none := I1.hok.fresh (Nat.le_refl _)
    have hyl : ys.length = out.length := rv2.length
    have I3 : Inv X pins σ (upd H s1.heap.objs.size (.lst ys)) { s1 with heap := sortedHeap h2 s1.heap.objs.size vs out.toArray, toks := s1.toks } := I1.laid (o := .lst ys) (fun b ob q => (sortedHeap_old (Nat.ne_of_lt (Heap.lt_size q)) (Heap.lt_size (up b ob q))).trans (up b ob q)) (Nat.le_refl _) ⟨by rw [hyl, ho, hvl]; exact hlen, out, c2, rv2, hc2⟩
    exact ⟨.ref _, _, I3, rfl, kk φ _ _ (gr_alloc hp) (S.alloc hp) (rr_newL S hp hd2)⟩
theorem pairs_at {prog : Program} {w : World} {K : Type} [DecidableEq K] {knd : KeyKind prog w K} {es : List DictEntry} {kvs : List (K × Value)} (h : Pairs knd es kvs) : ∀ {i : Nat} {kv : K × Value}, kvs[i]? = some kv → ∃ e, es[i]? = some e ∧ knd.is kv.1 e.key = true ∧ e.val = kv.2 := by
  induction h with
  | nil => intro i kv e; simp at e
  | @cons e kv0 es kvs h1 h2 ht ih =>
    intro i kv q
    cases i with
    | zero =>
      simp at q
      subst q
      exact ⟨e, rfl, h1, h2⟩
    | succ i =>
      obtain ⟨e', a, b, c⟩ := ih (i := i) (kv := kv) (by simpa using q)
      exact ⟨e', by simpa using a, b, c⟩
/-- a dict's entries, raw -/
theorem dict_raw {a : Addr} {t lk : Bool} {kvs : List (D × D)} (I : Inv X pins σ H s) (O : OR X.K (off φ H) H a (.dct t lk kvs)) :
    (a == sysModules) = false ∧ kvs.length ≤ sizeLine ∧ ∃ (ea : Array DictEntry) (ep : Nat), s.heap.DictRaw a ea ep ∧ ea.size = kvs.length ∧
      ∀ (i : Nat) (q : D × D), kvs[i]? = some q → ∃ en : DictEntry, ea[i]? = some en ∧ (∃ x : V, RelV x en.key ∧ Dp X.K (off φ H) x q.1) ∧ ∃ y : V, RelV y en.val ∧ Dp X.K (off φ H) y q.2 := by
  match t, O with
  | false, ⟨ks, h1, n⟩ =>
    obtain ⟨z, hd, vs, rel, dd⟩ := dk_rd I.hok (lkd_rd h1)
    obtain ⟨o, ea, ep, q1, q2, q3, q4, q5, q6⟩ := dd
    have l1 : ea.size = vs.length := by
      have := q5.length
      rw [Array.length_toList] at this
      exact this
    refine ⟨hd, by rw [← Paired.len n]; exact z, ea, ep, ⟨o, q1, q2, q3⟩, by rw [l1, ← Paired.len rel, Paired.len n], fun i q e => ?_⟩
    obtain ⟨p, e1, e2, e3⟩ := Paired.at_ n e
    obtain ⟨x, f1, f2, f3⟩ := paired_at rel e1
    obtain ⟨en, g1, g2, g3⟩ := pairs_at q5 f1
    rw [Array.getElem?_toList] at g1
    refine ⟨en, g1, ⟨kV p.1, relV_key (show keyIs p.1 en.key = true from by rw [f2]; exact g2), ?_⟩, p.2, by rw [g3]; exact f3, e3⟩
    generalize q.1 = d at e2
    generalize p.1 = kk at e2
    cases d with
    | int i => cases e2; exact .int i
    | str x => cases e2; exact .str x
    | _ => cases e2
  | true, ⟨P, w, es, h1, n⟩ =>
    obtain ⟨z, hd, xs, rel, dd⟩ := xd_rd I (lkd_rd h1) n.off
    obtain ⟨o, ea, ep, q1, q2, q3, q4, q5, q6⟩ := dd
    refine ⟨hd, by rw [← Paired.len n]; exact z, ea, ep, ⟨o, q1, q2, q3⟩, by rw [size_of_entries q4, ← Paired.len rel, Paired.len n], fun i q e => ?_⟩
    obtain ⟨p, e1, e2, e3, e4⟩ := Paired.at_ n e
    obtain ⟨x, f1, f2, f3, f4⟩ := paired_at rel e1
    refine ⟨_, by rw [entry_at q4, f1]; rfl, ⟨.ref p.2.1, ?_, e3⟩, p.2.2, f4, e4⟩
    show Value.ref x.2.1 = Value.ref p.2.1
    rw [f3]
theorem keys_eo {a : Addr} {t lk : Bool} {kvs : List (D × D)} (hc : X.calm = true) (I : Inv X pins σ H s) (O : OR X.K (off φ H) H a (.dct t lk kvs)) (E' : Value → Shared → Prop) :
    wpAny (model X.prog X.w) X.A.in1 (PySem.collect (.ref a)) (fun vs s1 => Inv X pins σ H s1 ∧ Eo X.K φ H vs (kvs.map Prod.fst)) E' s := by
  obtain ⟨hd, hz, ea, ep, raw, hs, ent⟩ := dict_raw I O
  refine PySem.W.kdu_collect (A := X.A.in1) (KdlSrc.rawDict hd) (I.ok.hd hc) raw (by rw [hs]; exact hz) fun h' tk acc hk hacc => ⟨I.kept hk, ?_⟩
  refine eo_mk (by rw [Array.length_toList, hacc.1, hs, List.length_map]) fun i v d e1 e2 => ?_
  rw [List.getElem?_map] at e2
  obtain ⟨q, e6, e7⟩ := Option.map_eq_some_iff.mp e2
  subst e7
  obtain ⟨en, e3, e4, _⟩ := ent i q e6
  obtain ⟨hi, ev⟩ := hacc.2 i v (by rw [← Array.getElem?_toList]; exact e1)
  have e5 : ea[i]? = some ea[i] := Array.getElem?_eq_getElem hi
  rw [e5] at e3
  cases e3
  subst ev
  exact e4
/-- sorted(d) -/
def pSortedD : PF := p1 fun r m => match r with
  | .ref k => (m[k]?).bind fun ob => match ob with
    | .dct _ _ kvs => if (sortableB (kvs.map Prod.fst) && smallAll (kvs.map Prod.fst) && decide ((kvs.map Prod.fst).length ≤ sizeLine)) = true then some (.val (.list (sortD (kvs.map Prod.fst))), m) else none
    | _ => none
  | _ => none
theorem c_sortedD (hr : Room k X.A) (hc : X.calm = true) : CallR X (.builtin "sorted") (rsP ζ X.K pSortedD) := c_one fun pins s σ H v us Q φ m a r m' I rx S ra hf kk => by
  split at hf
  · rename_i k0
    obtain ⟨ob, ho, hf⟩ := bind_some_iff hf
    split at hf
    · rename_i t lk kvs
      split at hf
      · rename_i ok
        cases hf
        obtain ⟨a, rfl, ha⟩ := ra
        obtain ⟨u, rfl, ru⟩ := vals1 rx
        obtain rfl : u = Value.ref a := ru
        exact sorted_gen hr S (keys_eo hc I (S.obj k0 _ a ho ha)) ok kk
      · cases hf
    · cases hf
  · cases hf
end
end Ev

set_option Elab.async false
set_option linter.all false
set_option maxRecDepth 100000
/-! an expression's own objects dropped; d[k] op= v. -/
namespace Ev
open PySem PySem.Spec PyProof.Rows L2
/-- the objects that an expression made are dropped -/
def eCut (f : EF) : EF := fun env m => (f env m).bind fun x => match x.1 with
  | .val d => some (.val d, x.2.take m.length)
  | _ => none
def sAugGF (pg q : R → R → M → Option (R × M)) (p : R → R → R → M → Option M) (f g h : EF) : SF := fun env m => (f env m).bind fun x => (g env x.2).bind fun y => (pg x.1 y.1 y.2).bind fun z => (h env z.2).bind fun w => (q z.1 w.1 w.2).bind fun u => (p x.1 y.1 u.1 u.2).bind fun m' => some (.nx env m')
section
variable {X : Cx} {e o i : Expr} {f g h : EF} {pos tpos : Pos}
theorem x_cut (he : PE X e (tE ζ X.K f)) : PE X e (tE ζ X.K (eCut f)) := pe_imp he fun σ H Q q => by
  obtain ⟨φ, env, m, r, m', S, E, hf, k⟩ := q
  obtain ⟨⟨r1, m1⟩, h1, hf⟩ := bind_some_iff hf
  cases r1 with
  | tp j => first | (cases hf; done) | (cases e; done) | (cases h1; done) | (cases h; done) | (cases h7; done) | (cases h2; done)
  | ref j => cases hf
  | val d =>
    cases hf
    exact ⟨φ, env, m, _, m1, S, E, h1, fun φ1 H1 v g1 S1 R1 => k φ H1 v g1.cut (S.cut S1 g1) (dp_mono (gr_cut g1) R1)⟩
theorem s_augG {op : Operator} {pg q : R → R → M → Option (R × M)} {p : R → R → R → M → Option M} (hg : PGet X (r2P ζ X.K pg)) (ho : PE X o (tE ζ X.K f)) (hi : PE X i (tE ζ X.K g)) (he : PE X e (tE ζ X.K h)) (hp : OpR X (inplaceOp op) (r2P ζ X.K q)) (hs : PSet X (rSetP ζ X.K p))
    (ha : ∀ ov iv new, augStore i ov iv new = (do holding [new, ov, iv] (setItem ov iv new); release [new, ov, iv] []; pure .next) := by intros; rfl) : PS X (.AugAssign (.Subscript o i tpos) op e pos) (tS ζ X.K (sAugGF pg q p f g h)) :=
  ps_imp (ps_augS (tip := r2P ζ X.K q) ho hi hg he hp hs ha) fun W σ H z => by
  obtain ⟨φ, env, m, fl, S, E, hf, k⟩ := z
  obtain ⟨⟨r1, m1⟩, h1, hf⟩ := bind_some_iff hf
  obtain ⟨⟨r2, m2⟩, h2, hf⟩ := bind_some_iff hf
  obtain ⟨⟨r3, m3⟩, h3, hf⟩ := bind_some_iff hf
  obtain ⟨⟨r4, m4⟩, h4, hf⟩ := bind_some_iff hf
  obtain ⟨⟨r5, m5⟩, h5, hf⟩ := bind_some_iff hf
  obtain ⟨m6, h6, hf⟩ := bind_some_iff hf
  cases hf
  refine ⟨φ, env, m, r1, m1, S, E, h1, fun φ1 H1 v1 g1 S1 R1 => ?_⟩
  refine ⟨φ1, env, m1, r2, m2, S1, E.mono g1, h2, fun φ2 H2 v2 g2 S2 R2 => ?_⟩
  refine ⟨φ2, m2, r1, r2, r3, m3, S2, R1.mono g2, R2, h3, fun φ3 H3 v3 g3 S3 R3 => ?_⟩
  refine ⟨φ3, env, m3, r4, m4, S3, E.mono (g1.trans (g2.trans g3)), h4, fun φ4 H4 v4 g4 S4 R4 => ?_⟩
  refine ⟨φ4, m4, r3, r4, r5, m5, S4, R3.mono g4, R4, h5, fun φ5 H5 v5 g5 S5 R5 => ?_⟩
  have gg := g1.trans (g2.trans (g3.trans (g4.trans g5)))
  exact ⟨φ5, m5, r1, r2, r5, m6, S5, R1.mono (g2.trans (g3.trans (g4.trans g5))), R2.mono (g3.trans (g4.trans g5)), R5, h6, fun φ6 H6 g6 S6 => k φ6 σ H6 (gg.trans g6) S6 (E.mono (gg.trans g6))⟩
end
end Ev

set_option Elab.async false
set_option linter.all false
set_option maxRecDepth 100000
/-! sorted(..) of anything: lists, tuples, dicts. -/
namespace Ev
open PySem PySem.Spec PyProof.Rows L2
def asK (r : R) (m : M) : Option (List D) := match r with
  | .ref k => (m[k]?).bind fun ob => match ob with
    | .lst ds => some ds
    | .dct _ _ kvs => some (kvs.map Prod.fst)
  | .val (.list ds) => some ds
  | .val (.tuple ds) => some ds
  | _ => none
def pSortedA : PF := p1 fun r m => (asK r m).bind fun ds => if (sortableB ds && smallAll ds && decide (ds.length ≤ sizeLine)) = true then some (.val (.list (sortD ds)), m) else none
section
variable {X : Cx} {k : Nat} {pins : List (Addr × Obj)} {σ : L2.St} {H : Hp} {s : Shared} {φ : Ad} {m : M}
theorem collect_any {r : R} {v : V} {u : Value} {ds : List D} (hc : X.calm = true) (I : Inv X pins σ H s) (S : SR ζ X.K φ H m) (R0 : RR X.K φ H v r) (rv : RelV v u) (h : asK r m = some ds) (hz : ds.length ≤ sizeLine) (E' : Value → Shared → Prop) :
    wpAny (model X.prog X.w) X.A.in1 (PySem.collect u) (fun vs s1 => Inv X pins σ H s1 ∧ Eo X.K φ H vs ds) E' s := by
  have lst : ∀ {a : Addr} {xs : List V}, u = Value.ref a → SqL X.K H a xs → DpAll X.K (off φ H) xs ds → wpAny (model X.prog X.w) X.A.in1 (PySem.collect u) (fun vs s1 => Inv X pins σ H s1 ∧ Eo X.K φ H vs ds) E' s := fun {a xs} e hs hd => by
    subst e
    obtain ⟨its, rvs, hl, _⟩ := I.list hs
    have hz2 : its.length ≤ sizeLine := by rw [← rvs.length, DpAll.len hd]; exact hz
    have up : ∀ b o, s.heap.get? b = some o → ((s.heap.push (seqObj "list" #[] 0)).update s.heap.objs.size (Obj.mapSeq (· ++ its.toArray))).get? b = some o := fun b o hb => by
      rw [Heap.get?_update_ne _ _ _ _ (Nat.ne_of_lt (Heap.lt_size hb))]
      exact Heap.get?_push_of_some _ hb
    exact collect_list hl.isList ⟨I.kept (t' := s.toks) up, each_of hd rvs⟩ hz2
  cases r with
  | tp j => first | (cases hf; done) | (cases e; done) | (cases h1; done) | (cases h; done) | (cases h7; done) | (cases h2; done)
  | ref k0 =>
    obtain ⟨ob, ho, h⟩ := bind_some_iff h
    obtain ⟨a, rfl, ha⟩ := R0
    obtain rfl : u = Value.ref a := rv
    cases ob with
    | dct t lk kvs =>
      cases h
      exact keys_eo hc I (S.obj k0 _ a ho ha) E'
    | lst ds' =>
      cases h
      obtain ⟨xs, h3, h4⟩ := S.obj k0 _ a ho ha
      exact lst rfl (.inl (.inl h3)) h4
  | val d =>
    have R0' : Dp X.K (off φ H) v d := R0
    cases d with
    | list ds' =>
      cases h
      cases R0' with
      | lst hs hd => exact lst rv (off_same.seq hs) hd
    | tuple ds' =>
      cases h
      cases R0' with
      | @tup a vs _ hs hd =>
        obtain rfl : u = Value.ref a := rv
        obtain ⟨its, rvs, hl, _⟩ := I.tuple (sqT_mono off_same hs)
        exact collect_tupV hl (by rw [← rvs.length, DpAll.len hd]; exact hz) fun h' up => ⟨I.kept (t' := s.toks) up, each_of hd rvs⟩
    | _ => cases h
theorem c_sortedA (hr : Room k X.A) (hc : X.calm = true) : CallR X (.builtin "sorted") (rsP ζ X.K pSortedA) := c_one fun pins s σ H v us Q φ m a r m' I rx S ra hf kk => by
  obtain ⟨ds, h1, hf⟩ := bind_some_iff hf
  split at hf
  · rename_i ok
    cases hf
    obtain ⟨u, rfl, ru⟩ := vals1 rx
    have ok' := ok
    rw [Bool.and_eq_true] at ok'
    exact sorted_gen hr S (collect_any hc I S ra ru h1 (of_decide_eq_true ok'.2)) ok kk
  · cases hf
end
end Ev

set_option Elab.async false
set_option linter.all false
set_option maxRecDepth 100000
/-! sorted and dicts of known values. -/
namespace Ev
open PySem PySem.Spec PyProof.Rows L2
theorem sortD_map {α : Type} (enc : α → D) (l : List α) : sortD (l.map enc) = (l.mergeSort (PySem.W.dataLe false enc)).map enc := by
  unfold sortD
  exact (List.map_mergeSort (r := PySem.W.dataLe false enc) (s := PySem.W.dataLe false id) (f := enc) (l := l) fun a _ b _ => rfl).symm
def srt (l : List Nat) : List Nat := l.mergeSort fun a b => decide (a ≤ b)
theorem srt_perm (l : List Nat) : (srt l).Perm l := List.mergeSort_perm _ _
theorem srt_sorted (l : List Nat) : (srt l).Pairwise (· ≤ ·) := by
  have := List.pairwise_mergeSort (le := fun a b : Nat => decide (a ≤ b)) (fun a b c h1 h2 => by simp at *; omega) (fun a b => by simp; omega) l
  exact this.imp fun h => by simpa using h
theorem srt_len (l : List Nat) : (srt l).length = l.length := (srt_perm l).length_eq
theorem sortable_of {ds : List D} (h : ∀ d ∈ ds, ∃ i, d = .int i) : sortableB ds = true := by
  unfold sortableB
  rw [Bool.and_eq_true, Bool.or_eq_true]
  refine ⟨?_, .inr ?_⟩
  · rw [List.all_eq_true]
    intro x hx
    rw [List.all_eq_true]
    intro y hy
    obtain ⟨i, rfl⟩ := h x hx
    obtain ⟨j, rfl⟩ := h y hy
    rfl
  · rw [List.all_eq_true]
    intro x hx
    obtain ⟨i, rfl⟩ := h x hx
    rfl
theorem depth_of {ds : List D} {n : Nat} (h : ∀ d ∈ ds, d.depth ≤ n) : PyData.depthAll ds ≤ n := by
  induction ds with
  | nil => exact Nat.zero_le _
  | cons d ds ih =>
    have h1 := h d (by simp)
    have h2 := ih fun e he => h e (List.mem_cons_of_mem _ he)
    show max d.depth (PyData.depthAll ds) ≤ n
    omega
theorem small_of {ds : List D} (h : ∀ d ∈ ds, d.depth ≤ 60) : smallAll ds = true := decide_eq_true (depth_of h)
theorem psort_r {r : R} {m : M} {ds : List D} (h : asK r m = some ds) (h1 : sortableB ds = true) (h2 : smallAll ds = true) (h3 : ds.length ≤ 16777216) : pSortedA [r] m = some (.val (.list (sortD ds)), m) := by
  show ((asK r m).bind fun ds => if (sortableB ds && smallAll ds && decide (ds.length ≤ sizeLine)) = true then some (R.val (.list (sortD ds)), m) else none) = _
  rw [h, ob_some]
  simp only [h1, h2, sz, h3, decide_true, Bool.and_self, if_true]
theorem sortD_N (l : List Nat) : sortD (encI l) = encI (srt l) := by
  unfold encI
  rw [sortD_map]
  have e : PySem.W.dataLe false (fun a : Nat => PyData.int a) = fun a b => decide (a ≤ b) := by
    rw [PySem.W.dataLe_int (fun a : Nat => (a : Int))]
    funext a b
    simp
  rw [e]
  rfl
theorem psort_N {r : R} {m : M} {l : List Nat} (h : asK r m = some (encI l)) (hl : l.length ≤ 16777216) : pSortedA [r] m = some (.val (.list (encI (srt l))), m) := by
  rw [psort_r h (sortable_of fun d hd => ?_) (small_of fun d hd => ?_) (by rw [encI_len]; exact hl), sortD_N]
  · obtain ⟨a, _, rfl⟩ := List.mem_map.mp hd
    exact ⟨_, rfl⟩
  · obtain ⟨a, _, rfl⟩ := List.mem_map.mp hd
    exact Nat.zero_le _
/-! tuples of whole numbers as keys -/
theorem keyNs_I : ∀ l : List Nat, keyNs (encI l) = some (l.map fun a : Nat => NestedKey.num a)
  | [] => rfl
  | a :: l => by
    show ((keyN (.int a)).bind fun k => (keyNs (encI l)).map fun ks => k :: ks) = _
    rw [keyNs_I l]
    rfl
theorem keyN_T (l : List Nat) : keyN (encT l) = some (.tup (l.map fun a : Nat => NestedKey.num a)) := by
  show (keyNs (encI l)).map NestedKey.tup = _
  rw [keyNs_I]
  rfl
theorem depth_nums : ∀ l : List Nat, NestedKey.depthAll (l.map fun a : Nat => NestedKey.num a) = 0
  | [] => rfl
  | a :: l => by
    show max 0 (NestedKey.depthAll (l.map fun a : Nat => NestedKey.num a)) = 0
    rw [depth_nums l]
    rfl
theorem keyOk_T (l : List Nat) : keyOk true (encT l) = true := by
  show keyOkN (encT l) = true
  unfold keyOkN
  rw [keyN_T]
  show decide (NestedKey.depthAll (l.map fun a : Nat => NestedKey.num a) + 1 ≤ 8) = true
  rw [depth_nums]
  rfl
theorem nums_inj {a b : List Nat} (h : (a.map fun a : Nat => NestedKey.num a) = b.map fun a : Nat => NestedKey.num a) : a = b := by
  refine (List.map_inj_right ?_).mp h
  intro x y e
  injection e with e
  omega
theorem same_T (a b : List Nat) : sameD true (encT a) (encT b) = decide (a = b) := by
  rw [sameD_T, keyN_T, keyN_T]
  by_cases h : a = b
  · subst h; simp
  · rw [decide_eq_false h]
    refine decide_eq_false fun z => h ?_
    injection z with z
    injection z with z
    exact nums_inj z
/-- a dict that holds True at tuples of whole numbers -/
def kT (ks : List (List Nat)) : List (D × D) := ks.map fun u => (encT u, .bool true)
def insT (ks : List (List Nat)) (w : List Nat) : List (List Nat) := if w ∈ ks then ks else ks ++ [w]
theorem put_T (ks : List (List Nat)) (w : List Nat) : putD true (kT ks) (encT w) (.bool true) = kT (insT ks w) := by
  have e : ((kT ks).any fun q => sameD true q.1 (encT w)) = decide (w ∈ ks) := by
    unfold kT
    rw [List.any_map]
    induction ks with
    | nil => simp
    | cons u ks ih =>
      rw [List.any_cons, ih]
      simp only [Function.comp_apply, same_T, List.mem_cons]
      by_cases h : w = u
      · subst h; simp
      · simp [h, show ¬ u = w from fun z => h z.symm]
  unfold putD insT
  rw [e]
  by_cases h : w ∈ ks
  · rw [if_pos (decide_eq_true h), if_pos h]
    unfold kT
    rw [List.map_map]
    refine List.map_congr_left fun u _ => ?_
    simp only [Function.comp_apply]
    split <;> rfl
  · rw [if_neg (by simp [h]), if_neg h]
    unfold kT
    simp
theorem insT_mem {ks : List (List Nat)} {w u : List Nat} : u ∈ insT ks w ↔ u ∈ ks ∨ u = w := by
  unfold insT
  split
  · rename_i h
    exact ⟨.inl, fun q => q.elim id fun e => e ▸ h⟩
  · simp
theorem insT_len (ks : List (List Nat)) (w : List Nat) : (insT ks w).length ≤ ks.length + 1 := by
  unfold insT
  split
  · omega
  · simp
theorem dset_T {m : M} {j : Nat} {ks : List (List Nat)} {w : List Nat} (h : m[j]? = some (.dct true false (kT ks))) (hl : ks.length < 16777216) : pDSet (.ref j) (.val (encT w)) (.val (.bool true)) m = some (m.set j (.dct true false (kT (insT ks w)))) := by
  have hl2 : (kT ks).length < sizeLine := by unfold kT; rw [List.length_map, sz]; exact hl
  unfold pDSet
  simp only [h, ob_some, keyOk_T, put_T, hl2, and_self, if_true]
theorem kT_keys (ks : List (List Nat)) : (kT ks).map Prod.fst = ks.map encT := by
  unfold kT
  rw [List.map_map]
  rfl
/-! evaluators -/
section
variable {f g : EF} {env : Sl} {m : M}
theorem ev_dnew {t : Bool} : eDNew t env m = some (.ref m.length, m ++ [.dct t false []]) := nr rfl
theorem it_dict : itDict f env m = (f env m).bind fun x => match x.1 with
  | .ref k => match x.2[k]? with
    | some (.dct _ true kvs) => iL (kvs.map Prod.fst) x.2
    | _ => none
  | _ => none := nr rfl
theorem alike_T {a b : List Nat} : PySem.W.alike (encT a) (encT b) = true := by
  show PySem.W.alikeAll (encI a) (encI b) = true
  induction a generalizing b with
  | nil => rfl
  | cons x a ih =>
    cases b with
    | nil => rfl
    | cons y b =>
      show (true && PySem.W.alikeAll (encI a) (encI b)) = true
      rw [ih]
      rfl
theorem depth_T (a : List Nat) : (encT a).depth ≤ 1 := by
  show PyData.depthAll (encI a) + 1 ≤ 1
  have : PyData.depthAll (encI a) ≤ 0 := depth_of fun d hd => by
    obtain ⟨a, _, rfl⟩ := List.mem_map.mp hd
    exact Nat.le_refl _
  omega
/-- sorted of tuples of whole numbers: some order -/
theorem psort_T {r : R} {ks : List (List Nat)} (h : asK r m = some (ks.map encT)) (hne : ∀ u ∈ ks, u ≠ []) (hl : ks.length ≤ 16777216) : ∃ ks' : List (List Nat), ks'.Perm ks ∧ pSortedA [r] m = some (.val (.list (ks'.map encT)), m) := by
  refine ⟨ks.mergeSort (PySem.W.dataLe false encT), List.mergeSort_perm _ _, ?_⟩
  rw [psort_r h (sortable_tup ks (fun u hu => ?_) fun a _ b _ => alike_T) (small_of fun d hd => ?_) (by rw [List.length_map]; exact hl), sortD_map]
  · cases e : u with
    | nil => exact absurd e (hne u hu)
    | cons x xs => exact ⟨_, _, rfl⟩
  · obtain ⟨u, _, rfl⟩ := List.mem_map.mp hd
    exact Nat.le_trans (depth_T u) (by decide)
end
end Ev

set_option Elab.async false
set_option linter.all false
set_option maxRecDepth 100000
set_option maxHeartbeats 4000000
/-! tuple * 1: the tuple itself. -/
namespace L2
open PySem PySem.Spec PyProof.Rows
theorem tuple_mul1 (l : Addr) (items : Array Value) (n : Nat) (dd : Option Addr) (sl : Array (Option Value)) (u : Tok) :
    Meets (Builtin.«tuple.__mul__» ⟨[.ref l, .int 1 u], []⟩) (fun _ R s => s.heap.get? l = some { cls := .type "tuple", dict := dd, data := .seq items n, slots := sl } ∧ R (.ok (.ret (Value.ref l))) s) :=
  .of_wp fun prog w A R s h => by
    obtain ⟨hp, g, d, tk, os⟩ := s
    obtain ⟨hl, h⟩ := h
    have f1 := AutoSeq1.idx_int
    wp_walk using wpAny_loadPart' hl
    repeat (first
      | (refine wpAny_ite_false (by decide) ?_; wp_walk using wpAny_loadPart' hl)
      | (refine wpAny_ite_true (by simp) ?_; wp_walk using wpAny_loadPart' hl))
    all_goals exact ⟨_, rfl, h⟩
section
variable {X : Cx}
theorem op_rep1 : OpR X (binaryOp .Mult) (fun x y H Q => ∃ l xs, x = .ref l ∧ y = .int 1 ∧ SqT X.K H l xs ∧ Q (.ref l) H) := by
  intro pins s σ H x y v u Q I rx ry h
  obtain ⟨l, xs, rfl, rfl, hT, q⟩ := h
  cases rx
  obtain ⟨t, rfl⟩ := ry
  obtain ⟨its, r, ⟨⟨cls, dd, data, sl⟩, ho, hc, n, hd⟩, hs⟩ := I.tuple hT
  simp only at hc hd
  subst hc hd
  exact wpAny_binaryOp_repeat_ref (T := "tuple") (U := "int") (by decide) ⟨_, ho, rfl⟩ (fun s' => typeIs_int s' 1 t) noFill_tuple_mul F.fills_int_mul F.slot_int_rmul repeat_tuple F.slot_int_index.lookup
    (call_meets F.slot_int_rmul (typeIs_int s 1 t) F.entry_int_rmul (F.args_int_rmul_2 _ _) (int_rmul_tuple 1 t l its.toArray n dd sl)
      ⟨ho, rfl, ⟨_, ho, rfl⟩, call_meets F.slot_tuple_mul ⟨_, ho, rfl⟩ F.entry_tuple_mul (F.args_tuple_mul_2 _ _) (tuple_mul1 l its.toArray n dd sl t) ⟨ho, ⟨.ref l, H, I, rfl, q⟩⟩⟩)
end
end L2
namespace Ev
open PySem PySem.Spec PyProof.Rows L2
def pRepA (a b : R) (m : M) : Option (R × M) := match a, b with
  | .val (.tuple ds), .val (.int 1) => some (.val (.tuple ds), m)
  | a, b => pRepT a b m
section
variable {X : Cx}
theorem o_repA : OpR X (binaryOp .Mult) (r2P ζ X.K pRepA) := by
  intro pins s σ H x y v u Q I rx ry q
  obtain ⟨φ, m, r1, r2, r, m', S, R1, R2, hf, k⟩ := q
  unfold pRepA at hf
  split at hf
  · rename_i ds
    cases hf
    obtain ⟨a, xs, rfl, hs, hd⟩ := seqT_of R1
    exact op_rep1 pins s σ H _ _ v u Q I rx ry ⟨a, xs, rfl, rr_int R2, hs, k φ H _ .refl S R1⟩
  · exact o_repT pins s σ H _ _ v u Q I rx ry ⟨φ, m, r1, r2, r, m', S, R1, R2, hf, k⟩
theorem prepA_0 {n : Nat} {m : M} (h : 1 ≤ n) (h2 : n ≤ 1000) : pRepA (.val (.tuple [.int 0])) (.val (.int (n : Int))) m = some (.val (encT (List.replicate n 0)), m) := by
  by_cases c : n = 1
  · subst c
    rfl
  · have e : pRepA (.val (.tuple [.int 0])) (.val (.int (n : Int))) m = pRepT (.val (.tuple [.int 0])) (.val (.int (n : Int))) m := by
      unfold pRepA
      split
      · rename_i h1 h3
        injection h3 with h3
        injection h3 with h3
        omega
      · rfl
    rw [e]
    show (if [PyData.int 0] ≠ [] ∧ (2 : Int) ≤ n ∧ (n : Int) ≤ 1000 ∧ [PyData.int 0].length ≤ 1000 then some (R.val (.tuple (List.replicate ((n : Int)).toNat [PyData.int 0]).flatten), m) else none) = _
    rw [if_pos ⟨by simp, by omega, by omega, by simp⟩, Int.toNat_natCast]
    congr 3
    show PyData.tuple _ = PyData.tuple (encI (List.replicate n 0))
    congr 1
    show (List.replicate n [PyData.int 0]).flatten = encI (List.replicate n 0)
    clear h h2 c e
    unfold encI
    rw [List.map_replicate]
    induction n with
    | zero => rfl
    | succ n ih => rw [List.replicate_succ, List.flatten_cons, ih, List.replicate_succ]; rfl
end
end Ev

set_option Elab.async false
set_option linter.all false
set_option maxRecDepth 100000
/-! least, greatest and places in lists of natural numbers. -/
namespace Ev
open PySem PySem.Spec PyProof.Rows L2
section
variable {m : M} {r : R}
theorem pmin_1 {d : D} {ds : List D} (h : asLT r m = some (d :: ds)) (h1 : alikeB (d :: ds) = true) (h2 : smallAll (d :: ds) = true) : pMin [r] m = some (.val (PySem.W.minD d ds), m) := by
  have e : pMin [r] m = (asLT r m).bind fun ds => match ds with
    | [] => none
    | d :: ds => if (alikeB (d :: ds) && smallAll (d :: ds)) = true then some (.val (PySem.W.minD d ds), m) else none := rfl
  rw [e, h, ob_some]
  simp only [h1, h2, Bool.and_self, if_true]
theorem pmax_1 {d : D} {ds : List D} (h : asLT r m = some (d :: ds)) (h1 : alikeB (d :: ds) = true) (h2 : smallAll (d :: ds) = true) : pMax [r] m = some (.val (PySem.W.maxD d ds), m) := by
  have e : pMax [r] m = (asLT r m).bind fun ds => match ds with
    | [] => none
    | d :: ds => if (alikeB (d :: ds) && smallAll (d :: ds)) = true then some (.val (PySem.W.maxD d ds), m) else none := rfl
  rw [e, h, ob_some]
  simp only [h1, h2, Bool.and_self, if_true]
theorem alikeB_int {ds : List D} (h : ∀ d ∈ ds, ∃ i, d = .int i) : alikeB ds = true := by
  unfold alikeB
  rw [Bool.and_eq_true]
  refine ⟨?_, ?_⟩
  · rw [List.all_eq_true]
    intro x hx
    rw [List.all_eq_true]
    intro y hy
    obtain ⟨i, rfl⟩ := h x hx
    obtain ⟨j, rfl⟩ := h y hy
    rfl
  · rw [List.all_eq_true]
    intro x hx
    obtain ⟨i, rfl⟩ := h x hx
    rfl
theorem isint_map {α : Type} (l : List α) (f : α → Int) : ∀ d ∈ l.map (fun a => PyData.int (f a)), ∃ i, d = .int i := fun d hd => by
  obtain ⟨a, _, rfl⟩ := List.mem_map.mp hd
  exact ⟨_, rfl⟩
theorem small_int {ds : List D} (h : ∀ d ∈ ds, ∃ i, d = .int i) : smallAll ds = true := small_of fun d hd => by
  obtain ⟨i, rfl⟩ := h d hd
  exact Nat.zero_le _
def mnZ (l : List Int) : Int := l.min?.getD 0
def mxZ (l : List Int) : Int := l.max?.getD 0
theorem mnZ_mem {v : List Int} (h : v ≠ []) : mnZ v ∈ v := by
  unfold mnZ
  cases e : v.min? with
  | none => exact absurd (List.min?_eq_none_iff.mp e) h
  | some x => exact List.min?_mem e
theorem mnZ_le {v : List Int} {x : Int} (h : x ∈ v) : mnZ v ≤ x := by
  unfold mnZ
  cases e : v.min? with
  | none =>
    have := List.min?_eq_none_iff.mp e
    rw [this] at h
    cases h
  | some y => exact (List.min?_eq_some_iff.mp e).2 x h
theorem mxZ_mem {v : List Int} (h : v ≠ []) : mxZ v ∈ v := by
  unfold mxZ
  cases e : v.max? with
  | none => exact absurd (List.max?_eq_none_iff.mp e) h
  | some x => exact List.max?_mem e
theorem le_mxZ {v : List Int} {x : Int} (h : x ∈ v) : x ≤ mxZ v := by
  unfold mxZ
  cases e : v.max? with
  | none =>
    have := List.max?_eq_none_iff.mp e
    rw [this] at h
    cases h
  | some y => exact (List.max?_eq_some_iff.mp e).2 x h
theorem pmin_Z {l : List Int} (h : asLT r m = some (l.map PyData.int)) (ne : l ≠ []) : pMin [r] m = some (.val (.int (mnZ l)), m) := by
  cases l with
  | nil => exact absurd rfl ne
  | cons a l =>
    have hi := isint_map (a :: l) id
    rw [List.map_cons] at h
    rw [pmin_1 h (alikeB_int hi) (small_int hi)]
    rw [PySem.W.minD_ints, mnZ, List.min?_cons']
    rfl
theorem pmax_Z {l : List Int} (h : asLT r m = some (l.map PyData.int)) (ne : l ≠ []) : pMax [r] m = some (.val (.int (mxZ l)), m) := by
  cases l with
  | nil => exact absurd rfl ne
  | cons a l =>
    have hi := isint_map (a :: l) id
    rw [List.map_cons] at h
    rw [pmax_1 h (alikeB_int hi) (small_int hi)]
    rw [PySem.W.maxD_ints, mxZ, List.max?_cons']
    rfl
theorem mnZ_cast (l : List Nat) : mnZ (l.map fun a : Nat => (a : Int)) = ((l.min?.getD 0 : Nat) : Int) := by
  cases l with
  | nil => rfl
  | cons a l =>
    unfold mnZ
    rw [List.map_cons, List.min?_cons', List.min?_cons']
    show (l.map fun a : Nat => (a : Int)).foldl min (a : Int) = ((l.foldl min a : Nat) : Int)
    induction l generalizing a with
    | nil => rfl
    | cons b l ih =>
      rw [List.map_cons, List.foldl_cons, List.foldl_cons, ← ih]
      congr 1
      omega
theorem mxZ_cast (l : List Nat) : mxZ (l.map fun a : Nat => (a : Int)) = ((l.max?.getD 0 : Nat) : Int) := by
  cases l with
  | nil => rfl
  | cons a l =>
    unfold mxZ
    rw [List.map_cons, List.max?_cons', List.max?_cons']
    show (l.map fun a : Nat => (a : Int)).foldl max (a : Int) = ((l.foldl max a : Nat) : Int)
    induction l generalizing a with
    | nil => rfl
    | cons b l ih =>
      rw [List.map_cons, List.foldl_cons, List.foldl_cons, ← ih]
      congr 1
      omega
theorem encI_Z (l : List Nat) : encI l = (l.map fun a : Nat => (a : Int)).map PyData.int := by
  unfold encI
  rw [List.map_map]
  rfl
theorem pmin_N {l : List Nat} (h : asLT r m = some (encI l)) (ne : l ≠ []) : pMin [r] m = some (.val (.int ((l.min?.getD 0 : Nat) : Int)), m) := by
  rw [encI_Z] at h
  rw [pmin_Z h (by simpa using ne), mnZ_cast]
theorem pmax_N {l : List Nat} (h : asLT r m = some (encI l)) (ne : l ≠ []) : pMax [r] m = some (.val (.int ((l.max?.getD 0 : Nat) : Int)), m) := by
  rw [encI_Z] at h
  rw [pmax_Z h (by simpa using ne), mxZ_cast]
theorem asLT_r {k : Nat} {ds : List D} (h : m[k]? = some (.lst ds)) : asLT (.ref k) m = some ds := by
  simp [asLT, asL, h]
theorem firstEq_N {a : Nat} : ∀ {l : List Nat}, a ∈ l → firstEq (.int a) (encI l) = some (l.idxOf a)
  | [], h => by cases h
  | b :: l, h => by
    show (if PyData.eqv (.int (b : Int)) (.int (a : Int)) = true then some 0 else (firstEq (.int a) (encI l)).bind fun j => some (j + 1)) = _
    have e : PyData.eqv (.int (b : Int)) (.int (a : Int)) = decide (b = a) := by
      show ((b : Int) == (a : Int)) = _
      by_cases c : b = a
      · subst c; simp
      · rw [decide_eq_false c]; simp; omega
    rw [e]
    by_cases c : b = a
    · subst c
      simp
    · have h2 : a ∈ l := (List.mem_cons.mp h).resolve_left fun z => c z.symm
      simp only [c, decide_false, Bool.false_eq_true, if_false, firstEq_N h2, ob_some]
      rw [List.idxOf_cons, show (b == a) = false by simpa using c]
      rfl
theorem lay_ints : ∀ l : List Nat, SeqAt.shaped (.list (encI l)) = true := fun l => by
  have h1 : PyData.canLay0 (.list (encI l)) = true := by
    induction l with
    | nil => rfl
    | cons a l ih => exact ih
  have h2 : PyData.depth (.list (encI l)) ≤ 64 := by
    show PyData.depthAll (encI l) + 1 ≤ 64
    have : PyData.depthAll (encI l) ≤ 0 := depth_of fun d hd => by
      obtain ⟨a, _, rfl⟩ := List.mem_map.mp hd
      exact Nat.le_refl _
    omega
  unfold SeqAt.shaped
  rw [h1, decide_eq_true h2]
  rfl
theorem pidx_N {k a : Nat} {l : List Nat} (h : m[k]? = some (.lst (encI l))) (ha : a ∈ l) : pIndex (.ref k) [.val (.int (a : Int))] m = some (.val (.int ((l.idxOf a : Nat) : Int)), m) := by
  show ((asD (.val (.int (a : Int))) m).bind fun d => (asL (.ref k) m).bind fun ds => if (SeqAt.shaped (.list ds) && SeqAt.shaped d) = true then (firstEq d ds).bind fun j => some (R.val (.int j), m) else none) = _
  have e1 : asD (.val (.int (a : Int))) m = some (.int (a : Int)) := rfl
  have e2 : SeqAt.shaped (.int (a : Int)) = true := rfl
  rw [e1, ob_some, asL_r h, ob_some, lay_ints, e2]
  simp only [Bool.and_self, if_true, firstEq_N ha, ob_some]
end
end Ev

set_option Elab.async false
set_option linter.all false
set_option maxRecDepth 100000
/-! comprehensions over a list of the store. -/
namespace Ev
open PySem PySem.Spec PyProof.Rows L2
theorem clpR_go {α : Type} {p : Pat} {tt : TF} {te : EF} {env : Sl} {m : M} {k : Nat} (enc : α → D) (t : α → Bool) (F : α → D) (l0 : List α) (hm : m[k]? = some (.lst (l0.map enc))) : ∀ (l : List α) (i : Nat), l0.drop i = l →
    (∀ a ∈ l, ∃ e, bindP p (enc a) env = some e ∧ tt e m = some (t a, m) ∧ (t a = true → te e m = some (.val (F a), m))) → clp (srcR k) p tt te env l.length i m = some ((l.filter t).map F, m)
  | [], i, hd, _ => by
    have e : srcR k i m = some none := by
      unfold srcR
      rw [hm]
      have : (l0.map enc)[i]? = none := by rw [List.getElem?_eq_none_iff, List.length_map]; simpa using hd
      simp only [this]
    simp [clp, e]
  | a :: l, i, hd, h => by
    have ea : l0[i]? = some a := by
      have := congrArg (·[0]?) hd
      simpa using this
    have e : srcR k i m = some (some (enc a)) := by
      unfold srcR
      rw [hm]
      simp only [List.getElem?_map, ea, Option.map_some]
    have h' : l0.drop (i + 1) = l := by
      have := congrArg (List.drop 1) hd
      simpa [List.drop_drop, Nat.add_comm] using this
    obtain ⟨e1, h1, h2, h3⟩ := h a (by simp)
    have ih := clpR_go (p := p) (tt := tt) (te := te) (env := env) (m := m) (k := k) enc t F l0 hm l (i + 1) h' fun b hb => h b (List.mem_cons_of_mem _ hb)
    rw [List.length_cons]
    unfold clp
    rw [e]
    simp only [ob_some, h1, h2]
    cases ht : t a with
    | false =>
      rw [if_neg Bool.false_ne_true, ih, List.filter_cons_of_neg (by rw [ht]; exact Bool.false_ne_true)]
    | true =>
      rw [if_pos rfl, h3 ht]
      simp only [ob_some, asD0_val]
      rw [ih, List.filter_cons_of_pos ht]
      rfl
theorem runC_ref {α : Type} {p : Pat} {tt : TF} {te : EF} {env : Sl} {vs : List Nat} {m : M} {k : Nat} (enc : α → D) (t : α → Bool) (F : α → D) (l : List α) (hm : m[k]? = some (.lst (l.map enc))) (hl : l.length ≤ 16777216)
    (h : ∀ a ∈ l, ∃ e, bindP p (enc a) (wipeE env vs) = some e ∧ tt e m = some (t a, m) ∧ (t a = true → te e m = some (.val (F a), m))) : runC (an1 (.ref k) m) p vs tt te env = some ((l.filter t).map F, m) := by
  have e : an1 (.ref k) m = some ((srcR k, (l.map enc).length), m) := by
    unfold an1
    simp only [hm]
  unfold runC
  rw [e, ob_some]
  simp only [List.length_map, sz, hl, if_true]
  exact clpR_go enc t F l hm l 0 rfl h
theorem runC_refA {α : Type} {p : Pat} {te : EF} {env : Sl} {vs : List Nat} {m : M} {k : Nat} (enc : α → D) (F : α → D) (l : List α) (hm : m[k]? = some (.lst (l.map enc))) (hl : l.length ≤ 16777216)
    (h : ∀ a ∈ l, ∃ e, bindP p (enc a) (wipeE env vs) = some e ∧ te e m = some (.val (F a), m)) : runC (an1 (.ref k) m) p vs tTrue te env = some (l.map F, m) := by
  have := runC_ref (p := p) (tt := tTrue) (te := te) (env := env) (vs := vs) (m := m) (k := k) enc (fun _ => true) F l hm hl fun a ha => by
    obtain ⟨e, h1, h2⟩ := h a ha
    exact ⟨e, h1, rfl, fun _ => h2⟩
  rw [this, List.filter_eq_self.mpr fun _ _ => rfl]
end Ev

set_option Elab.async false
set_option linter.all false
set_option maxRecDepth 100000
/-! the least of tuples of natural numbers. -/
namespace Ev
open PySem PySem.Spec PyProof.Rows L2
theorem lt_cast : ∀ a b : List Nat, (a.map fun x : Nat => (x : Int)) < (b.map fun x : Nat => (x : Int)) ↔ a < b
  | [], [] => by simp
  | [], y :: b => by simp
  | x :: a, [] => by simp
  | x :: a, y :: b => by
    rw [List.map_cons, List.map_cons, List.cons_lt_cons_iff, List.cons_lt_cons_iff, lt_cast a b]
    constructor
    · rintro (h | ⟨h1, h2⟩)
      · exact .inl (by omega)
      · exact .inr ⟨by omega, h2⟩
    · rintro (h | ⟨h1, h2⟩)
      · exact .inl (by omega)
      · exact .inr ⟨by omega, h2⟩
theorem dataLt_T (a b : List Nat) : PySem.W.dataLt (encT a) (encT b) = decide (a < b) := by
  show PySem.W.dataLt (.tuple (encI a)) (.tuple (encI b)) = _
  rw [PySem.W.dataLt_tuple, encI_Z, encI_Z]
  refine (PySem.W.dataLt_ints (a.map fun x : Nat => (x : Int)) (b.map fun x : Nat => (x : Int))).trans ?_
  simp only [lt_cast]
theorem minD_T : ∀ (l : List (List Nat)) (x : List Nat), ∃ r, PySem.W.minD (encT x) (l.map encT) = encT r ∧ r ∈ x :: l ∧ ∀ y ∈ x :: l, ¬ y < r
  | [], x => ⟨x, rfl, by simp, fun y hy => by rw [List.mem_singleton.mp hy]; exact List.lt_irrefl x⟩
  | z :: l, x => by
    have e : PySem.W.minD (encT x) ((z :: l).map encT) = PySem.W.minD (if z < x then encT z else encT x) (l.map encT) := by
      show PySem.W.minD (if PySem.W.dataLt (encT z) (encT x) = true then encT z else encT x) (l.map encT) = _
      rw [dataLt_T]
      simp
    by_cases c : z < x
    · obtain ⟨r, h1, h2, h3⟩ := minD_T l z
      refine ⟨r, by rw [e, if_pos c]; exact h1, List.mem_cons_of_mem _ h2, fun y hy => ?_⟩
      rcases List.mem_cons.mp hy with q | q
      · rw [q]
        exact fun h => h3 z (by simp) (List.lt_trans c h)
      · exact h3 y q
    · obtain ⟨r, h1, h2, h3⟩ := minD_T l x
      refine ⟨r, by rw [e, if_neg c]; exact h1, ?_, fun y hy => ?_⟩
      · rcases List.mem_cons.mp h2 with q | q
        · rw [q]; simp
        · exact List.mem_cons_of_mem _ (List.mem_cons_of_mem _ q)
      · rcases List.mem_cons.mp hy with q | q
        · rw [q]; exact h3 x (by simp)
        · rcases List.mem_cons.mp q with q | q
          · rw [q]
            exact fun h => h3 x (by simp) (List.lt_of_le_of_lt (List.not_lt.mp c) h)
          · exact h3 y (List.mem_cons_of_mem _ q)
theorem pmin_T {l : List (List Nat)} {m : M} (ne : l ≠ []) : ∃ r, pMin [.val (.list (l.map encT))] m = some (.val (encT r), m) ∧ r ∈ l ∧ ∀ y ∈ l, ¬ y < r := by
  cases l with
  | nil => exact absurd rfl ne
  | cons x l =>
    obtain ⟨r, h1, h2, h3⟩ := minD_T l x
    refine ⟨r, ?_, h2, h3⟩
    have al : alikeB (encT x :: l.map encT) = true := by
      have : ∀ d ∈ (encT x :: l.map encT), ∃ a, d = encT a := fun d hd => by
        rw [← List.map_cons] at hd
        obtain ⟨a, _, rfl⟩ := List.mem_map.mp hd
        exact ⟨a, rfl⟩
      unfold alikeB
      rw [Bool.and_eq_true]
      refine ⟨?_, ?_⟩
      · rw [List.all_eq_true]
        intro d hd
        rw [List.all_eq_true]
        intro e he
        obtain ⟨a, rfl⟩ := this d hd
        obtain ⟨b, rfl⟩ := this e he
        exact alike_T
      · rw [List.all_eq_true]
        intro d hd
        obtain ⟨a, rfl⟩ := this d hd
        rfl
    have sm : smallAll (encT x :: l.map encT) = true := small_of fun d hd => by
      rw [← List.map_cons] at hd
      obtain ⟨a, _, rfl⟩ := List.mem_map.mp hd
      exact Nat.le_trans (depth_T a) (by decide)
    rw [List.map_cons, pmin_1 (d := encT x) (ds := l.map encT) rfl al sm, h1]
end Ev

set_option Elab.async false
set_option linter.all false
set_option maxRecDepth 100000
/-! {k: v for .. in ..}, keys whole numbers or texts. -/
namespace Ev
open PySem PySem.Spec PyProof.Rows L2
/-- one pair put into the dict k0 of the store -/
def dputM (k0 : Nat) (a b : R) (m : M) : Option M := match a, b with
  | .val d, .val v => match m[k0]? with
    | some (.dct false false kvs) => if keyOk false d = true ∧ kvs.length < sizeLine then some (m.set k0 (.dct false false (putD false kvs d v))) else none
    | _ => none
  | _, _ => none
def dcl (src : Src) (p : Pat) (tt : TF) (tk tv : EF) (env : Sl) (k0 : Nat) : Nat → Nat → M → Option M
  | 0, i, m => (src i m).bind fun o => match o with
    | none => some m
    | some _ => none
  | n + 1, i, m => (src i m).bind fun o => match o with
    | none => some m
    | some d => (bindP p d env).bind fun e => (tt e m).bind fun t => if t.1 = true then (tk e t.2).bind fun y => (tv e y.2).bind fun z => (dputM k0 y.1 z.1 z.2).bind fun m' => dcl src p tt tk tv env k0 n (i + 1) m' else dcl src p tt tk tv env k0 n (i + 1) t.2
def eDc (it : IF) (p : Pat) (vs : List Nat) (tt : TF) (tk tv : EF) : EF := fun env m => (it env m).bind fun x => if x.1.2 ≤ sizeLine then (dcl x.1.1 p tt tk tv (wipeE env vs) x.2.length x.1.2 0 (x.2 ++ [.dct false false []])).bind fun m' => some (.ref x.2.length, m') else none
theorem dputM_some {k0 : Nat} {a b : R} {m m' : M} (h : dputM k0 a b m = some m') : ∃ d v kvs, a = .val d ∧ b = .val v ∧ m[k0]? = some (.dct false false kvs) ∧ keyOk false d = true ∧ kvs.length < sizeLine ∧ m' = m.set k0 (.dct false false (putD false kvs d v)) := by
  unfold dputM at h
  split at h
  · rename_i d v
    split at h
    · rename_i kvs hm
      split at h
      · rename_i hc
        cases h
        exact ⟨d, v, kvs, rfl, rfl, hm, hc.1, hc.2, rfl⟩
      · cases h
    · cases h
  · cases h
theorem dc_imp {K : PySem.W.Frag} {it : IF} {p : Pat} {vs : List Nat} {tt : TF} {tk tv : EF} {σ : L2.St} {H : Hp} {Q : VK} (hw : p.within vs = true) (q : tE ζ K (eDc it p vs tt tk tv) σ H Q) : tDc (tI ζ K it) (gPat ζ K p) (tT ζ K tt) (tE ζ K tk) (tE ζ K tv) vs σ H Q := by
  obtain ⟨φ, env, m, r, m', S, E, hf, k⟩ := q
  obtain ⟨⟨⟨src, n⟩, m1⟩, h1, hf⟩ := bind_some_iff hf
  simp only at hf
  split at hf
  case isFalse => cases hf
  rename_i hn
  obtain ⟨m9', hf1, hf2⟩ := bind_some_iff hf
  cases hf2
  refine ⟨φ, env, m, src, n, m1, S, E, h1, fun φ1 H1 J g1 S1 JJ => fun P hP => ?_⟩
  have E1 := E.mono g1
  have gP : Gr φ1 H1 (φ1.add P) (upd H1 P (.dK [])) := gr_enter hP
  have SP : SR ζ K (φ1.add P) (upd H1 P (.dK [])) (m1 ++ [.dct false false []]) := S1.enterO hP ⟨[], upd_same, .nil⟩
  have aP : (φ1.add P).s[m1.length]? = some P := by
    show (φ1.s ++ [P])[m1.length]? = some P
    rw [← S1.len, List.getElem?_append_right (Nat.le_refl _), Nat.sub_self]
    rfl
  refine ⟨fun i nn H => ∃ φ2 m2, Gr (φ1.add P) (upd H1 P (.dK [])) φ2 H ∧ SR ζ K φ2 H m2 ∧ dcl src p tt tk tv (wipeE env vs) m1.length nn i m2 = some m', ⟨n, φ1.add P, _, .refl, SP, hf1⟩, ?_⟩
  intro i nn H2 ⟨φ2, m2, g2, S2, hc2⟩
  have gw : Gw φ1 H1 φ2 H2 := (gP.trans g2).w
  have cas : ∃ o, src i m2 = some o := by
    cases nn <;> (obtain ⟨o, ho, _⟩ := bind_some_iff hc2; exact ⟨o, ho⟩)
  obtain ⟨o, ho⟩ := cas
  cases o with
  | none =>
    have e : m2 = m' := by
      cases nn <;> (simp only [dcl, ho, Option.bind_some] at hc2; cases hc2; rfl)
    subst e
    exact .inl ⟨JJ.stop _ _ m2 i gw S2 ho, k φ2 H2 (.ref P) (g1.trans (gP.trans g2)) S2 ⟨P, rfl, prefix_get g2.pre aP⟩⟩
  | some d =>
    cases nn with
    | zero => simp [dcl, ho] at hc2
    | succ nn =>
      refine .inr ⟨JJ.go _ _ m2 i d gw S2 ho, fun H' => ∃ φ2 m2, Gr (φ1.add P) (upd H1 P (.dK [])) φ2 H' ∧ SR ζ K φ2 H' m2 ∧ dcl src p tt tk tv (wipeE env vs) m1.length nn (i + 1) m2 = some m', fun H' z => ⟨nn, Nat.lt_succ_self nn, z⟩, fun x H3 hy => ?_⟩
      obtain ⟨g3, S3, R3⟩ := JJ.yld _ _ m2 i d x H3 gw S2 ho hy
      simp only [dcl, ho, Option.bind_some] at hc2
      obtain ⟨e4, h4, hc2⟩ := bind_some_iff hc2
      obtain ⟨⟨b, m5⟩, h5, hc2⟩ := bind_some_iff hc2
      have E3 : ER K φ2 H3 (wipe σ vs) (wipeE env vs) := (er_wipe (E1.monoW gw) vs).mono g3
      obtain ⟨σ4, q4, E4, w4⟩ := bindP_ok p E3 R3 h4 hw
      refine q4 _ ⟨w4.trans (by
        have := wipe_idem σ vs
        exact this), ?_⟩
      refine ⟨φ2, e4, m2, b, m5, S3, E4, h5, fun φ5 H5 g5 S5 => ?_⟩
      have g35 := g2.trans (g3.trans g5)
      cases b with
      | false =>
        refine iteF ?_
        simp only [Bool.false_eq_true, if_false] at hc2
        exact ⟨φ5, m5, g35, S5, hc2⟩
      | true =>
        refine iteT ?_
        simp only [if_true] at hc2
        obtain ⟨⟨y, m6⟩, h6, hc2⟩ := bind_some_iff hc2
        obtain ⟨⟨z, m7⟩, h7, hc2⟩ := bind_some_iff hc2
        obtain ⟨m8, h8, hc2⟩ := bind_some_iff hc2
        obtain ⟨kd, vd, kvs, rfl, rfl, hm, hk, hl, rfl⟩ := dputM_some h8
        refine ⟨φ5, e4, m5, _, m6, S5, E4.mono g5, h6, fun φ6 H6 v6 g6 S6 R6 => ?_⟩
        refine ⟨φ6, e4, m6, _, m7, S6, E4.mono (g5.trans g6), h7, fun φ7 H7 v7 g7 S7 R7 => ?_⟩
        have g37 := g35.trans (g6.trans g7)
        have ha := prefix_get g37.pre aP
        obtain ⟨ks, o1, o2⟩ := S7.obj m1.length _ P hm ha
        have o1' : H7 P = some (.dK ks) := o1
        obtain ⟨kk0, e0⟩ := Option.isSome_iff_exists.mp (show (keyK kd).isSome = true from hk)
        have R6' : Dp K (off φ7 H7) v6 kd := dp_mono g7.same R6
        have hin : P ∈ φ7.s := List.mem_of_getElem? ha
        exact ⟨ks, kk0, keyK_V e0 R6', o1', by rw [Paired.len o2]; exact hl, φ7, _, g37.trans (gr_write hin (S7.apart hin) (nf_dK o1')), S7.writeO (ob := .dct false false (putD false kvs kd vd)) ha ⟨_, upd_same, o2.put e0 R7⟩, hc2⟩
theorem x_dc {X : Cx} {kx vx tg iter : Expr} {ifs : List Expr} {scope : Scope} {own : List (Str × Nat)} {pos : Pos} {it : IF} {p : Pat} {tt : TF} {tk tv : EF} (hc : X.calm = true) (hN : X.N.Nodup) (hi : PI X tg iter (tI ζ X.K it)) (ok : BlkOk X.N X.env.scope scope own) (hw : p.within (own.map (·.2)) = true)
    (hg : ∀ s H C cl fp, PG (Cb X scope s H C cl fp) tg (gPat ζ X.K p)) (ht : ∀ s H C cl fp, PTs (Cb X scope s H C cl fp) ifs (tT ζ X.K tt)) (hk : ∀ s H C cl fp, PE (Cb X scope s H C cl fp) kx (tE ζ X.K tk)) (he : ∀ s H C cl fp, PE (Cb X scope s H C cl fp) vx (tE ζ X.K tv)) (hs : ∀ x, foldedSetIterable iter X.env x = pure x := by intro _; rfl) :
    PE X (.DictComp kx vx [⟨tg, iter, ifs, 0⟩] scope pos) (tE ζ X.K (eDc it p (own.map (·.2)) tt tk tv)) := pe_imp (pe_dc hc hN hi ok hg ht hk he hs) fun _ _ _ q => dc_imp hw q
end Ev

set_option Elab.async false
set_option linter.all false
set_option maxRecDepth 100000
/-! list.insert; comprehensions of two clauses. -/
namespace Ev
open PySem PySem.Spec PyProof.Rows L2
def pInsert : MF := fun r rs m => match r, rs with
  | .ref k, [.val (.int i), .val d] => (m[k]?).bind fun ob => match ob with
    | .lst ds => if ds.length < sizeLine ∧ 0 ≤ i ∧ i < 2 ^ 63 then some (.val .none, m.set k (.lst (ds.take i.toNat ++ [d] ++ ds.drop i.toNat))) else none
    | .dct _ _ _ => none
  | _, _ => none
section
variable {X : Cx} {k : Nat}
theorem m_insert : MtR X "list.insert" (rmP ζ X.K pInsert) := by
  intro pins s σ H x xs v us Q I rx rxs h
  obtain ⟨φ, m, r0, rs, r, m', S, R0, RS, hf, kk⟩ := h
  unfold pInsert at hf
  split at hf
  · rename_i k i d
    obtain ⟨ob, ho, hf⟩ := bind_some_iff hf
    cases ob with
    | dct t lk kvs => cases hf
    | lst ds =>
      simp only at hf
      split at hf
      · rename_i hl
        cases hf
        obtain ⟨a, rfl, ha⟩ := R0
        obtain ⟨zs, h3, h4⟩ := S.obj k _ a ho ha
        cases RS with
        | cons r1 t1 =>
          cases t1 with
          | cons r2 t2 =>
            cases t2
            have e1 := rr_int r1
            subst e1
            have hin : a ∈ φ.s := List.mem_of_getElem? ha
            refine mt_insert pins s σ H _ _ v us Q I rx rxs ⟨a, zs, i, _, rfl, rfl, h3, by rw [DpAll.len h4]; exact hl.1, hl.2.1, hl.2.2, ?_⟩
            exact kk φ _ _ (gr_write hin (S.apart hin) (nf_lst h3)) (S.write ha (DpAll.append (DpAll.append (DpAll.take _ h4) (.cons r2 .nil)) (DpAll.drop _ h4))) Dp.non
      · cases hf
  · cases hf
end
end Ev

set_option Elab.async false
set_option linter.all false
set_option maxRecDepth 100000
/-! Comprehensions of two clauses: lists. -/
namespace Ev
open PySem PySem.Spec PyProof.Rows L2
/-- the outer loop -/
def clp2 (src : Src) (p : Pat) (tt : TF) (it1 : IF) (p1 : Pat) (vs1 : List Nat) (tt1 : TF) (te : EF) (env : Sl) : Nat → Nat → M → Option (List D × M)
  | 0, i, m => (src i m).bind fun o => match o with
    | none => some ([], m)
    | some _ => none
  | n + 1, i, m => (src i m).bind fun o => match o with
    | none => some ([], m)
    | some d => (bindP p d env).bind fun e => (tt e m).bind fun t => if t.1 = true then (it1 e t.2).bind fun x => (clp x.1.1 p1 tt1 te (wipeE e vs1) x.1.2 0 x.2).bind fun y => (clp2 src p tt it1 p1 vs1 tt1 te env n (i + 1) y.2).bind fun z => some (y.1 ++ z.1, z.2) else clp2 src p tt it1 p1 vs1 tt1 te env n (i + 1) t.2
def nComp2 (it : IF) (p : Pat) (vs : List Nat) (tt : TF) (it1 : IF) (p1 : Pat) (vs1 : List Nat) (tt1 : TF) (te : EF) : NF := fun env m => (it env m).bind fun x => (clp2 x.1.1 p tt it1 p1 vs1 tt1 te (wipeE env vs) x.1.2 0 x.2).bind fun y => if y.1.length ≤ sizeLine then some y else none
theorem lc2_imp {K : PySem.W.Frag} {it : IF} {p : Pat} {vs : List Nat} {tt : TF} {it1 : IF} {p1 : Pat} {vs1 : List Nat} {tt1 : TF} {te : EF} {σ : L2.St} {H : Hp} {Q : VK} (hw : p.within vs = true) (hw1 : p1.within vs1 = true) (q : tN ζ K (nComp2 it p vs tt it1 p1 vs1 tt1 te) σ H Q) :
    tLc2 (tI ζ K it) (gPat ζ K p) (tT ζ K tt) (tI ζ K it1) (gPat ζ K p1) (tT ζ K tt1) (tE ζ K te) vs vs1 σ H Q := by
  obtain ⟨φ, env, m, ds, m', S, E, hf, k⟩ := q
  obtain ⟨⟨⟨src, n⟩, m1⟩, h1, hf⟩ := bind_some_iff hf
  obtain ⟨⟨ds', m9⟩, hf0, hf⟩ := bind_some_iff hf
  simp only at hf hf0
  split at hf
  case isFalse => cases hf
  rename_i hn
  cases hf
  refine ⟨φ, env, m, src, n, m1, S, E, h1, fun φ1 H1 J g1 S1 JJ => fun P hP => ?_⟩
  have E1 := E.mono g1
  refine ⟨fun i nn H => ∃ φ2 m2 acc ads rest, Gr φ1 H1 φ2 (drp H P) ∧ SR ζ K (φ2.hide P) H m2 ∧ H P = some (.lst acc) ∧ DpAll K (off (φ2.hide P) H) acc ads ∧ clp2 src p tt it1 p1 vs1 tt1 te (wipeE env vs) nn i m2 = some (rest, m') ∧ ads ++ rest = ds, ⟨n, φ1, m1, [], [], ds, ?_, S1.hide hP, upd_same, .nil, hf0, rfl⟩, ?_⟩
  · rw [drp_upd, drp_none hP]
    exact .refl
  intro i nn H2 ⟨φ2, m2, acc, ads, rest, g2, S2, hp2, hd2, hc2, ha2⟩
  have gw : Gw φ1 H1 (φ2.hide P) H2 := g2.w.trans gw_hide
  have cas : ∃ o, src i m2 = some o := by
    cases nn <;> (obtain ⟨o, ho, _⟩ := bind_some_iff hc2; exact ⟨o, ho⟩)
  obtain ⟨o, ho⟩ := cas
  cases o with
  | none =>
    have e : rest = [] ∧ m2 = m' := by
      cases nn <;> (simp only [clp2, ho, Option.bind_some] at hc2; cases hc2; exact ⟨rfl, rfl⟩)
    obtain ⟨e1, e2⟩ := e
    subst e1 e2
    rw [List.append_nil] at ha2
    subst ha2
    refine .inl ⟨JJ.stop _ _ m2 i gw S2 ho, ?_⟩
    rw [off_hide] at hd2
    have := k φ2 (drp H2 P) P acc (g1.trans g2) (S2.show_ hp2) drp_self hd2
    rw [upd_drp hp2] at this
    exact this
  | some d =>
    cases nn with
    | zero => simp [clp2, ho] at hc2
    | succ nn =>
      refine .inr ⟨JJ.go _ _ m2 i d gw S2 ho, fun H' => ∃ φ2 m2 acc ads rest, Gr φ1 H1 φ2 (drp H' P) ∧ SR ζ K (φ2.hide P) H' m2 ∧ H' P = some (.lst acc) ∧ DpAll K (off (φ2.hide P) H') acc ads ∧ clp2 src p tt it1 p1 vs1 tt1 te (wipeE env vs) nn (i + 1) m2 = some (rest, m') ∧ ads ++ rest = ds,
        fun H' z => ⟨nn, Nat.lt_succ_self nn, z⟩, fun x H3 hy => ?_⟩
      obtain ⟨g3, S3, R3⟩ := JJ.yld _ _ m2 i d x H3 gw S2 ho hy
      simp only [clp2, ho, Option.bind_some] at hc2
      obtain ⟨e4, h4, hc2⟩ := bind_some_iff hc2
      obtain ⟨⟨b, m5⟩, h5, hc2⟩ := bind_some_iff hc2
      have E3 : ER K (φ2.hide P) H3 (wipe σ vs) (wipeE env vs) := (er_wipe (E1.monoW gw) vs).mono g3
      obtain ⟨σ4, q4, E4, w4⟩ := bindP_ok p E3 R3 h4 hw
      refine q4 _ ⟨w4.trans (wipe_idem σ vs), ?_⟩
      refine ⟨φ2.hide P, e4, m2, b, m5, S3, E4, h5, fun φ5' H5 g5 S5 => ?_⟩
      have g35 := g3.trans g5
      obtain ⟨φ5, rfl, g5'⟩ := Gr.unhide g35
      have hp5 : H5 P = some (.lst acc) := g35.stay P List.mem_cons_self _ hp2 (fun ps z => by cases z)
      have hd5 := dps_mono g35.same hd2
      cases b with
      | false =>
        refine iteF ?_
        simp only [Bool.false_eq_true, if_false] at hc2
        exact ⟨φ5, m5, acc, ads, rest, g2.trans g5', S5, hp5, hd5, hc2, ha2⟩
      | true =>
        refine iteT ?_
        simp only [if_true] at hc2
        obtain ⟨⟨⟨src1, n1⟩, m6⟩, h6, hc2⟩ := bind_some_iff hc2
        obtain ⟨⟨r1, m7⟩, h7, hc2⟩ := bind_some_iff hc2
        obtain ⟨⟨r2, m8⟩, h8, hc2⟩ := bind_some_iff hc2
        cases hc2
        refine ⟨φ5.hide P, e4, m5, src1, n1, m6, S5, E4.mono g5, h6, fun φ6' H6 J1 g6 S6 JJ1 => ?_⟩
        have g36 := g35.trans g6
        obtain ⟨φ6, rfl, g6'⟩ := Gr.unhide g36
        have hp6 : H6 P = some (.lst acc) := g36.stay P List.mem_cons_self _ hp2 (fun ps z => by cases z)
        have hd6 := dps_mono g36.same hd2
        have E6 : ER K (φ6.hide P) H6 σ4 e4 := E4.mono (g5.trans g6)
        refine ⟨fun j k H => ∃ φ3 m3 acc ads r1, Gr φ6 (drp H6 P) φ3 (drp H P) ∧ Gw (φ6.hide P) H6 (φ3.hide P) H ∧ SR ζ K (φ3.hide P) H m3 ∧ H P = some (.lst acc) ∧ DpAll K (off (φ3.hide P) H) acc ads ∧ clp src1 p1 tt1 te (wipeE e4 vs1) k j m3 = some (r1, m7) ∧ ads ++ (r1 ++ r2) = ds, ⟨n1, φ6, m6, acc, ads, r1, .refl, Gr.refl.w, S6, hp6, hd6, h7, ha2⟩, ?_⟩
        intro j k7 H7 ⟨φ7, m70, acc7, ads7, r7, g7, gw7, S7, hp7, hd7, hc7, ha7⟩
        have cas : ∃ o, src1 j m70 = some o := by
          cases k7 <;> (obtain ⟨o, ho, _⟩ := bind_some_iff hc7; exact ⟨o, ho⟩)
        obtain ⟨o7, ho7⟩ := cas
        have hlen : ads7.length ≤ acc7.length := by rw [DpAll.len hd7]; exact Nat.le_refl _
        cases o7 with
        | none =>
          have e : r7 = [] ∧ m70 = m7 := by
            cases k7 <;> (simp only [clp, ho7, Option.bind_some] at hc7; cases hc7; exact ⟨rfl, rfl⟩)
          obtain ⟨e1, e2⟩ := e
          subst e1 e2
          exact .inl ⟨JJ1.stop _ _ m70 j gw7 S7 ho7, φ7, m70, acc7, ads7, r2, g2.trans (g6'.trans g7), S7, hp7, hd7, h8, ha7⟩
        | some d7 =>
          cases k7 with
          | zero => simp [clp, ho7] at hc7
          | succ k7 =>
            refine .inr ⟨JJ1.go _ _ m70 j d7 gw7 S7 ho7, fun H' => ∃ φ3 m3 acc ads r1, Gr φ6 (drp H6 P) φ3 (drp H' P) ∧ Gw (φ6.hide P) H6 (φ3.hide P) H' ∧ SR ζ K (φ3.hide P) H' m3 ∧ H' P = some (.lst acc) ∧ DpAll K (off (φ3.hide P) H') acc ads ∧ clp src1 p1 tt1 te (wipeE e4 vs1) k7 (j + 1) m3 = some (r1, m7) ∧ ads ++ (r1 ++ r2) = ds,
              fun H' z => ⟨k7, Nat.lt_succ_self k7, z⟩, fun x8 H8 hy8 => ?_⟩
            obtain ⟨g8, S8, R8⟩ := JJ1.yld _ _ m70 j d7 x8 H8 gw7 S7 ho7 hy8
            simp only [clp, ho7, Option.bind_some] at hc7
            obtain ⟨e9, h9, hc7⟩ := bind_some_iff hc7
            obtain ⟨⟨b9, m10⟩, h10, hc7⟩ := bind_some_iff hc7
            have E8 : ER K (φ7.hide P) H8 (wipe σ4 vs1) (wipeE e4 vs1) := (er_wipe (E6.monoW gw7) vs1).mono g8
            obtain ⟨σ9, q9, E9, w9⟩ := bindP_ok p1 E8 R8 h9 hw1
            refine q9 _ ⟨w9.trans (wipe_idem σ4 vs1), ?_⟩
            refine ⟨φ7.hide P, e9, m70, b9, m10, S8, E9, h10, fun φ10' H10 g10 S10 => ?_⟩
            have g810 := g8.trans g10
            have gw10 := gw7.trans g810.w
            obtain ⟨φ10, rfl, g10'⟩ := Gr.unhide g810
            have hp10 : H10 P = some (.lst acc7) := g810.stay P List.mem_cons_self _ hp7 (fun ps z => by cases z)
            have hd10 := dps_mono g810.same hd7
            cases b9 with
            | false =>
              refine iteF ?_
              simp only [Bool.false_eq_true, if_false] at hc7
              exact ⟨φ10, m10, acc7, ads7, r7, g7.trans g10', gw10, S10, hp10, hd10, hc7, ha7⟩
            | true =>
              refine iteT ?_
              simp only [if_true] at hc7
              obtain ⟨⟨y, m11⟩, h11, hc7⟩ := bind_some_iff hc7
              obtain ⟨d', h12, hc7⟩ := bind_some_iff hc7
              obtain ⟨⟨zs, m13⟩, h13, hc7⟩ := bind_some_iff hc7
              cases hc7
              have hyv : y = .val d' := by
                cases y with
                | tp j => cases h12
                | ref j => cases h12
                | val d => cases h12; rfl
              subst hyv
              refine ⟨φ10.hide P, e9, m10, _, m11, S10, E9.mono g10, h11, fun φ11' H11 v11 g11 S11 R11 => ?_⟩
              have g811 := g810.trans g11
              have gw11 := gw7.trans g811.w
              obtain ⟨φ11, rfl, g11'⟩ := Gr.unhide g811
              have hp11 : H11 P = some (.lst acc7) := g811.stay P List.mem_cons_self _ hp7 (fun ps z => by cases z)
              have hd11 := dps_mono g811.same hd7
              refine ⟨acc7, hp11, ?_, φ11, m11, acc7 ++ [v11], ads7 ++ [d'], zs, ?_, ?_, S11.hidSet hp11, upd_same, ?_, h13, ?_⟩
              · rw [DpAll.len hd7]
                have := congrArg List.length ha7
                simp only [List.length_append, List.length_cons] at this
                omega
              · rw [drp_upd]
                exact g7.trans g11'
              · refine ⟨gw11.pre, ?_, fun a o u e => ?_⟩
                · have := gw11.same
                  rw [off_hide, off_hide] at this ⊢
                  rw [drp_upd]
                  exact this
                · have h := gw11.frz a o u e
                  rw [upd_ne (fun z : a = P => by rw [z, hp11] at h; cases h)]
                  exact h
              · rw [off_hide, drp_upd, ← off_hide]
                exact DpAll.append hd11 (.cons R11 .nil)
              · rw [← ha7]
                simp
section
variable {X : Cx}
theorem n_comp2 {elt tg iter tg1 iter1 : Expr} {ifs ifs1 : List Expr} {scope : Scope} {own own1 : List (Str × Nat)} {pos : Pos} {it it1 : IF} {p p1 : Pat} {tt tt1 : TF} {te : EF} (hc : X.calm = true) (hN : X.N.Nodup) (hi : PI X tg iter (tI ζ X.K it)) (ok : BlkOk X.N X.env.scope scope own) (hw : p.within (own.map (·.2)) = true) (hw1 : p1.within (own1.map (·.2)) = true) (hv : ∀ i ∈ own1.map (·.2), i ∈ own.map (·.2))
    (hg : ∀ s H C cl fp, PG (Cb X scope s H C cl fp) tg (gPat ζ X.K p)) (ht : ∀ s H C cl fp, PTs (Cb X scope s H C cl fp) ifs (tT ζ X.K tt)) (hi1 : ∀ s H C cl fp, PI (Cb X scope s H C cl fp) tg1 iter1 (tI ζ X.K it1)) (hg1 : ∀ s H C cl fp, PG (Cb X scope s H C cl fp) tg1 (gPat ζ X.K p1)) (ht1 : ∀ s H C cl fp, PTs (Cb X scope s H C cl fp) ifs1 (tT ζ X.K tt1)) (he : ∀ s H C cl fp, PE (Cb X scope s H C cl fp) elt (tE ζ X.K te))
    (hs : ∀ x, foldedSetIterable iter X.env x = pure x := by intro _; rfl) (hs1 : ∀ env x, foldedSetIterable iter1 env x = pure x := by intro _ _; rfl) :
    PE X (.ListComp elt [⟨tg, iter, ifs, 0⟩, ⟨tg1, iter1, ifs1, 0⟩] scope pos) (tN ζ X.K (nComp2 it p (own.map (·.2)) tt it1 p1 (own1.map (·.2)) tt1 te)) := pe_imp (pe_lc2 hc hN hi ok hv hg ht hi1 hg1 ht1 he hs hs1) fun _ _ _ q => lc2_imp hw hw1 q
theorem s_setC2 {i : Nat} {y : Str} {py : Pos} {elt tg iter tg1 iter1 : Expr} {ifs ifs1 : List Expr} {scope : Scope} {own own1 : List (Str × Nat)} {pos spos : Pos} {it it1 : IF} {p p1 : Pat} {tt tt1 : TF} {te : EF} (hc : X.calm = true) (hN : X.N.Nodup) (hy : X.N[i]? = some y) (hyl : X.env.scope.names.lookup y = some .local)
    (hsw : swapsWith (.ListComp elt [⟨tg, iter, ifs, 0⟩, ⟨tg1, iter1, ifs1, 0⟩] scope pos) (some (.Name y py)) spos.line X.env = pure true) (hi : PI X tg iter (tI ζ X.K it)) (ok : BlkOk X.N X.env.scope scope own) (hw : p.within (own.map (·.2)) = true) (hw1 : p1.within (own1.map (·.2)) = true) (hv : ∀ i ∈ own1.map (·.2), i ∈ own.map (·.2))
    (hg : ∀ s H C cl fp, PG (Cb X scope s H C cl fp) tg (gPat ζ X.K p)) (ht : ∀ s H C cl fp, PTs (Cb X scope s H C cl fp) ifs (tT ζ X.K tt)) (hi1 : ∀ s H C cl fp, PI (Cb X scope s H C cl fp) tg1 iter1 (tI ζ X.K it1)) (hg1 : ∀ s H C cl fp, PG (Cb X scope s H C cl fp) tg1 (gPat ζ X.K p1)) (ht1 : ∀ s H C cl fp, PTs (Cb X scope s H C cl fp) ifs1 (tT ζ X.K tt1)) (he : ∀ s H C cl fp, PE (Cb X scope s H C cl fp) elt (tE ζ X.K te))
    (hs : ∀ x, foldedSetIterable iter X.env x = pure x := by intro _; rfl) (hs1 : ∀ env x, foldedSetIterable iter1 env x = pure x := by intro _ _; rfl) :
    PS X (.Assign [.Name y py] (.ListComp elt [⟨tg, iter, ifs, 0⟩, ⟨tg1, iter1, ifs1, 0⟩] scope pos) spos) (tS ζ X.K (sAsg (eL (nComp2 it p (own.map (·.2)) tt it1 p1 (own1.map (·.2)) tt1 te)) (gNm i))) := ps_imp (ps_setLc2 hc hN hy hyl hsw hi ok hv hg ht hi1 hg1 ht1 he hs hs1) fun W σ H q => by
  obtain ⟨φ, env, m, fl, S, E, hf, k⟩ := q
  obtain ⟨⟨r1, m1⟩, h1, hf⟩ := bind_some_iff hf
  obtain ⟨⟨ds, m2⟩, h2, h1⟩ := bind_some_iff h1
  cases h1
  cases hf
  refine lc2_imp hw hw1 ⟨φ, env, m, ds, m2, S, E, h2, fun φ1 H1 p vs g1 S1 hp hd => ?_⟩
  have g2 := g1.trans (gr_alloc (o := .lst vs) hp)
  exact k φ1 _ _ g2 (S1.alloc hp) ((E.mono g2).set (rr_newL S1 hp hd) i)
end
end Ev

set_option Elab.async false
set_option linter.all false
set_option maxRecDepth 100000
/-! Comprehensions of two clauses: dicts, with keys of either kind. -/
namespace Ev
open PySem PySem.Spec PyProof.Rows L2
section
variable {prog : Program} {w : World} {A : Around} {R : Result → Shared → Prop} {s : Shared} {kx vx ta ia tb ib : Expr} {fa fb : List Expr} {scope : Scope} {pos : Pos} {it : Value} {D : Addr} {env : Env}
/-- a comprehension {kx: vx for ta in ia if fa for tb in ib if fb} -/
abbrev DC2 (kx vx ta ia tb ib : Expr) (fa fb : List Expr) (scope : Scope) (pos : Pos) : Expr := .DictComp kx vx [⟨ta, ia, fa, 0⟩, ⟨tb, ib, fb, 0⟩] scope pos
theorem turnD2_0 : compTurn (DC2 kx vx ta ia tb ib fa fb scope pos) 0 it (.ref D) env = (do
      standAt ia.pos
      match ← pyNext it with
      | none => pure (.done .next)
      | some v =>
        letOwnedTupleGo ta it v
        assign ta env v
        let mut ok := true
        for c in fa do
          if ok then ok ← isTrue c env (eval c env)
        if ok then
          let z ← eval ib env
          standAt ib.pos
          let z ← foldedSetIterable ib env z
          let _ ← runOwn (.compStart (DC2 kx vx ta ia tb ib fa fb scope pos) 1 (← holding [z] (pyIter z)) (.ref D) env) env
        again (.compLoop (DC2 kx vx ta ia tb ib fa fb scope pos) 0 it (.ref D) env)) := by rfl
theorem turnD2_1 : compTurn (DC2 kx vx ta ia tb ib fa fb scope pos) 1 it (.ref D) env = (do
      standAt ib.pos
      match ← pyNext it with
      | none => pure (.done .next)
      | some v =>
        letOwnedTupleGo tb it v
        assign tb env v
        let mut ok := true
        for c in fb do
          if ok then ok ← isTrue c env (eval c env)
        if ok then
          (do
            let kk ← eval kx env
            let vv ← holding [kk] (eval vx env)
            standAt { kx.pos with endLine := vx.pos.endLine, endCol := vx.pos.endCol }
            holding [kk, vv] (dictSet D kk vv))
        again (.compLoop (DC2 kx vx ta ia tb ib fa fb scope pos) 1 it (.ref D) env)) := by rfl
/-- what is noted of an error -/
abbrev Nb (prog : Program) (w : World) (A : Around) (env : Env) (R : Result → Shared → Prop) : Value → Shared → Prop := notedBy (model prog w) A env fun e s' => R (.error e) s'
theorem loopD2_0 (hs : ∀ x, foldedSetIterable ib env x = pure x) (I : Nat → Shared → Prop)
    (turn : ∀ n s, I n s → wpAny (model prog w) A (pyNext it) (fun r s₁ => match r with
      | none => R (.ok .next) s₁
      | some v => wpAny (model prog w) A (letOwnedTupleGo ta it v) (fun _ sb => wpAny (model prog w) A (assign ta env v) (fun _ s₂ =>
          wpAny (model prog w) A (forIn fa true fun c r => if r = true then do let ok ← isTrue c env (eval c env); pure (ForInStep.yield ok) else pure (ForInStep.yield r)) (fun ok s₃ =>
            if ok = true then wpAny (model prog w) A (eval ib env) (fun x s₄ => wpAny (model prog w) A (pyIter x) (fun itb s₅ =>
              codeAny (model prog w) A (.compStart (DC2 kx vx ta ia tb ib fa fb scope pos) 1 itb (.ref D) env) (fun r s' => match r with
                | .ok _ => ∃ m, m < n ∧ I m s'
                | .error _ => False) s₅) (Nb prog w A env R) s₄) (Nb prog w A env R) s₃
            else ∃ m, m < n ∧ I m s₃) (Nb prog w A env R) s₂) (Nb prog w A env R) sb) (Nb prog w A env R) s₁) (Nb prog w A env R) s)
    (n : Nat) (h : I n s) : codeAny (model prog w) A (.compLoop (DC2 kx vx ta ia tb ib fa fb scope pos) 0 it (.ref D) env) R s := by
  refine codeAny_loop rfl I (fun n s hI => ?_) n h
  show wpAny _ A ((compTurn (DC2 kx vx ta ia tb ib fa fb scope pos) 0 it (.ref D) env).onRaise (fun x => do noteFrame x env; theTreesLotGoes x)) _ _ s
  refine wpAny_noted ?_
  rw [turnD2_0]
  refine wpAny_bind (wpAny_standAt (wpAny_bind (wpAny_mono (turn n s hI) (fun r s₁ e1 => ?_) fun _ _ q => q)))
  cases r with
  | none => exact wpAny_pure e1
  | some v =>
    refine wpAny_bind (wpAny_mono e1 (fun _ sb e2 => ?_) fun _ _ q => q)
    refine wpAny_bind (wpAny_mono e2 (fun _ s₂ e3 => wpAny_bind (wpAny_mono e3 (fun ok s₃ e4 => ?_) fun _ _ q => q)) fun _ _ q => q)
    cases ok with
    | false => exact wpAny_pure ⟨rfl, e4⟩
    | true =>
      refine wpAny_bind (wpAny_mono e4 (fun x s₄ e5 => ?_) fun _ _ q => q)
      refine wpAny_bind (wpAny_standAt (wpAny_bind (wpAny_of_eq (hs x) (wpAny_bind (wpAny_holding (wpAny_mono e5 (fun itb s₅ e6 => ?_) fun _ _ q => q))))))
      refine wpAny_bind (wpAny_runOwn ?_)
      rw [Around.mark_none]
      refine codeAny_mono e6 fun r s' hr => ?_
      cases r with
      | ok f =>
        first
          | exact wpAny_pure ⟨rfl, hr⟩
          | exact wpAny_bind (wpAny_pure (wpAny_pure ⟨rfl, hr⟩))
      | error e => exact hr.elim
theorem loopD2_1 (I : Nat → Shared → Prop)
    (turn : ∀ n s, I n s → wpAny (model prog w) A (pyNext it) (fun r s₁ => match r with
      | none => R (.ok .next) s₁
      | some v => wpAny (model prog w) A (letOwnedTupleGo tb it v) (fun _ sb => wpAny (model prog w) A (assign tb env v) (fun _ s₂ =>
          wpAny (model prog w) A (forIn fb true fun c r => if r = true then do let ok ← isTrue c env (eval c env); pure (ForInStep.yield ok) else pure (ForInStep.yield r)) (fun ok s₃ =>
            if ok = true then wpAny (model prog w) A (eval kx env) (fun kk s₄ => wpAny (model prog w) A (eval vx env) (fun vv s₅ =>
              wpAny (model prog w) A (dictSet D kk vv) (fun _ s₆ => ∃ m, m < n ∧ I m s₆) (Nb prog w A env R) s₅) (Nb prog w A env R) s₄) (Nb prog w A env R) s₃
            else ∃ m, m < n ∧ I m s₃) (Nb prog w A env R) s₂) (Nb prog w A env R) sb) (Nb prog w A env R) s₁) (Nb prog w A env R) s)
    (n : Nat) (h : I n s) : codeAny (model prog w) A (.compLoop (DC2 kx vx ta ia tb ib fa fb scope pos) 1 it (.ref D) env) R s := by
  refine codeAny_loop rfl I (fun n s hI => ?_) n h
  show wpAny _ A ((compTurn (DC2 kx vx ta ia tb ib fa fb scope pos) 1 it (.ref D) env).onRaise (fun x => do noteFrame x env; theTreesLotGoes x)) _ _ s
  refine wpAny_noted ?_
  rw [turnD2_1]
  refine wpAny_bind (wpAny_standAt (wpAny_bind (wpAny_mono (turn n s hI) (fun r s₁ e1 => ?_) fun _ _ q => q)))
  cases r with
  | none => exact wpAny_pure e1
  | some v =>
    refine wpAny_bind (wpAny_mono e1 (fun _ sb e2 => ?_) fun _ _ q => q)
    refine wpAny_bind (wpAny_mono e2 (fun _ s₂ e3 => wpAny_bind (wpAny_mono e3 (fun ok s₃ e4 => ?_) fun _ _ q => q)) fun _ _ q => q)
    cases ok with
    | false => exact wpAny_pure ⟨rfl, e4⟩
    | true =>
      exact wpAny_bind (wpAny_bind (wpAny_mono e4 (fun kk s₄ e5 => wpAny_bind (wpAny_holding (wpAny_mono e5 (fun vv s₅ e6 => wpAny_bind (wpAny_standAt (wpAny_holding (wpAny_mono e6 (fun _ s₆ e7 => wpAny_pure ⟨rfl, e7⟩) fun _ _ q => q)))) fun _ _ q => q))) fun _ _ q => q))
theorem startD2_1 (h0 : codeAny (model prog w) A (.compLoop (DC2 kx vx ta ia tb ib fa fb scope pos) 1 it (.ref D) env) R s)
    (h : wpAny (model prog w) A (pyIter it) (fun it' s' => codeAny (model prog w) A (.compLoop (DC2 kx vx ta ia tb ib fa fb scope pos) 1 it' (.ref D) env) R s') (Nb prog w A env R) s) :
    codeAny (model prog w) A (.compStart (DC2 kx vx ta ia tb ib fa fb scope pos) 1 it (.ref D) env) R s := by
  refine codeAny_of_tree ?_
  show wpAny _ _ ((compStart (DC2 kx vx ta ia tb ib fa fb scope pos) 1 it (.ref D) env).onRaise (fun x => do noteFrame x env; standAt theWindowsPlace)) _ _ s
  refine wpAny_notedAt ?_
  unfold compStart
  show wpAny _ _ (ask >>= _) _ _ s
  refine wpAny_bind (wpAny_askSetting (wpAny_ite ?_))
  split
  · first
      | exact wpAny_bind (wpAny_pure (wpAny_pure (And.intro rfl h0)))
      | exact wpAny_pure (And.intro rfl h0)
  · first
      | exact wpAny_bind (wpAny_rule (wpAny_bind (wpAny_standAt (wpAny_bind (wpAny_mono h (fun _ _ z => wpAny_pure (And.intro rfl z)) fun _ _ x => x)))))
      | (refine wpAny_bind (wpAny_rule ?_); show wpAny _ _ (standAt ib.pos >>= _) _ _ s; exact wpAny_bind (wpAny_standAt (wpAny_bind (wpAny_mono h (fun _ _ z => wpAny_pure (And.intro rfl z)) fun _ _ x => x))))
end
section
variable {X : Cx}
/-- d[y] = z by a comprehension, the object of either kind; p: what follows -/
def putP (X : Cx) (t : Bool) (D : Addr) (y z : V) (H : Hp) (Q : Hp → Prop) : Prop := match t with
  | false => ∃ kvs k, y = kV k ∧ H D = some (.dK kvs) ∧ kvs.length < sizeLine ∧ Q (upd H D (.dK (putK kvs k z)))
  | true => ∃ P w es kvs d kn b, y = .ref b ∧ H D = some (.ext (XD P w D es)) ∧ NOk X.K H es kvs ∧ keyN d = some kn ∧ kn.depth ≤ 8 ∧ Dp X.K H y d ∧ es.length < sizeLine ∧ Q (upd H D (.ext (XD X.prog X.w D (putE es kn b z))))
def newO (X : Cx) (t : Bool) (D : Addr) : HO := match t with
  | false => .dK []
  | true => .ext (XD X.prog X.w D [])
theorem putP_run {t : Bool} {pins : List (Addr × Obj)} {σ : L2.St} {H : Hp} {s : Shared} {D : Addr} {y z : V} {u r : Value} {Q : Unit → Shared → Prop} {E : Value → Shared → Prop} {N : Hp → Prop} (hr : t = true → X.A.units + 9 < cLine) (I : Inv X pins σ H s) (ry : RelV y u) (rz : RelV z r) (h : putP X t D y z H N) (k : ∀ H' s', Inv X pins σ H' s' → N H' → Q () s') :
    wpAny (model X.prog X.w) X.A (dictSet D u r) Q E s := by
  cases t with
  | false =>
    obtain ⟨kvs, kk, rfl, hD, hl, n⟩ := h
    exact d_dictSet I hD hl ry rz fun s' I' => k _ s' I' n
  | true =>
    obtain ⟨P, w, es, kvs, d, kn, b, rfl, hD, h2, e0, e4, R2, hlen, n⟩ := h
    obtain ⟨_, hd, xs, rel, dd⟩ := xd_rd I (lkd_rd (lk := false) hD) h2
    obtain rfl : u = Value.ref b := ry
    have nk := nested_of I e0 R2 (show RelV (.ref b) (.ref b) from rfl)
    have hx : xs.length ≤ sizeLine := by rw [← Paired.len rel]; omega
    have hu := hr rfl
    refine wpAny_dictSet_heap (hsz := hx) (knd := nestedKind X.prog X.w) (show X.A.units + 8 < cLine by omega) ⟨nk, e4⟩ dd fun h' dd' hs => ?_
    have rel' := rel.put kn b rz
    have hl2 : (putE es kn b z).length ≤ sizeLine := by
      unfold putE
      split
      · rw [List.length_map]; omega
      · rw [List.length_append, List.length_cons, List.length_nil]; omega
    obtain ⟨o', ea, ep, q1, q2, q3, q4, q5, q6⟩ := dd'
    have new : ObjOk X.prog X.w (upd H D (.ext (XD X.prog X.w D (putE es kn b z)))) h' D (.ext (XD X.prog X.w D (putE es kn b z))) :=
      ⟨⟨hl2, hd, _, rel', o', ea, ep, q1, q2, q3, q4, q6⟩, ⟨o', q1⟩, fun g1 g2 ⟨y1, y2, y3, y4, y5, y6, y7, y8, y9⟩ kp => ⟨y1, y2, y3, y4, y5, y6, y7, kp _ y8, y9⟩⟩
    have I' := d_write (t' := s.toks + (nestedKind X.prog X.w).draws kn) I (by rw [hD]; exact True.intro) hs ⟨o', q1⟩ new
    exact k _ _ I' n
def tDc2 (X : Cx) (t : Bool) (wi : TI) (g : TG) (tt : TT) (wi1 : TI) (g1 : TG) (tt1 : TT) (tk tv : TE) (vs vs1 : List Nat) : TE := fun σ H Q => wi σ H fun J Hb => ∀ D, Hb D = none → ∃ W : Nat → Nat → Hp → Prop, (∃ m, W 0 m (upd Hb D (newO X t D))) ∧ ∀ i m H, W i m H →
  (J.stop i H ∧ Q (.ref D) H) ∨ (J.go i H ∧ ∃ Nx : Hp → Prop, (∀ Ha, Nx Ha → ∃ m2, m2 < m ∧ W (i + 1) m2 Ha) ∧ ∀ x Ha, J.yld i H x Ha → g x (wipe σ vs) Ha fun σb Hc => wipe σb vs = wipe σ vs ∧ tt σb Hc fun b Hd =>
    if b = true then wi1 σb Hd fun J1 He => ∃ V1 : Nat → Nat → Hp → Prop, (∃ m, V1 0 m He) ∧ ∀ j k H, V1 j k H →
      (J1.stop j H ∧ Nx H) ∨ (J1.go j H ∧ ∃ Ny : Hp → Prop, (∀ Ha, Ny Ha → ∃ k2, k2 < k ∧ V1 (j + 1) k2 Ha) ∧ ∀ x Ha, J1.yld j H x Ha → g1 x (wipe σb vs1) Ha fun σc Hf => wipe σc vs1 = wipe σb vs1 ∧ tt1 σc Hf fun b Hg =>
        if b = true then tk σc Hg fun y Hi => tv σc Hi fun z Hj => putP X t D y z Hj Ny else Ny Hg)
    else Nx Hd)
abbrev AnyCb (X : Cx) (scope : Scope) (F : Cx → Prop) : Prop := ∀ (s : Shared) (H : Hp) (C : Addr) (cl : List (Str × Addr)) (fp : List Addr), F (X.blk s H scope (compEnvC scope cl C X.env) fp)
theorem dc2_core {t : Bool} {pins : List (Addr × Obj)} {s : Shared} {σ : L2.St} {H : Hp} {Q : VK} {kx vx ta ia tb ib : Expr} {fa fb : List Expr} {scope : Scope} {own : List (Str × Nat)} {vs1 : List Nat} {pos pos' : Pos} {wi wi1 : TI} {g g1 : TG} {tt tt1 : TT} {tk tv : TE} {use : Option (Value → Sem Unit)} {Qf : Value → Shared → Prop}
    (hr : t = true → X.A.units + 9 < cLine) (hc : X.calm = true) (hN : X.N.Nodup) (I : Inv X pins σ H s) (hi : PI X ta ia wi) (ok : BlkOk X.N X.env.scope scope own) (hv : ∀ i ∈ vs1, i ∈ own.map (·.2))
    (hg : AnyCb X scope fun Z => PG Z ta g) (ht : AnyCb X scope fun Z => PTs Z fa tt) (hi1 : AnyCb X scope fun Z => PI Z tb ib wi1) (hg1 : AnyCb X scope fun Z => PG Z tb g1) (ht1 : AnyCb X scope fun Z => PTs Z fb tt1) (hk : AnyCb X scope fun Z => PE Z kx tk) (he : AnyCb X scope fun Z => PE Z vx tv)
    (hs : ∀ x, foldedSetIterable ia X.env x = pure x) (hs1 : ∀ env x, foldedSetIterable ib env x = pure x) (h : tDc2 X t wi g tt wi1 g1 tt1 tk tv (own.map (·.2)) vs1 σ H Q)
    (hRR : ∀ D C s' m Ha, Inv X pins σ Ha s' → Q (.ref D) Ha → s'.heap.Ns C m → FpOk X pins Ha C → compPost (model X.prog X.w) X.A X.xe use Qf (.ref D) C (.ok .next) s') :
    wpAny (model X.prog X.w) X.A (comprehension (DC2 kx vx ta ia tb ib fa fb scope pos) scope X.env pos' newDict false (eval ia X.env) use) Qf X.xe s := by
  have hfr : ∀ y ∈ scope.names, y.2 = .free → ∃ c, X.env.cells.lookup y.1 = some c := fun y hy e =>
    (ok.free y hy e).elim (fun z => I.ok.has _ (.inl z)) fun z => I.ok.has _ (.inr z)
  refine wpAny_comprehension_free (use := use) rfl hs (closure_ok hfr) ok.kind (fun y hy e => by rw [ok.uniq y hy, e])
    (thn (hi.run pins s σ H _ I h) fun xv s1 hx => thn hx fun itv s2 z2 => ?_)
  obtain ⟨it, fp, tn, J, H2, e, I2, T, st2, f2, q⟩ := z2
  subst e
  refine wpAny_newObj_type (newEnv_comp ?_)
  generalize hD : s2.heap.objs.size = D
  have hDn : H2 D = none := I2.hok.fresh (Nat.le_of_eq hD)
  obtain ⟨W, ⟨m0, w0⟩, turn⟩ := q D hDn
  generalize hs3 : ({ s2 with heap := s2.heap.push { cls := .type "dict", data := .dict #[] } } : Shared) = s3
  have I3 : Inv X pins σ (upd H2 D (newO X t D)) s3 := by
    rw [← hs3]
    refine I2.laid (t' := s2.toks) (fun _ _ e => Heap.get?_push_of_some _ e) (Nat.le_of_eq hD) ?_
    rw [← hD]
    cases t with
    | false => exact dk_empty s2.heap I2.big
    | true => exact xd_empty s2.heap I2.big
  have hp3 : s3.heap = s2.heap.push { cls := .type "dict", data := .dict #[] } := by rw [← hs3]
  have lt2 : ∀ b ∈ fp, b < s2.heap.objs.size := fun b hb => by
    obtain ⟨_, e, _⟩ := T.obj _ _ st2 b hb
    exact Heap.lt_size e
  have f3 : ∀ b ∈ fp, FpOk X pins (upd H2 D (newO X t D)) b ∧ b < s3.heap.objs.size := fun b hb => by
    have l := lt2 b hb
    refine ⟨⟨?_, (f2 b hb).2⟩, by rw [hp3, Heap.size_push]; exact Nat.lt_succ_of_lt l⟩
    rw [upd_ne (by rw [← hD]; exact Nat.ne_of_lt l)]
    exact (f2 b hb).1
  have st3 : tn 0 s3.heap := T.keep _ _ _ st2 fun b _ o e => by rw [hp3]; exact Heap.get?_push_of_some _ e
  have I4 := block_start I3 ok hN f3
  generalize hCl : cellsFrom (s3.heap.objs.size + 1) scope.names (cloFrom X.env.cells scope.names []) = cl at I4
  have pg := hg s3 (upd H2 D (newO X t D)) s3.heap.objs.size cl fp
  have pt := ht s3 (upd H2 D (newO X t D)) s3.heap.objs.size cl fp
  have pk := hk s3 (upd H2 D (newO X t D)) s3.heap.objs.size cl fp
  have pe := he s3 (upd H2 D (newO X t D)) s3.heap.objs.size cl fp
  have pib := hi1 s3 (upd H2 D (newO X t D)) s3.heap.objs.size cl fp
  have pgb := hg1 s3 (upd H2 D (newO X t D)) s3.heap.objs.size cl fp
  have ptb := ht1 s3 (upd H2 D (newO X t D)) s3.heap.objs.size cl fp
  show codeAny _ _ (.compStart (DC2 kx vx ta ia tb ib fa fb scope pos) 0 (.ref it) (.ref D) (compEnvC scope cl s3.heap.objs.size X.env)) (compPost (model X.prog X.w) X.A X.xe use Qf (.ref D) s3.heap.objs.size) { s3 with heap := pushCells (s3.heap.push { cls := .type "dict", data := .dict #[] }) scope.names }
  have nf3 : ∀ b ∈ fp, (upd H2 D (newO X t D)) b = none := fun b hb => (f3 b hb).1.1
  generalize hce : compEnvC scope cl s3.heap.objs.size X.env = ce at I4 pg pt pk pe pib pgb ptb ⊢
  have cL : ce.locals = s3.heap.objs.size := by subst hce; rfl
  generalize hH3 : upd H2 D (newO X t D) = H3 at I3 I4 pg pt pk pe pib pgb ptb w0 nf3 f3
  generalize hs4 : ({ s3 with heap := pushCells (s3.heap.push { cls := .type "dict", data := .dict #[] }) scope.names } : Shared) = s4 at I4 ⊢
  have st4 : tn 0 s4.heap := T.keep _ _ _ st3 fun b _ o e => by rw [← hs4]; exact pushCells_keeps _ _ _ _ (Heap.get?_push_of_some _ e)
  generalize hZ : X.blk s3 H3 scope ce fp = Z at I4 pg pt pk pe pib pgb ptb
  have zp : Z.prog = X.prog ∧ Z.w = X.w ∧ Z.A = X.A ∧ Z.K = X.K ∧ Z.env = ce := by subst hZ; exact ⟨rfl, rfl, rfl, rfl, rfl⟩
  have stat : ∀ {τ : L2.St} {Ha : Hp} {sa : Shared}, Inv Z [] τ Ha sa → (∀ b ∈ fp, Ha b = none) → ∀ b ∈ fp, FpOk Z [] Ha b := fun {τ Ha sa} I' hn b hb => by
    subst hZ
    exact ⟨hn b hb, (I'.ok.exf b hb).1, I'.ok.exfs b hb, .inl hb, fun x c e => (I'.ok.exf b hb).2 x c e, fun p hp => absurd (show p ∈ ([] : List (Addr × Obj)) ++ [] from hp) (by simp)⟩
  have loop : codeAny (model X.prog X.w) X.A (.compLoop (DC2 kx vx ta ia tb ib fa fb scope pos) 0 (.ref it) (.ref D) ce) (compPost (model X.prog X.w) X.A X.xe use Qf (.ref D) s3.heap.objs.size) s4 := by
    refine loopD2_0 (hs1 ce) (fun n sa => ∃ i Ha, Inv Z [] (wipe σ (own.map (·.2))) Ha sa ∧ tn i sa.heap ∧ (∀ b ∈ fp, Ha b = none) ∧ W i n Ha) ?_ m0 ⟨0, H3, I4, st4, nf3, w0⟩
    rintro n s5 ⟨i, H5, I5, st5, n5, w5⟩
    subst hZ
    rcases turn i n H5 w5 with ⟨stop, qq⟩ | ⟨go, Nx, hNx, step⟩
    · refine thnF (T.done (X.blk s3 H3 scope ce fp) rfl rfl rfl hc i [] s5 _ H5 (fun _ _ => False) I5 (stat I5 n5) st5 stop) fun r s6 ⟨hr0, I6⟩ => ?_
      subst hr0
      have I7 : Inv X pins σ H5 s6 := I3.call' (ch := fp) I6.os I6.base I6.hok I6.bare fun b hb => ⟨(f3 b hb).1.2.2.2.1, (f3 b hb).1.2.1, (f3 b hb).1.2.2.2.2.1, (f3 b hb).1.2.2.2.2.2⟩
      have nC : H5 s3.heap.objs.size = none := by
        have z : H5 ce.locals = none := I6.free
        rwa [cL] at z
      obtain ⟨m, hn, _⟩ := I6.loc
      have hn : s6.heap.Ns ce.locals m := hn
      rw [cL] at hn
      exact hRR D _ s6 m H5 I7 qq hn (I3.fpOk (Nat.le_refl _) nC)
    · refine thnF (T.item (X.blk s3 H3 scope ce fp) rfl rfl rfl hc i [] s5 _ H5 (fun _ _ => False) I5 (stat I5 n5) st5 go) fun r s6 ⟨u, hr0, z6⟩ => ?_
      subst hr0
      refine thnF z6 fun _ s7 ⟨x, H7, I7, r7, y7, st7, n7⟩ => ?_
      refine thnF (pg.run _ s7 _ H7 x u _ (I7.pinned (stat I7 n7) (T.obj _ _ st7)) r7 (step x H7 y7)) fun _ s8 ⟨σ8, H8, I8, hw8, q8⟩ => ?_
      refine thnF (pt.run _ s8 σ8 H8 _ I8 q8) fun b s9 ⟨H9, I9, q9⟩ => ?_
      have fin : ∀ {τ : L2.St} {sa : Shared} {Ha : Hp}, Inv (X.blk s3 H3 scope ce fp) ([] ++ pinsAt fp s7.heap) τ Ha sa → (wipe σ (own.map (·.2))).length = τ.length → (∀ (j : Nat) v, (wipe σ (own.map (·.2)))[j]? = some (some v) → τ[j]? = some (some v)) → Nx Ha →
          ∃ m, m < n ∧ ∃ i Ha, Inv (X.blk s3 H3 scope ce fp) [] (wipe σ (own.map (·.2))) Ha sa ∧ tn i sa.heap ∧ (∀ b ∈ fp, Ha b = none) ∧ W i m Ha := fun {τ sa Ha} I' hl hk nx => by
        obtain ⟨m2, hm, w2⟩ := hNx Ha nx
        have pn : ∀ b ∈ fp, ∀ o, s7.heap.get? b = some o → sa.heap.get? b = some o ∧ Ha b = none := fun b hb o e =>
          let z := I'.pin (b, o) (List.mem_append_right _ (List.mem_append_right _ (mem_pinsAt hb e)))
          ⟨z.1, z.2.1⟩
        refine ⟨m2, hm, i + 1, Ha, (I'.unpinned (pins := [])).weak hl hk, T.keep _ _ _ st7 fun b hb o e => (pn b hb o e).1, fun b hb => ?_, w2⟩
        obtain ⟨o, e, _⟩ := T.obj _ _ st7 b hb
        exact (pn b hb o e).2
      have hl8 : (wipe σ (own.map (·.2))).length = σ8.length := by rw [← hw8, wipe_length]
      have hk8 : ∀ (j : Nat) v, (wipe σ (own.map (·.2)))[j]? = some (some v) → σ8[j]? = some (some v) := fun j v e => (wipe_some (hw8 ▸ e)).1
      have hk9 : ∀ (j : Nat) v, (wipe σ (own.map (·.2)))[j]? = some (some v) → (wipe σ8 vs1)[j]? = some (some v) := fun j v e => by
        obtain ⟨e1, e2⟩ := wipe_some (hw8 ▸ e)
        rw [L2.wipe_out fun z => e2 (hv j z)]
        exact e1
      cases b with
      | false =>
        simp only [Bool.false_eq_true, if_false] at q9 ⊢
        exact fin I9 hl8 hk8 q9
      | true =>
        simp only [if_true] at q9 ⊢
        refine thnF (pib.run _ s9 σ8 H9 _ I9 q9) fun xv s10 hx => thnF hx fun itv s11 z11 => ?_
        obtain ⟨itb, fpb, tb1, J1, H11, e1, I11, T1, st11, f11, V1, ⟨m1, v1⟩, turn1⟩ := z11
        subst e1
        have stat1 : ∀ {Ha : Hp}, (∀ b ∈ fpb, Ha b = none) → ∀ b ∈ fpb, FpOk (X.blk s3 H3 scope ce fp) ([] ++ pinsAt fp s7.heap) Ha b := fun hn b hb => ⟨hn b hb, (f11 b hb).2⟩
        have inner : codeAny (model X.prog X.w) X.A (.compLoop (DC2 kx vx ta ia tb ib fa fb scope pos) 1 (.ref itb) (.ref D) ce)
            (fun r sa => match r with
              | .ok _ => ∃ m, m < n ∧ ∃ i Ha, Inv (X.blk s3 H3 scope ce fp) [] (wipe σ (own.map (·.2))) Ha sa ∧ tn i sa.heap ∧ (∀ b ∈ fp, Ha b = none) ∧ W i m Ha
              | .error _ => False) s11 := by
          refine loopD2_1 (fun k sa => ∃ j Ha, Inv (X.blk s3 H3 scope ce fp) ([] ++ pinsAt fp s7.heap) (wipe σ8 vs1) Ha sa ∧ tb1 j sa.heap ∧ (∀ b ∈ fpb, Ha b = none) ∧ V1 j k Ha) ?_ m1 ⟨0, H11, I11.weak (wipe_length _ _) (fun _ _ e => (wipe_some e).1), st11, fun b hb => (f11 b hb).1, v1⟩
          rintro k s12 ⟨j, H12, I12, st12, n12, v12⟩
          rcases turn1 j k H12 v12 with ⟨stop1, nx1⟩ | ⟨go1, Ny, hNy, step1⟩
          · refine thnF (T1.done (X.blk s3 H3 scope ce fp) rfl rfl rfl hc j _ s12 (wipe σ8 vs1) H12 (fun _ _ => False) I12 (stat1 n12) st12 stop1) fun r s13 ⟨hr0, I13⟩ => ?_
            subst hr0
            exact fin I13 (hl8.trans (wipe_length σ8 vs1).symm) hk9 nx1
          · refine thnF (T1.item (X.blk s3 H3 scope ce fp) rfl rfl rfl hc j _ s12 (wipe σ8 vs1) H12 (fun _ _ => False) I12 (stat1 n12) st12 go1) fun r s13 ⟨u1, hr0, z13⟩ => ?_
            subst hr0
            refine thnF z13 fun _ s14 ⟨x1, H14, I14, r14, y14, st14, n14⟩ => ?_
            refine thnF (pgb.run _ s14 (wipe σ8 vs1) H14 x1 u1 _ (I14.pinned (stat1 n14) (T1.obj _ _ st14)) r14 (step1 x1 H14 y14)) fun _ s15 ⟨σ15, H15, I15, hw15, q15⟩ => ?_
            refine thnF (ptb.run _ s15 σ15 H15 _ I15 q15) fun b1 s16 ⟨H16, I16, q16⟩ => ?_
            have fin1 : ∀ {sa : Shared} {Ha : Hp}, Inv (X.blk s3 H3 scope ce fp) (([] ++ pinsAt fp s7.heap) ++ pinsAt fpb s14.heap) σ15 Ha sa → Ny Ha → ∃ m, m < k ∧ ∃ j Ha, Inv (X.blk s3 H3 scope ce fp) ([] ++ pinsAt fp s7.heap) (wipe σ8 vs1) Ha sa ∧ tb1 j sa.heap ∧ (∀ b ∈ fpb, Ha b = none) ∧ V1 j m Ha := fun {sa Ha} I' nx => by
              obtain ⟨m2, hm, w2⟩ := hNy Ha nx
              have pn : ∀ b ∈ fpb, ∀ o, s14.heap.get? b = some o → sa.heap.get? b = some o ∧ Ha b = none := fun b hb o e =>
                let z := I'.pin (b, o) (List.mem_append_right _ (List.mem_append_right _ (mem_pinsAt hb e)))
                ⟨z.1, z.2.1⟩
              refine ⟨m2, hm, j + 1, Ha, I'.unpinned.weak (by rw [← hw15, wipe_length]) (fun _ _ e => (wipe_some (hw15 ▸ e)).1), T1.keep _ _ _ st14 fun b hb o e => (pn b hb o e).1, fun b hb => ?_, w2⟩
              obtain ⟨o, e, _⟩ := T1.obj _ _ st14 b hb
              exact (pn b hb o e).2
            cases b1 with
            | false =>
              simp only [Bool.false_eq_true, if_false] at q16 ⊢
              exact fin1 I16 q16
            | true =>
              simp only [if_true] at q16 ⊢
              refine thnF (pk.run _ s16 σ15 H16 _ I16 q16) fun yk s17 ⟨y, H17, I17, r17, q17⟩ => ?_
              refine thnF (pe.run _ s17 σ15 H17 _ I17 q17) fun yv s18 ⟨z, H18, I18, r18, q18⟩ => ?_
              exact putP_run (X := X.blk s3 H3 scope ce fp) hr I18 r17 r18 q18 fun Ha sa I19 nx => fin1 I19 nx
        exact startD2_1 inner (T1.self X.A 0 _ _ _ st11 inner)
  exact codeAny_compStart_dict loop (T.self X.A 0 _ _ _ st4 loop)
theorem pe_dc2 {t : Bool} {kx vx ta ia tb ib : Expr} {fa fb : List Expr} {scope : Scope} {own : List (Str × Nat)} {vs1 : List Nat} {pos : Pos} {wi wi1 : TI} {g g1 : TG} {tt tt1 : TT} {tk tv : TE}
    (hr : t = true → X.A.units + 9 < cLine) (hc : X.calm = true) (hN : X.N.Nodup) (hi : PI X ta ia wi) (ok : BlkOk X.N X.env.scope scope own) (hv : ∀ i ∈ vs1, i ∈ own.map (·.2))
    (hg : AnyCb X scope fun Z => PG Z ta g) (ht : AnyCb X scope fun Z => PTs Z fa tt) (hi1 : AnyCb X scope fun Z => PI Z tb ib wi1) (hg1 : AnyCb X scope fun Z => PG Z tb g1) (ht1 : AnyCb X scope fun Z => PTs Z fb tt1) (hk : AnyCb X scope fun Z => PE Z kx tk) (he : AnyCb X scope fun Z => PE Z vx tv)
    (hs : ∀ x, foldedSetIterable ia X.env x = pure x) (hs1 : ∀ env x, foldedSetIterable ib env x = pure x) : PE X (DC2 kx vx ta ia tb ib fa fb scope pos) (tDc2 X t wi g tt wi1 g1 tt1 tk tv (own.map (·.2)) vs1) := by
  refine ⟨fun pins s σ H Q I h => ?_⟩
  rw [arm_eval_DictComp]
  refine dc2_core hr hc hN I hi ok hv hg ht hi1 hg1 ht1 hk he hs hs1 h fun D C s' m Ha I' q hn f => ⟨m, hn, fun hb sb => ?_⟩
  obtain ⟨a0, a1, a2, a3, a4, a5⟩ := f
  exact ⟨.ref D, Ha, I'.turned (t' := s'.toks) (fun b o hb e => (sb.2 b hb).trans e) a0 a1 a3 a4 a5, rfl, q⟩
end
end Ev

set_option Elab.async false
set_option linter.all false
set_option maxRecDepth 100000
/-! Comprehensions of two clauses: dicts, by evaluators; t.index(x). -/
namespace Ev
open PySem PySem.Spec PyProof.Rows L2
def dputT (t : Bool) (k0 : Nat) (a b : R) (m : M) : Option M := match a, b with
  | .val d, .val v => match m[k0]? with
    | some (.dct t2 false kvs) => if t2 = t ∧ keyOk t d = true ∧ kvs.length < sizeLine then some (m.set k0 (.dct t false (putD t kvs d v))) else none
    | _ => none
  | _, _ => none
theorem dputT_some {t : Bool} {k0 : Nat} {a b : R} {m m' : M} (h : dputT t k0 a b m = some m') : ∃ d v kvs, a = .val d ∧ b = .val v ∧ m[k0]? = some (.dct t false kvs) ∧ keyOk t d = true ∧ kvs.length < sizeLine ∧ m' = m.set k0 (.dct t false (putD t kvs d v)) := by
  unfold dputT at h
  split at h
  · rename_i d v
    split at h
    · rename_i t2 kvs hm
      split at h
      · rename_i hc
        obtain ⟨h1, h2, h3⟩ := hc
        subst h1
        cases h
        exact ⟨d, v, kvs, rfl, rfl, hm, h2, h3, rfl⟩
      · cases h
    · cases h
  · cases h
def dcl1 (t : Bool) (src : Src) (p : Pat) (tt : TF) (tk tv : EF) (env : Sl) (k0 : Nat) : Nat → Nat → M → Option M
  | 0, i, m => (src i m).bind fun o => match o with
    | none => some m
    | some _ => none
  | n + 1, i, m => (src i m).bind fun o => match o with
    | none => some m
    | some d => (bindP p d env).bind fun e => (tt e m).bind fun c => if c.1 = true then (tk e c.2).bind fun y => (tv e y.2).bind fun z => (dputT t k0 y.1 z.1 z.2).bind fun m' => dcl1 t src p tt tk tv env k0 n (i + 1) m' else dcl1 t src p tt tk tv env k0 n (i + 1) c.2
def dcl2 (t : Bool) (src : Src) (p : Pat) (tt : TF) (it1 : IF) (p1 : Pat) (vs1 : List Nat) (tt1 : TF) (tk tv : EF) (env : Sl) (k0 : Nat) : Nat → Nat → M → Option M
  | 0, i, m => (src i m).bind fun o => match o with
    | none => some m
    | some _ => none
  | n + 1, i, m => (src i m).bind fun o => match o with
    | none => some m
    | some d => (bindP p d env).bind fun e => (tt e m).bind fun c => if c.1 = true then (it1 e c.2).bind fun x => (dcl1 t x.1.1 p1 tt1 tk tv (wipeE e vs1) k0 x.1.2 0 x.2).bind fun m' => dcl2 t src p tt it1 p1 vs1 tt1 tk tv env k0 n (i + 1) m' else dcl2 t src p tt it1 p1 vs1 tt1 tk tv env k0 n (i + 1) c.2
def eDc2 (t : Bool) (it : IF) (p : Pat) (vs : List Nat) (tt : TF) (it1 : IF) (p1 : Pat) (vs1 : List Nat) (tt1 : TF) (tk tv : EF) : EF := fun env m => (it env m).bind fun x => (dcl2 t x.1.1 p tt it1 p1 vs1 tt1 tk tv (wipeE env vs) x.2.length x.1.2 0 (x.2 ++ [.dct t false []])).bind fun m' => some (.ref x.2.length, m')
section
variable {X : Cx}
/-- one pair put, at the readings' level -/
theorem putT_imp {t : Bool} {φ : Ad} {H : Hp} {m m' : M} {k0 : Nat} {D : Addr} {y z : V} {a b : R} {N : Hp → Prop} (S : SR ζ X.K φ H m) (hD : φ.s[k0]? = some D) (Ra : RR X.K φ H y a) (Rb : RR X.K φ H z b) (h : dputT t k0 a b m = some m')
    (k : ∀ H', Gr φ H φ H' → SR ζ X.K φ H' m' → N H') : putP X t D y z H N := by
  obtain ⟨d, v, kvs, rfl, rfl, hm, hk, hl, rfl⟩ := dputT_some h
  have hin : D ∈ φ.s := List.mem_of_getElem? hD
  have O := S.obj k0 _ D hm hD
  have nh := S.apart hin
  match t, O with
  | false, ⟨ks, h1, h2⟩ =>
    have h1' : H D = some (.dK ks) := h1
    obtain ⟨kk0, e0⟩ := Option.isSome_iff_exists.mp (show (keyK d).isSome = true from hk)
    exact ⟨ks, kk0, keyK_V e0 Ra, h1', by rw [Paired.len h2]; exact hl, k _ (gr_write hin nh (nf_dK h1')) (S.writeO hD ⟨_, upd_same, h2.put e0 Rb⟩)⟩
  | true, ⟨P, w, es, h1, h2⟩ =>
    have h1' : H D = some (.ext (XD P w D es)) := h1
    obtain ⟨kn, e0, e4, e5⟩ := keyOk_N hk
    obtain ⟨b, rfl⟩ := key_ref Ra e5
    exact ⟨P, w, es, kvs, d, kn, b, rfl, h1', h2.off, e0, e4, dp_mono off_same Ra, by rw [Paired.len h2]; exact hl, k _ (gr_write hin nh (nf_ext h1')) (S.writeO hD ⟨_, _, _, upd_same, h2.put e0 e4 Ra Rb⟩)⟩
theorem dc2_imp {t : Bool} {it : IF} {p : Pat} {vs : List Nat} {tt : TF} {it1 : IF} {p1 : Pat} {vs1 : List Nat} {tt1 : TF} {tk tv : EF} {σ : L2.St} {H : Hp} {Q : VK} (hw : p.within vs = true) (hw1 : p1.within vs1 = true) (q : tE ζ X.K (eDc2 t it p vs tt it1 p1 vs1 tt1 tk tv) σ H Q) :
    tDc2 X t (tI ζ X.K it) (gPat ζ X.K p) (tT ζ X.K tt) (tI ζ X.K it1) (gPat ζ X.K p1) (tT ζ X.K tt1) (tE ζ X.K tk) (tE ζ X.K tv) vs vs1 σ H Q := by
  obtain ⟨φ, env, m, r, m', S, E, hf, k⟩ := q
  obtain ⟨⟨⟨src, n⟩, m1⟩, h1, hf⟩ := bind_some_iff hf
  obtain ⟨m9', hf1, hf2⟩ := bind_some_iff hf
  cases hf2
  simp only at hf1
  refine ⟨φ, env, m, src, n, m1, S, E, h1, fun φ1 H1 J g1 S1 JJ => fun P hP => ?_⟩
  have E1 := E.mono g1
  have gP : Gr φ1 H1 (φ1.add P) (upd H1 P (newO X t P)) := gr_enter hP
  have SP : SR ζ X.K (φ1.add P) (upd H1 P (newO X t P)) (m1 ++ [.dct t false []]) := by
    cases t with
    | false => exact S1.enterO hP ⟨[], upd_same, .nil⟩
    | true => exact S1.enterO hP ⟨_, _, [], upd_same, .nil⟩
  have aP : (φ1.add P).s[m1.length]? = some P := by
    show (φ1.s ++ [P])[m1.length]? = some P
    rw [← S1.len, List.getElem?_append_right (Nat.le_refl _), Nat.sub_self]
    rfl
  generalize hHP : upd H1 P (newO X t P) = HP at gP SP ⊢
  refine ⟨fun i nn H => ∃ φ2 m2, Gr (φ1.add P) HP φ2 H ∧ SR ζ X.K φ2 H m2 ∧ dcl2 t src p tt it1 p1 vs1 tt1 tk tv (wipeE env vs) m1.length nn i m2 = some m', ⟨n, φ1.add P, _, .refl, SP, hf1⟩, ?_⟩
  intro i nn H2 ⟨φ2, m2, g2, S2, hc2⟩
  have gw : Gw φ1 H1 φ2 H2 := (gP.trans g2).w
  have cas : ∃ o, src i m2 = some o := by
    cases nn <;> (obtain ⟨o, ho, _⟩ := bind_some_iff hc2; exact ⟨o, ho⟩)
  obtain ⟨o, ho⟩ := cas
  cases o with
  | none =>
    have e : m2 = m' := by
      cases nn <;> (simp only [dcl2, ho, Option.bind_some] at hc2; cases hc2; rfl)
    subst e
    exact .inl ⟨JJ.stop _ _ m2 i gw S2 ho, k φ2 H2 (.ref P) (g1.trans (gP.trans g2)) S2 ⟨P, rfl, prefix_get g2.pre aP⟩⟩
  | some d =>
    cases nn with
    | zero => simp [dcl2, ho] at hc2
    | succ nn =>
      refine .inr ⟨JJ.go _ _ m2 i d gw S2 ho, fun H' => ∃ φ2 m2, Gr (φ1.add P) HP φ2 H' ∧ SR ζ X.K φ2 H' m2 ∧ dcl2 t src p tt it1 p1 vs1 tt1 tk tv (wipeE env vs) m1.length nn (i + 1) m2 = some m', fun H' z => ⟨nn, Nat.lt_succ_self nn, z⟩, fun x H3 hy => ?_⟩
      obtain ⟨g3, S3, R3⟩ := JJ.yld _ _ m2 i d x H3 gw S2 ho hy
      simp only [dcl2, ho, Option.bind_some] at hc2
      obtain ⟨e4, h4, hc2⟩ := bind_some_iff hc2
      obtain ⟨⟨b, m5⟩, h5, hc2⟩ := bind_some_iff hc2
      have E3 : ER X.K φ2 H3 (wipe σ vs) (wipeE env vs) := (er_wipe (E1.monoW gw) vs).mono g3
      obtain ⟨σ4, q4, E4, w4⟩ := bindP_ok p E3 R3 h4 hw
      refine q4 _ ⟨w4.trans (wipe_idem σ vs), ?_⟩
      refine ⟨φ2, e4, m2, b, m5, S3, E4, h5, fun φ5 H5 g5 S5 => ?_⟩
      have g35 := g2.trans (g3.trans g5)
      cases b with
      | false =>
        refine iteF ?_
        simp only [Bool.false_eq_true, if_false] at hc2
        exact ⟨φ5, m5, g35, S5, hc2⟩
      | true =>
        refine iteT ?_
        simp only [if_true] at hc2
        obtain ⟨⟨⟨src1, n1⟩, m6⟩, h6, hc2⟩ := bind_some_iff hc2
        obtain ⟨m7, h7, hc2⟩ := bind_some_iff hc2
        refine ⟨φ5, e4, m5, src1, n1, m6, S5, E4.mono g5, h6, fun φ6 H6 J1 g6 S6 JJ1 => ?_⟩
        have E6 : ER X.K φ6 H6 σ4 e4 := E4.mono (g5.trans g6)
        refine ⟨fun j kk H => ∃ φ7 m7', Gr φ6 H6 φ7 H ∧ SR ζ X.K φ7 H m7' ∧ dcl1 t src1 p1 tt1 tk tv (wipeE e4 vs1) m1.length kk j m7' = some m7, ⟨n1, φ6, m6, .refl, S6, h7⟩, ?_⟩
        intro j k7 H7 ⟨φ7, m70, g7, S7, hc7⟩
        have cas : ∃ o, src1 j m70 = some o := by
          cases k7 <;> (obtain ⟨o, ho, _⟩ := bind_some_iff hc7; exact ⟨o, ho⟩)
        obtain ⟨o7, ho7⟩ := cas
        cases o7 with
        | none =>
          have e : m70 = m7 := by
            cases k7 <;> (simp only [dcl1, ho7, Option.bind_some] at hc7; cases hc7; rfl)
          subst e
          exact .inl ⟨JJ1.stop _ _ m70 j g7.w S7 ho7, φ7, m70, g35.trans (g6.trans g7), S7, hc2⟩
        | some d7 =>
          cases k7 with
          | zero => simp [dcl1, ho7] at hc7
          | succ k7 =>
            refine .inr ⟨JJ1.go _ _ m70 j d7 g7.w S7 ho7, fun H' => ∃ φ7 m7', Gr φ6 H6 φ7 H' ∧ SR ζ X.K φ7 H' m7' ∧ dcl1 t src1 p1 tt1 tk tv (wipeE e4 vs1) m1.length k7 (j + 1) m7' = some m7, fun H' z => ⟨k7, Nat.lt_succ_self k7, z⟩, fun x8 H8 hy8 => ?_⟩
            obtain ⟨g8, S8, R8⟩ := JJ1.yld _ _ m70 j d7 x8 H8 g7.w S7 ho7 hy8
            simp only [dcl1, ho7, Option.bind_some] at hc7
            obtain ⟨e9, h9, hc7⟩ := bind_some_iff hc7
            obtain ⟨⟨b9, m10⟩, h10, hc7⟩ := bind_some_iff hc7
            have E8 : ER X.K φ7 H8 (wipe σ4 vs1) (wipeE e4 vs1) := (er_wipe (E6.mono g7) vs1).mono g8
            obtain ⟨σ9, q9, E9, w9⟩ := bindP_ok p1 E8 R8 h9 hw1
            refine q9 _ ⟨w9.trans (wipe_idem σ4 vs1), ?_⟩
            refine ⟨φ7, e9, m70, b9, m10, S8, E9, h10, fun φ10 H10 g10 S10 => ?_⟩
            have g610 := g7.trans (g8.trans g10)
            cases b9 with
            | false =>
              refine iteF ?_
              simp only [Bool.false_eq_true, if_false] at hc7
              exact ⟨φ10, m10, g610, S10, hc7⟩
            | true =>
              refine iteT ?_
              simp only [if_true] at hc7
              obtain ⟨⟨y, m11⟩, h11, hc7⟩ := bind_some_iff hc7
              obtain ⟨⟨z, m12⟩, h12, hc7⟩ := bind_some_iff hc7
              obtain ⟨m13, h13, hc7⟩ := bind_some_iff hc7
              refine ⟨φ10, e9, m10, _, m11, S10, E9.mono g10, h11, fun φ11 H11 v11 g11 S11 R11 => ?_⟩
              refine ⟨φ11, e9, m11, _, m12, S11, E9.mono (g10.trans g11), h12, fun φ12 H12 v12 g12 S12 R12 => ?_⟩
              have g612 := g610.trans (g11.trans g12)
              have aD := prefix_get (g35.trans (g6.trans g612)).pre aP
              exact putT_imp S12 aD (R11.mono g12) R12 h13 fun H13 g13 S13 => ⟨φ12, m13, g612.trans g13, S13, hc7⟩
theorem x_dc2 {t : Bool} {kx vx tg iter tg1 iter1 : Expr} {ifs ifs1 : List Expr} {scope : Scope} {own own1 : List (Str × Nat)} {pos : Pos} {it it1 : IF} {p p1 : Pat} {tt tt1 : TF} {tk tv : EF} (hr : t = true → X.A.units + 9 < cLine) (hc : X.calm = true) (hN : X.N.Nodup) (hi : PI X tg iter (tI ζ X.K it)) (ok : BlkOk X.N X.env.scope scope own) (hw : p.within (own.map (·.2)) = true) (hw1 : p1.within (own1.map (·.2)) = true) (hv : ∀ i ∈ own1.map (·.2), i ∈ own.map (·.2))
    (hg : ∀ s H C cl fp, PG (Cb X scope s H C cl fp) tg (gPat ζ X.K p)) (ht : ∀ s H C cl fp, PTs (Cb X scope s H C cl fp) ifs (tT ζ X.K tt)) (hi1 : ∀ s H C cl fp, PI (Cb X scope s H C cl fp) tg1 iter1 (tI ζ X.K it1)) (hg1 : ∀ s H C cl fp, PG (Cb X scope s H C cl fp) tg1 (gPat ζ X.K p1)) (ht1 : ∀ s H C cl fp, PTs (Cb X scope s H C cl fp) ifs1 (tT ζ X.K tt1)) (hk : ∀ s H C cl fp, PE (Cb X scope s H C cl fp) kx (tE ζ X.K tk)) (he : ∀ s H C cl fp, PE (Cb X scope s H C cl fp) vx (tE ζ X.K tv))
    (hs : ∀ x, foldedSetIterable iter X.env x = pure x := by intro _; rfl) (hs1 : ∀ env x, foldedSetIterable iter1 env x = pure x := by intro _ _; rfl) :
    PE X (.DictComp kx vx [⟨tg, iter, ifs, 0⟩, ⟨tg1, iter1, ifs1, 0⟩] scope pos) (tE ζ X.K (eDc2 t it p (own.map (·.2)) tt it1 p1 (own1.map (·.2)) tt1 tk tv)) := pe_imp (pe_dc2 hr hc hN hi ok hv hg ht hi1 hg1 ht1 hk he hs hs1) fun _ _ _ q => dc2_imp hw hw1 q
end
end Ev

set_option Elab.async false
set_option linter.all false
set_option maxRecDepth 100000
/-! methods of values whose type is known by a premise of its own; t.index(x) of a tuple of whole numbers. -/
namespace Ev
open PySem PySem.Spec PyProof.Rows L2
/-- P tells that a value has the type T and no namespace of its own -/
def TyP (X : Cx) (T : String) (P : V → Hp → Prop) : Prop := ∀ (pins : List (Addr × Obj)) (σ : L2.St) (H : Hp) (s : Shared) (x : V) (v : Value), Inv X pins σ H s → RelV x v → P x H → s.TypeIs v T ∧ ∀ a, v = .ref a → ∃ ob, s.heap.get? a = some ob ∧ ob.dict = none
def tBMG (P : V → Hp → Prop) (r : V → List V → Hp → VK → Prop) (to : TE) (t : TA) : TE := fun σ H Q => to σ H fun x Ha => P x Ha ∧ t σ Ha fun xs Hb => r x xs Hb Q
section
variable {X : Cx} {o e : Expr} {es : List Expr} {to : TE} {t : TA} {name : Str} {apos cpos : Pos} {T id : String} {r : V → List V → Hp → VK → Prop} {P : V → Hp → Prop}
theorem pe_bmG0 (hP : TyP X T P) (pa : PlainAttrs T) (slot : Slot T name id) (hty : typeOf (.builtin id) = pure (.type "method_descriptor")) (hm : MtR X id r) (ho : PE X o to)
    (hb : attributeBase o name X.env (eval o X.env) = eval o X.env := by rfl) (hl : (apos.endLine == cpos.line) = true := by rfl) : PE X (.Call (.Attribute o name apos) [] [] cpos) (tBMG P r to fun _ H q => q [] H) := ⟨fun pins s σ H Q I h =>
  wpAny_Call_method0_late hb hl (thn (ho.run pins s σ H _ I h) fun v s1 ⟨x, Ha, I1, r1, ty, q1⟩ => by
    obtain ⟨t1, t2⟩ := hP _ _ _ _ _ _ I1 r1 ty
    exact ⟨T, id, pa, slot, hty, t1, t2, Calls.callWith_builtin rfl (PySem.evalArgs_none (hm pins s1 σ Ha x [] v [] Q I1 r1 .nil q1))⟩)⟩
theorem pe_bmG (hP : TyP X T P) (pa : PlainAttrs T) (slot : Slot T name id) (hty : typeOf (.builtin id) = pure (.type "method_descriptor")) (hm : MtR X id r) (ho : PE X o to) (ha : PA X (e :: es) t)
    (hb : attributeBase o name X.env (eval o X.env) = eval o X.env := by rfl)
    (hfew : ((backTo cpos (starEach (e :: es) X.env)).all (fun x => !x.1) && (backToKw cpos (keywordEach [] X.env)).all (fun x => x.1.isSome) && decide ((e :: es).length + ([] : List Keyword).length + (if ([] : List Keyword).isEmpty then 0 else 1) < 30)) = true := by rfl)
    (hl : (apos.endLine == cpos.line) = true := by rfl) (hs : starEach (e :: es) X.env = (false, eval e X.env) :: starEach es X.env := by rfl) (hpl : (backTo cpos (starEach es X.env)).any (·.1) = false := by rfl) :
    PE X (.Call (.Attribute o name apos) (e :: es) [] cpos) (tBMG P r to t) := ⟨fun pins s σ H Q I h =>
  wpAny_Call_method_late hb hfew hl rfl (thn (ho.run pins s σ H _ I h) fun v s1 ⟨x, Ha, I1, r1, ty, q1⟩ => by
    obtain ⟨t1, t2⟩ := hP _ _ _ _ _ _ I1 r1 ty
    refine ⟨T, id, pa, slot, hty, t1, t2, ?_⟩
    have hA := ha.run cpos pins s1 σ Ha _ I1 q1
    rw [hs] at hA ⊢
    refine Calls.callWith_builtin (by show (false || (backTo cpos (starEach es X.env)).any (·.1)) = false; rw [hpl] <;> rfl) (Calls.evalArgs_plain ?_)
    exact thn hA fun us s2 ⟨vs, Hb, I2, r2, q2⟩ => hm pins s2 σ Hb x vs v us Q I2 r1 r2 q2)⟩
end
/-! tuples -/
def tyT (K : PySem.W.Frag) (x : V) (H : Hp) : Prop := ∃ a o, x = .ref a ∧ o.dict = none ∧ ((∃ xs, H a = some (.frz o (.tup xs))) ∨ (K.lookup a = some o ∧ o.cls = .type "tuple"))
theorem tyT_ok {X : Cx} : TyP X "tuple" (tyT X.K) := fun pins σ H s x v I r ⟨a, o, e, hd, h⟩ => by
  subst e
  cases r
  rcases h with ⟨xs, h⟩ | ⟨h, hc⟩
  · obtain ⟨e1, z, its, r1, ⟨o2, e2, hc, _⟩⟩ := I.hok a _ h
    rw [e1] at e2
    cases e2
    exact ⟨⟨o, e1, hc⟩, fun b e => by cases e; exact ⟨o, e1, hd⟩⟩
  · have e1 := I.kIn a o h
    exact ⟨⟨o, e1, hc⟩, fun b e => by cases e; exact ⟨o, e1, hd⟩⟩
theorem tyT_of {K : PySem.W.Frag} {φ : Ad} {H : Hp} {m : M} {v : V} {ds : List D} (S : SR ζ K φ H m) (h : Dp K (off φ H) v (.tuple ds)) : tyT K v H := by
  cases h with
  | tup hs ha =>
    rename_i xs a
    rcases hs with (h | ⟨o, h⟩) | ⟨o, its, n, hk, hc, _⟩
    · exact (S.pl _ _ (off_some.mp h).2.1).elim
    · have e := (off_some.mp h).2.1
      exact ⟨_, o, rfl, S.pl _ _ e, .inl ⟨_, e⟩⟩
    · exact ⟨_, o, rfl, S.kt _ _ hk hc, .inr ⟨hk, hc⟩⟩
def isIntD : D → Bool
  | .int _ => true
  | _ => false
def pIndexT : MF := fun r rs m => match r, rs with
  | .val (.tuple ds), [.val (.int i)] => if ds.all isIntD = true then (firstEq (.int i) ds).bind fun j => some (.val (.int j), m) else none
  | _, _ => none
theorem all_ints {K : PySem.W.Frag} {H : Hp} : ∀ {ds : List D} {vs : List V}, DpAll K H vs ds → ds.all isIntD = true → ∃ ns : List Int, vs = ns.map V.int ∧ ds = ns.map PyData.int
  | [], _, h, _ => by
    cases h
    exact ⟨[], rfl, rfl⟩
  | d :: ds, _, h, e => by
    rw [List.all_cons, Bool.and_eq_true] at e
    cases h with
    | cons a t =>
      obtain ⟨ns, e1, e2⟩ := all_ints t e.2
      cases a with
      | int i => exact ⟨i :: ns, by rw [e1]; rfl, by rw [e2]; rfl⟩
      | _ => exact absurd e.1 Bool.false_ne_true
/-- a method of a tuple -/
def eBMT (p : MF) (f : EF) (fa : AF) : EF := fun env m => (f env m).bind fun x => match x.1 with
  | .val (.tuple ds) => (fa env x.2).bind fun y => p (.val (.tuple ds)) y.1 y.2
  | _ => none
theorem flat_ints (ns : List Int) : (ns.map V.int).all flatV = true := by
  rw [List.all_map]
  exact List.all_eq_true.mpr fun _ _ => rfl
section
variable {X : Cx} {o e : Expr} {es : List Expr} {name : Str} {id : String} {apos cpos : Pos} {f : EF} {fa : AF} {p : MF}
theorem bmT_imp {σ : L2.St} {H : Hp} {Q : VK} (q : tE ζ X.K (eBMT p f fa) σ H Q) : tBMG (tyT X.K) (rmP ζ X.K p) (tE ζ X.K f) (tA ζ X.K fa) σ H Q := by
  obtain ⟨φ, env, m, r, m', S, E, hf, k⟩ := q
  obtain ⟨⟨r1, m1⟩, h1, hf⟩ := bind_some_iff hf
  simp only at hf
  split at hf
  case h_2 => cases hf
  rename_i ds
  obtain ⟨⟨rs, m2⟩, h3, hf⟩ := bind_some_iff hf
  refine ⟨φ, env, m, _, m1, S, E, h1, fun φ1 H1 v1 g1 S1 R1 => ⟨tyT_of S1 R1, ?_⟩⟩
  refine ⟨φ1, env, m1, rs, m2, S1, E.mono g1, h3, fun φ2 H2 vs g2 S2 R2 => ?_⟩
  exact ⟨φ2, m2, .val (.tuple ds), rs, r, m', S2, RR.mono g2 (r := .val (.tuple ds)) R1, R2, hf, fun φ3 H3 v3 g3 S3 R3 => k φ3 H3 v3 (g1.trans (g2.trans g3)) S3 R3⟩
theorem x_bmT (slot : Slot "tuple" name id) (hty : typeOf (.builtin id) = pure (.type "method_descriptor")) (hm : MtR X id (rmP ζ X.K p)) (ho : PE X o (tE ζ X.K f)) (ha : PA X (e :: es) (tA ζ X.K fa))
    (hb : attributeBase o name X.env (eval o X.env) = eval o X.env := by rfl)
    (hfew : ((backTo cpos (starEach (e :: es) X.env)).all (fun x => !x.1) && (backToKw cpos (keywordEach [] X.env)).all (fun x => x.1.isSome) && decide ((e :: es).length + ([] : List Keyword).length + (if ([] : List Keyword).isEmpty then 0 else 1) < 30)) = true := by rfl)
    (hl : (apos.endLine == cpos.line) = true := by rfl) (hs : starEach (e :: es) X.env = (false, eval e X.env) :: starEach es X.env := by rfl) (hpl : (backTo cpos (starEach es X.env)).any (·.1) = false := by rfl) :
    PE X (.Call (.Attribute o name apos) (e :: es) [] cpos) (tE ζ X.K (eBMT p f fa)) :=
  pe_imp (pe_bmG tyT_ok PySem.F.plainAttrs_tuple slot hty hm ho ha hb hfew hl hs hpl) fun _ _ _ q => bmT_imp q
theorem m_indexT : MtR X "tuple.index" (rmP ζ X.K pIndexT) := by
  intro pins s σ H x xs v us Q I rx rxs h
  obtain ⟨φ, m, r0, rs, r, m', S, R0, RS, hf, kk⟩ := h
  unfold pIndexT at hf
  split at hf
  case h_2 => cases hf
  rename_i ds i
  split at hf
  case isFalse => cases hf
  rename_i hi
  obtain ⟨j, h3, hf⟩ := bind_some_iff hf
  cases hf
  obtain ⟨z, e1, e2, e3⟩ := firstEq_at h3
  obtain ⟨a, ws, rfl, hs, hd⟩ := seqT_of R0
  obtain ⟨ns, rfl, rfl⟩ := all_ints hd hi
  cases rx
  cases RS with
  | cons r1 t1 =>
    cases t1
    have e0 := rr_int r1
    subst e0
    cases rxs with
    | cons ry rt =>
      cases rt
      rename_i uy
      obtain ⟨t, rfl⟩ := ry
      obtain ⟨its, rv, pl, hz⟩ := I.tuple hs
      obtain ⟨⟨cls, dd, dt, sl⟩, ho, hc, n, hdt⟩ := pl
      simp only at hc hdt
      subst hc hdt
      have hl : its.toArray.size = ns.length := by rw [List.size_toArray, ← rv.length, List.length_map]
      have hjn : j < ns.length := by
        have := (List.getElem?_eq_some_iff.mp e1).1
        simpa using this
      have hj : j < its.toArray.size := by rw [hl]; exact hjn
      have at' : ∀ (k : Nat) (hk : k < its.toArray.size), ∃ t', its.toArray[k] = Value.int (ns[k]'(by omega)) t' := fun k hk => by
        have hk' : k < ns.length := by omega
        obtain ⟨w, hw, t', hw'⟩ := rv.get (i := k) (x := .int ns[k]) (by simp [hk'])
        refine ⟨t', ?_⟩
        have e := (List.getElem?_eq_some_iff.mp hw).2
        rw [← hw', ← e]
        simp
      have eqi : ∀ (k : Nat) (hk : k < ns.length), PyData.eqv (.int ns[k]) (.int i) = (ns[k] == i) := fun _ _ => rfl
      refine call_meets PySem.F.slot_tuple_index ⟨_, ho, rfl⟩ PySem.F.entry_tuple_index (PySem.F.args_tuple_index_2 _ _) (TI.tuple_indexAt a its.toArray n dd sl (.int i t) (eqU (.int i)) j hj ?_ ?_)
        ⟨ho, fun w hw => mem_eqAt (x := .int i) ⟨t, rfl⟩ rfl rv (flat_ints ns) w (by simpa using hw), ⟨.int (j : Nat), H, I.tok _, ⟨_, rfl⟩, kk φ H _ .refl S (Dp.int _)⟩⟩
      · obtain ⟨t', h2⟩ := at' j hj
        rw [h2]
        rw [List.getElem?_map, List.getElem?_eq_getElem hjn] at e1
        cases e1
        rw [eqi j hjn] at e2
        show (ns[j] == i) = true
        exact e2
      · intro k hk hkj
        obtain ⟨t', h2⟩ := at' k hk
        rw [h2]
        have hkn : k < ns.length := by omega
        have := e3 k (.int ns[k]) hkj (by rw [List.getElem?_map, List.getElem?_eq_getElem hkn]; rfl)
        rw [eqi k hkn] at this
        exact this
end
end Ev

set_option Elab.async false
set_option linter.all false
set_option maxRecDepth 100000
/-! Known values: comprehensions of two clauses, dicts with whole numbers as keys, places in tuples. -/
namespace Ev
open PySem PySem.Spec PyProof.Rows L2
section
variable {it it1 : IF} {p p1 : Pat} {vs vs1 : List Nat} {tt tt1 : TF} {te tk tv : EF} {env : Sl} {m : M}
theorem comp_map {α : Type} (enc : α → D) (t : α → Bool) (F : α → D) (l : List α) (hit : it env m = iL (l.map enc) m) (hl : l.length ≤ 16777216)
    (h : ∀ a ∈ l, ∃ e, bindP p (enc a) (wipeE env vs) = some e ∧ tt e m = some (t a, m) ∧ (t a = true → te e m = some (.val (F a), m))) : nComp it p vs tt te env m = some ((l.filter t).map F, m) := by
  rw [nComp_L hit (by rw [List.length_map, sz]; exact hl)]
  exact clpL_map enc t F l h
theorem comp_all {α : Type} (enc : α → D) (F : α → D) (l : List α) (hit : it env m = iL (l.map enc) m) (hl : l.length ≤ 16777216)
    (h : ∀ a ∈ l, ∃ e, bindP p (enc a) (wipeE env vs) = some e ∧ te e m = some (.val (F a), m)) : nComp it p vs tTrue te env m = some (l.map F, m) := by
  rw [nComp_L hit (by rw [List.length_map, sz]; exact hl)]
  exact clpL_all enc F l h
theorem clp2_map {α : Type} (enc : α → D) (t : α → Bool) (F : α → List D) (l0 : List α) {e0 : Sl} : ∀ (l : List α) (i : Nat), l0.drop i = l →
    (∀ a ∈ l, ∃ e, bindP p (enc a) e0 = some e ∧ tt e m = some (t a, m) ∧ (t a = true → ∃ ds, it1 e m = iL ds m ∧ clpL p1 tt1 te (wipeE e vs1) ds m = some (F a, m))) → clp2 (srcL (l0.map enc)) p tt it1 p1 vs1 tt1 te e0 l.length i m = some ((l.filter t).flatMap F, m)
  | [], i, hd, _ => by
    have e : (l0.map enc)[i]? = none := by rw [List.getElem?_eq_none_iff, List.length_map]; simpa using hd
    simp [clp2, srcL, e]
  | a :: l, i, hd, h => by
    have ea : l0[i]? = some a := by
      have := congrArg (·[0]?) hd
      simpa using this
    have e : (l0.map enc)[i]? = some (enc a) := by rw [List.getElem?_map, ea]; rfl
    have h' : l0.drop (i + 1) = l := by
      have := congrArg (List.drop 1) hd
      simpa [List.drop_drop, Nat.add_comm] using this
    obtain ⟨e1, h1, h2, h3⟩ := h a (by simp)
    have ih := clp2_map enc t F l0 l (i + 1) h' fun b hb => h b (List.mem_cons_of_mem _ hb)
    rw [List.length_cons]
    unfold clp2
    simp only [srcL, e, ob_some, h1, h2]
    cases ht : t a with
    | false =>
      rw [if_neg Bool.false_ne_true, ih, List.filter_cons_of_neg (by rw [ht]; exact Bool.false_ne_true)]
    | true =>
      obtain ⟨ds, h4, h5⟩ := h3 ht
      rw [if_pos rfl, h4]
      simp only [iL, ob_some]
      rw [clp_srcL ds ds 0 m rfl, h5]
      simp only [ob_some]
      rw [ih, List.filter_cons_of_pos ht]
      rfl
theorem comp2_map {α : Type} (enc : α → D) (t : α → Bool) (F : α → List D) (l : List α) (hit : it env m = iL (l.map enc) m) (hl : ((l.filter t).flatMap F).length ≤ 16777216)
    (h : ∀ a ∈ l, ∃ e, bindP p (enc a) (wipeE env vs) = some e ∧ tt e m = some (t a, m) ∧ (t a = true → ∃ ds, it1 e m = iL ds m ∧ clpL p1 tt1 te (wipeE e vs1) ds m = some (F a, m))) : nComp2 it p vs tt it1 p1 vs1 tt1 te env m = some ((l.filter t).flatMap F, m) := by
  unfold nComp2
  rw [hit]
  simp only [iL, ob_some, List.length_map]
  rw [clp2_map (e0 := wipeE env vs) enc t F l l 0 rfl h]
  simp only [ob_some, sz, hl, if_true]
theorem comp2_all {α : Type} (enc : α → D) (F : α → List D) (l : List α) (hit : it env m = iL (l.map enc) m) (hl : (l.flatMap F).length ≤ 16777216)
    (h : ∀ a ∈ l, ∃ e, bindP p (enc a) (wipeE env vs) = some e ∧ ∃ ds, it1 e m = iL ds m ∧ clpL p1 tt1 te (wipeE e vs1) ds m = some (F a, m)) : nComp2 it p vs tTrue it1 p1 vs1 tt1 te env m = some (l.flatMap F, m) := by
  have := comp2_map (it := it) (p := p) (vs := vs) (tt := tTrue) (it1 := it1) (p1 := p1) (vs1 := vs1) (tt1 := tt1) (te := te) (env := env) (m := m) enc (fun _ => true) F l hit (by rw [List.filter_eq_self.mpr fun _ _ => rfl]; exact hl) fun a ha => by
    obtain ⟨e, h1, h2⟩ := h a ha
    exact ⟨e, h1, rfl, fun _ => h2⟩
  rw [this, List.filter_eq_self.mpr fun _ _ => rfl]
/-! dicts by comprehensions -/
theorem getN {ob : Ob} : (m ++ [ob])[m.length]? = some ob := by simp
theorem setN {a b : Ob} : (m ++ [a]).set m.length b = m ++ [b] := by
  induction m with
  | nil => rfl
  | cons y m ih => exact congrArg (y :: ·) ih
abbrev puts (t : Bool) (kvs : List (D × D)) (ps : List (D × D)) : List (D × D) := ps.foldl (fun kvs q => putD t kvs q.1 q.2) kvs
theorem putD_len (t : Bool) (kvs : List (D × D)) (d x : D) : (putD t kvs d x).length ≤ kvs.length + 1 := by
  unfold putD
  split
  · rw [List.length_map]; omega
  · rw [List.length_append]; exact Nat.le_refl _
theorem dputM_ok {kvs : List (D × D)} {d x : D} (hk : keyOk false d = true) (hl : kvs.length < 16777216) : dputM m.length (.val d) (.val x) (m ++ [.dct false false kvs]) = some (m ++ [.dct false false (putD false kvs d x)]) := by
  simp only [dputM, getN, hk, sz, hl, and_self, if_true, setN]
theorem dputT_ok {t : Bool} {kvs : List (D × D)} {d x : D} (hk : keyOk t d = true) (hl : kvs.length < 16777216) : dputT t m.length (.val d) (.val x) (m ++ [.dct t false kvs]) = some (m ++ [.dct t false (putD t kvs d x)]) := by
  simp only [dputT, getN, hk, sz, hl, and_self, if_true, setN]
theorem dcl_map {α : Type} (enc K V : α → D) (t : α → Bool) (l0 : List α) {e0 : Sl} : ∀ (l : List α) (i : Nat) (kvs : List (D × D)), l0.drop i = l → kvs.length + l.length ≤ 16777216 →
    (∀ a ∈ l, ∃ e, bindP p (enc a) e0 = some e ∧ ∀ kvs, tt e (m ++ [.dct false false kvs]) = some (t a, m ++ [.dct false false kvs]) ∧ (t a = true → tk e (m ++ [.dct false false kvs]) = some (.val (K a), m ++ [.dct false false kvs]) ∧ tv e (m ++ [.dct false false kvs]) = some (.val (V a), m ++ [.dct false false kvs]) ∧ keyOk false (K a) = true)) →
    dcl (srcL (l0.map enc)) p tt tk tv e0 m.length l.length i (m ++ [.dct false false kvs]) = some (m ++ [.dct false false (puts false kvs ((l.filter t).map fun a => (K a, V a)))])
  | [], i, kvs, hd, _, _ => by
    have e : (l0.map enc)[i]? = none := by rw [List.getElem?_eq_none_iff, List.length_map]; simpa using hd
    simp [dcl, srcL, e, puts]
  | a :: l, i, kvs, hd, hl, h => by
    have ea : l0[i]? = some a := by
      have := congrArg (·[0]?) hd
      simpa using this
    have e : (l0.map enc)[i]? = some (enc a) := by rw [List.getElem?_map, ea]; rfl
    have h' : l0.drop (i + 1) = l := by
      have := congrArg (List.drop 1) hd
      simpa [List.drop_drop, Nat.add_comm] using this
    obtain ⟨e1, h1, h2⟩ := h a (by simp)
    have ih := fun kvs hl => dcl_map enc K V t l0 l (i + 1) kvs h' hl fun b hb => h b (List.mem_cons_of_mem _ hb)
    rw [List.length_cons] at hl ⊢
    obtain ⟨h3, h4⟩ := h2 kvs
    unfold dcl
    simp only [srcL, e, ob_some, h1, h3]
    cases ht : t a with
    | false =>
      rw [if_neg Bool.false_ne_true, ih _ (by omega), List.filter_cons_of_neg (by rw [ht]; exact Bool.false_ne_true)]
    | true =>
      obtain ⟨h5, h6, h7⟩ := h4 ht
      have := putD_len false kvs (K a) (V a)
      rw [if_pos rfl, h5]
      simp only [ob_some, h6, dputM_ok h7 (show kvs.length < 16777216 by omega)]
      rw [ih _ (by omega), List.filter_cons_of_pos ht]
      rfl
theorem dcomp_map {α : Type} (enc K V : α → D) (t : α → Bool) (l : List α) (hit : it env m = iL (l.map enc) m) (hl : l.length ≤ 16777216)
    (h : ∀ a ∈ l, ∃ e, bindP p (enc a) (wipeE env vs) = some e ∧ ∀ kvs, tt e (m ++ [.dct false false kvs]) = some (t a, m ++ [.dct false false kvs]) ∧ (t a = true → tk e (m ++ [.dct false false kvs]) = some (.val (K a), m ++ [.dct false false kvs]) ∧ tv e (m ++ [.dct false false kvs]) = some (.val (V a), m ++ [.dct false false kvs]) ∧ keyOk false (K a) = true)) :
    eDc it p vs tt tk tv env m = some (.ref m.length, m ++ [.dct false false (puts false [] ((l.filter t).map fun a => (K a, V a)))]) := by
  unfold eDc
  rw [hit]
  simp only [iL, ob_some, List.length_map, sz, hl, if_true]
  rw [dcl_map enc K V t l l 0 [] rfl (by simpa using hl) h]
  simp only [ob_some]
theorem dcomp_all {α : Type} (enc K V : α → D) (l : List α) (hit : it env m = iL (l.map enc) m) (hl : l.length ≤ 16777216)
    (h : ∀ a ∈ l, ∃ e, bindP p (enc a) (wipeE env vs) = some e ∧ ∀ kvs, tk e (m ++ [.dct false false kvs]) = some (.val (K a), m ++ [.dct false false kvs]) ∧ tv e (m ++ [.dct false false kvs]) = some (.val (V a), m ++ [.dct false false kvs]) ∧ keyOk false (K a) = true) :
    eDc it p vs tTrue tk tv env m = some (.ref m.length, m ++ [.dct false false (puts false [] (l.map fun a => (K a, V a)))]) := by
  have := dcomp_map (it := it) (p := p) (vs := vs) (tt := tTrue) (tk := tk) (tv := tv) (env := env) (m := m) enc K V (fun _ => true) l hit hl fun a ha => by
    obtain ⟨e, h1, h2⟩ := h a ha
    exact ⟨e, h1, fun kvs => ⟨rfl, fun _ => h2 kvs⟩⟩
  rw [this, List.filter_eq_self.mpr fun _ _ => rfl]
theorem dcl1_map {t : Bool} {α : Type} (enc K V : α → D) (f : α → Bool) (l0 : List α) {e0 : Sl} : ∀ (l : List α) (i : Nat) (kvs : List (D × D)), l0.drop i = l → kvs.length + l.length ≤ 16777216 →
    (∀ a ∈ l, ∃ e, bindP p (enc a) e0 = some e ∧ ∀ kvs, tt e (m ++ [.dct t false kvs]) = some (f a, m ++ [.dct t false kvs]) ∧ (f a = true → tk e (m ++ [.dct t false kvs]) = some (.val (K a), m ++ [.dct t false kvs]) ∧ tv e (m ++ [.dct t false kvs]) = some (.val (V a), m ++ [.dct t false kvs]) ∧ keyOk t (K a) = true)) →
    dcl1 t (srcL (l0.map enc)) p tt tk tv e0 m.length l.length i (m ++ [.dct t false kvs]) = some (m ++ [.dct t false (puts t kvs ((l.filter f).map fun a => (K a, V a)))])
  | [], i, kvs, hd, _, _ => by
    have e : (l0.map enc)[i]? = none := by rw [List.getElem?_eq_none_iff, List.length_map]; simpa using hd
    simp [dcl1, srcL, e, puts]
  | a :: l, i, kvs, hd, hl, h => by
    have ea : l0[i]? = some a := by
      have := congrArg (·[0]?) hd
      simpa using this
    have e : (l0.map enc)[i]? = some (enc a) := by rw [List.getElem?_map, ea]; rfl
    have h' : l0.drop (i + 1) = l := by
      have := congrArg (List.drop 1) hd
      simpa [List.drop_drop, Nat.add_comm] using this
    obtain ⟨e1, h1, h2⟩ := h a (by simp)
    have ih := fun kvs hl => dcl1_map (t := t) enc K V f l0 l (i + 1) kvs h' hl fun b hb => h b (List.mem_cons_of_mem _ hb)
    rw [List.length_cons] at hl ⊢
    obtain ⟨h3, h4⟩ := h2 kvs
    unfold dcl1
    simp only [srcL, e, ob_some, h1, h3]
    cases ht : f a with
    | false =>
      rw [if_neg Bool.false_ne_true, ih _ (by omega), List.filter_cons_of_neg (by rw [ht]; exact Bool.false_ne_true)]
    | true =>
      obtain ⟨h5, h6, h7⟩ := h4 ht
      have := putD_len t kvs (K a) (V a)
      rw [if_pos rfl, h5]
      simp only [ob_some, h6, dputT_ok h7 (show kvs.length < 16777216 by omega)]
      rw [ih _ (by omega), List.filter_cons_of_pos ht]
      rfl
theorem puts_len (t : Bool) : ∀ (ps kvs : List (D × D)), (puts t kvs ps).length ≤ kvs.length + ps.length
  | [], kvs => by simp [puts]
  | q :: ps, kvs => by
    have := puts_len t ps (putD t kvs q.1 q.2)
    have := putD_len t kvs q.1 q.2
    rw [List.length_cons]
    show (puts t (putD t kvs q.1 q.2) ps).length ≤ _
    omega
theorem puts_app (t : Bool) (kvs ps qs : List (D × D)) : puts t kvs (ps ++ qs) = puts t (puts t kvs ps) qs := List.foldl_append
/-- two clauses: each outer item gives the pairs G a -/
theorem dcl2_map {t : Bool} {α : Type} (enc : α → D) (G : α → List (D × D)) (l0 : List α) {e0 : Sl} : ∀ (l : List α) (i : Nat) (kvs : List (D × D)), l0.drop i = l → kvs.length + (l.flatMap G).length ≤ 16777216 →
    (∀ a ∈ l, ∃ e, bindP p (enc a) e0 = some e ∧ ∀ kvs : List (D × D), kvs.length + (G a).length ≤ 16777216 → ∃ ds, it1 e (m ++ [.dct t false kvs]) = iL ds (m ++ [.dct t false kvs]) ∧ dcl1 t (srcL ds) p1 tt1 tk tv (wipeE e vs1) m.length ds.length 0 (m ++ [.dct t false kvs]) = some (m ++ [.dct t false (puts t kvs (G a))])) →
    dcl2 t (srcL (l0.map enc)) p tTrue it1 p1 vs1 tt1 tk tv e0 m.length l.length i (m ++ [.dct t false kvs]) = some (m ++ [.dct t false (puts t kvs (l.flatMap G))])
  | [], i, kvs, hd, _, _ => by
    have e : (l0.map enc)[i]? = none := by rw [List.getElem?_eq_none_iff, List.length_map]; simpa using hd
    simp [dcl2, srcL, e, puts]
  | a :: l, i, kvs, hd, hl, h => by
    have ea : l0[i]? = some a := by
      have := congrArg (·[0]?) hd
      simpa using this
    have e : (l0.map enc)[i]? = some (enc a) := by rw [List.getElem?_map, ea]; rfl
    have h' : l0.drop (i + 1) = l := by
      have := congrArg (List.drop 1) hd
      simpa [List.drop_drop, Nat.add_comm] using this
    obtain ⟨e1, h1, h2⟩ := h a (by simp)
    have ih := fun kvs hl => dcl2_map (t := t) enc G l0 l (i + 1) kvs h' hl fun b hb => h b (List.mem_cons_of_mem _ hb)
    rw [List.flatMap_cons, List.length_append] at hl
    obtain ⟨ds, h3, h4⟩ := h2 kvs (by omega)
    have hp := puts_len t (G a) kvs
    have tr : ∀ e mm, tTrue e mm = some (true, mm) := fun _ _ => rfl
    rw [List.length_cons]
    unfold dcl2
    simp only [srcL, e, ob_some, h1, tr, if_true, h3, iL]
    rw [h4, ob_some, ih _ (by omega), List.flatMap_cons, puts_app]
theorem dcomp2_all {t : Bool} {α : Type} (enc : α → D) (G : α → List (D × D)) (l : List α) (hit : it env m = iL (l.map enc) m) (hl : (l.flatMap G).length ≤ 16777216)
    (h : ∀ a ∈ l, ∃ e, bindP p (enc a) (wipeE env vs) = some e ∧ ∀ kvs : List (D × D), kvs.length + (G a).length ≤ 16777216 → ∃ ds, it1 e (m ++ [.dct t false kvs]) = iL ds (m ++ [.dct t false kvs]) ∧ dcl1 t (srcL ds) p1 tt1 tk tv (wipeE e vs1) m.length ds.length 0 (m ++ [.dct t false kvs]) = some (m ++ [.dct t false (puts t kvs (G a))])) :
    eDc2 t it p vs tTrue it1 p1 vs1 tt1 tk tv env m = some (.ref m.length, m ++ [.dct t false (puts t [] (l.flatMap G))]) := by
  unfold eDc2
  rw [hit]
  simp only [iL, ob_some, List.length_map]
  rw [dcl2_map (t := t) enc G l l 0 [] rfl (by simpa using hl) h]
  simp only [ob_some]
end
/-! whole numbers as keys -/
theorem keyOk_i {i : Int} : keyOk false (.int i) = true := rfl
theorem same_i {i j : Int} : sameD false (.int i) (.int j) = decide (i = j) := by
  rw [sameD_F]
  show decide (some (Sum.inl i : Key) = some (Sum.inl j)) = _
  simp
/-- the keys, in order, each with what f tells -/
def kF {α : Type} (k : α → D) (f : α → D) (l : List α) : List (D × D) := l.map fun a => (k a, f a)
abbrev nI (a : Nat) : D := .int (a : Int)
theorem same_n {a b : Nat} : sameD false (nI a) (nI b) = decide (a = b) := by
  rw [same_i]
  by_cases h : a = b
  · rw [decide_eq_true h, decide_eq_true (by omega)]
  · rw [decide_eq_false h, decide_eq_false (by omega)]
def insN (ks : List Nat) (w : Nat) : List Nat := if w ∈ ks then ks else ks ++ [w]
theorem any_n {f : Nat → D} {w : Nat} : ∀ ks : List Nat, ((kF nI f ks).any fun q => sameD false q.1 (nI w)) = decide (w ∈ ks)
  | [] => by simp [kF]
  | a :: ks => by
    have ih := any_n (f := f) (w := w) ks
    unfold kF at ih ⊢
    rw [List.map_cons, List.any_cons, ih]
    show (sameD false (nI a) (nI w) || decide (w ∈ ks)) = _
    rw [same_n]
    by_cases h : a = w
    · subst h; simp
    · simp [h, show ¬ w = a from fun z => h z.symm]
theorem put_n {f : Nat → D} {ks : List Nat} {w : Nat} : putD false (kF nI f ks) (nI w) (f w) = kF nI f (insN ks w) := by
  unfold putD insN
  rw [any_n]
  by_cases h : w ∈ ks
  · rw [if_pos (decide_eq_true h), if_pos h]
    unfold kF
    rw [List.map_map]
    refine List.map_congr_left fun a _ => ?_
    simp only [Function.comp_apply]
    rw [show sameD false (PyData.int (a : Int)) (nI w) = decide (a = w) from same_n]
    by_cases c : a = w
    · subst c; simp
    · simp [c]
  · rw [if_neg (by simp [h]), if_neg h]
    unfold kF
    simp
theorem puts_n {f : Nat → D} : ∀ (l ks : List Nat), puts false (kF nI f ks) (kF nI f l) = kF nI f (l.foldl insN ks)
  | [], _ => rfl
  | a :: l, ks => by
    show puts false (putD false (kF nI f ks) (nI a) (f a)) (kF nI f l) = _
    rw [put_n, puts_n l]
    rfl
theorem look_n {f : Nat → D} {w : Nat} : ∀ {ks : List Nat}, w ∈ ks → lookD false (kF nI f ks) (nI w) = some (f w)
  | [], h => by cases h
  | a :: ks, h => by
    unfold lookD kF
    rw [List.map_cons, List.find?_cons]
    simp only
    rw [show sameD false (PyData.int (a : Int)) (nI w) = decide (a = w) from same_n]
    by_cases c : a = w
    · subst c; simp
    · have h2 : w ∈ ks := (List.mem_cons.mp h).resolve_left fun z => c z.symm
      have := look_n (f := f) h2
      unfold lookD kF at this
      simp only [c, decide_false]
      exact this
theorem insN_mem {ks : List Nat} {w u : Nat} : u ∈ insN ks w ↔ u ∈ ks ∨ u = w := by
  unfold insN
  split
  · rename_i h
    exact ⟨.inl, fun q => q.elim id fun e => e ▸ h⟩
  · simp
theorem insN_nd {ks : List Nat} {w : Nat} (h : ks.Nodup) : (insN ks w).Nodup := by
  unfold insN
  split
  · exact h
  · rename_i c
    rw [List.nodup_append]
    exact ⟨h, by simp, fun a ha b hb z => c (by rw [List.mem_singleton] at hb; rw [← hb, ← z]; exact ha)⟩
theorem insF_mem {u : Nat} : ∀ {l ks : List Nat}, u ∈ l.foldl insN ks ↔ u ∈ ks ∨ u ∈ l
  | [], ks => by simp
  | a :: l, ks => by
    rw [List.foldl_cons, insF_mem, insN_mem, List.mem_cons, or_assoc]
theorem insF_nd : ∀ {l ks : List Nat}, ks.Nodup → (l.foldl insN ks).Nodup
  | [], _, h => h
  | _ :: l, _, h => insF_nd (l := l) (insN_nd h)
theorem insF_new : ∀ {l ks : List Nat}, (ks ++ l).Nodup → l.foldl insN ks = ks ++ l
  | [], ks, _ => by simp
  | a :: l, ks, h => by
    have h1 : a ∉ ks := fun z => (List.nodup_append.mp h).2.2 a z a (by simp) rfl
    have e : insN ks a = ks ++ [a] := if_neg h1
    rw [List.foldl_cons, e, insF_new (by simpa using h)]
    simp
section
variable {m : M} {j : Nat} {ks : List Nat} {w : Nat} {f : Nat → D} {lk : Bool}
theorem dget_n (h : m[j]? = some (.dct false lk (kF nI f ks))) (hw : w ∈ ks) : pDGet (.ref j) (.val (.int (w : Int))) m = some (.val (f w), m) := by
  unfold pDGet
  simp only [h, ob_some]
  have e := look_n (f := f) hw
  simp only [nI] at e
  simp [e, keyOk_i]
theorem dhas_n (h : m[j]? = some (.dct false lk (kF nI f ks))) : pDHas (.ref j) (.val (.int (w : Int))) m = some (decide (w ∈ ks)) := by
  have e := any_n (f := f) (w := w) ks
  rw [lookD_any] at e
  simp only [nI] at e
  unfold pDHas
  simp only [h, ob_some]
  simp [e, keyOk_i]
theorem din_n (h : m[j]? = some (.dct false lk (kF nI f ks))) : pDIn (.val (.int (w : Int))) (.ref j) m = some (.val (.bool (decide (w ∈ ks))), m) := by
  unfold pDIn
  rw [dhas_n h]
  rfl
theorem dnin_n (h : m[j]? = some (.dct false lk (kF nI f ks))) : pDNin (.val (.int (w : Int))) (.ref j) m = some (.val (.bool (!decide (w ∈ ks))), m) := by
  unfold pDNin
  rw [dhas_n h]
  rfl
theorem dlen_n (h : m[j]? = some (.dct false lk (kF nI f ks))) : pLenD [.ref j] m = some (.val (.int (ks.length : Int)), m) := by
  show ((m[j]?).bind _) = _
  rw [h, ob_some]
  simp [kF]
theorem dset_n (h : m[j]? = some (.dct false false (kF nI f ks))) (hl : ks.length < 16777216) : pDSet (.ref j) (.val (.int (w : Int))) (.val (f w)) m = some (m.set j (.dct false false (kF nI f (insN ks w)))) := by
  have hl2 : (kF nI f ks).length < sizeLine := by unfold kF; rw [List.length_map, sz]; exact hl
  have e := put_n (f := f) (ks := ks) (w := w)
  simp only [nI] at e
  unfold pDSet
  simp only [h, ob_some, keyOk_i, hl2, and_self, if_true]
  rw [e]
end
/-! places in tuples -/
theorem allInt_N (l : List Nat) : (encI l).all isIntD = true := by
  unfold encI
  rw [List.all_map]
  exact List.all_eq_true.mpr fun _ _ => rfl
theorem pidxT_N {a : Nat} {l : List Nat} {m : M} (ha : a ∈ l) : pIndexT (.val (encT l)) [.val (.int (a : Int))] m = some (.val (.int ((l.idxOf a : Nat) : Int)), m) := by
  unfold encT
  simp only [pIndexT, allInt_N, if_true, firstEq_N ha, ob_some]
@[simp] theorem ev_bmT {f : EF} {fa : AF} {env : Sl} {m : M} {pp : MF} : eBMT pp f fa env m = (f env m).bind fun x => match x.1 with
  | .val (.tuple ds) => (fa env x.2).bind fun y => pp (.val (.tuple ds)) y.1 y.2
  | _ => none := nr rfl
theorem ev_cut {f : EF} {env : Sl} {m : M} : eCut f env m = (f env m).bind fun x => match x.1 with
  | .val d => some (.val d, x.2.take m.length)
  | _ => none := nr rfl
/-- insertion -/
theorem pins_N {k a i : Nat} {l : List Nat} {m : M} (h : m[k]? = some (.lst (encI l))) (hl : l.length < 16777216) (hi : i < 1000000) : pInsert (.ref k) [.val (.int (i : Int)), .val (.int (a : Int))] m = some (.val .none, m.set k (.lst (encI (l.take i ++ [a] ++ l.drop i)))) := by
  have h1 : (0 : Int) ≤ (i : Int) ∧ (i : Int) < 2 ^ 63 := by omega
  simp only [pInsert, h, ob_some, encI_len, sz, hl, h1, and_self, if_true, Int.toNat_natCast]
  unfold encI
  simp
/-! loops that fold -/
theorem loop_fold {α β : Type} {gf : GF} {sf : SF} (enc : α → D) (E : β → Sl) (S : β → M) (st : β → α → β) (I : β → Prop) : ∀ (l : List α) (b : β), I b →
    (∀ a ∈ l, ∀ b, I b → I (st b a) ∧ ∃ env1 m1, gf (.val (enc a)) (E b) (S b) = some (env1, m1) ∧ sf env1 m1 = some (.nx (E (st b a)) (S (st b a)))) → loopL gf sf (l.map enc) (E b) (S b) = some (.nx (E (l.foldl st b)) (S (l.foldl st b))) ∧ I (l.foldl st b)
  | [], b, hI, _ => ⟨loop_nil, hI⟩
  | a :: l, b, hI, h => by
    obtain ⟨h1, env1, m1, h2, h3⟩ := h a (by simp) b hI
    have ih := loop_fold (gf := gf) (sf := sf) enc E S st I l (st b a) h1 fun x hx => h x (List.mem_cons_of_mem _ hx)
    rw [List.map_cons, step_nx h2 h3]
    exact ih
/-! enumerate of whole numbers -/
def encE (p : Nat × Nat) : D := .tuple [.int (p.2 : Int), .int (p.1 : Int)]
theorem enum_N (l : List Nat) : enumD (encI l) = l.zipIdx.map encE := by
  unfold enumD encI
  rw [List.zipIdx_map, List.map_map]
  rfl
theorem zip_idx {γ : Type} (g : Nat → Nat → γ) (l : List Nat) (h : l.Nodup) : l.zipIdx.map (fun p => g p.1 p.2) = l.map fun a => g a (l.idxOf a) := by
  have e : l.map (fun a => g a (l.idxOf a)) = (l.zipIdx.map Prod.fst).map fun a => g a (l.idxOf a) := by rw [List.zipIdx_map_fst]
  rw [e, List.map_map]
  refine List.map_congr_left fun p hp => ?_
  obtain ⟨x, i⟩ := p
  have hi := List.mem_zipIdx hp
  simp only [Function.comp_apply]
  have hlt : i < l.length := by omega
  have ex : x = l[i] := by
    have := hi.2.2
    simpa using this
  congr 1
  subst ex
  exact (List.getElem_inj h (h₀ := hlt) (h₁ := List.idxOf_lt_length_of_mem (List.getElem_mem hlt))).mp (List.getElem_idxOf _).symm
theorem loop_goI {α β : Type} {gf : GF} {sf : SF} (enc : α → D) (E : β → Sl) (S : β → M) (st : β → α → β) (I : Nat → β → Prop) (l0 : List α) (h : ∀ j a, l0[j]? = some a → ∀ b, I j b → I (j + 1) (st b a) ∧ ∃ env1 m1, gf (.val (enc a)) (E b) (S b) = some (env1, m1) ∧ sf env1 m1 = some (.nx (E (st b a)) (S (st b a)))) : ∀ (l : List α) (j : Nat) (b : β), l0.drop j = l → I j b →
    loopL gf sf (l.map enc) (E b) (S b) = some (.nx (E (l.foldl st b)) (S (l.foldl st b))) ∧ I (j + l.length) (l.foldl st b)
  | [], j, b, _, hI => ⟨loop_nil, hI⟩
  | a :: l, j, b, hd, hI => by
    have ea : l0[j]? = some a := by
      have := congrArg (·[0]?) hd
      simpa using this
    have h' : l0.drop (j + 1) = l := by
      have := congrArg (List.drop 1) hd
      simpa [List.drop_drop, Nat.add_comm] using this
    obtain ⟨h1, env1, m1, h2, h3⟩ := h j a ea b hI
    have ih := loop_goI (gf := gf) (sf := sf) enc E S st I l0 h l (j + 1) (st b a) h' h1
    rw [List.map_cons, step_nx h2 h3, List.length_cons, show j + (l.length + 1) = j + 1 + l.length by omega]
    exact ih
/-- .. with what holds behind so many turns -/
theorem loop_foldI {α β : Type} {gf : GF} {sf : SF} (enc : α → D) (E : β → Sl) (S : β → M) (st : β → α → β) (I : Nat → β → Prop) (l : List α) (b : β) (h0 : I 0 b) (h : ∀ j a, l[j]? = some a → ∀ b, I j b → I (j + 1) (st b a) ∧ ∃ env1 m1, gf (.val (enc a)) (E b) (S b) = some (env1, m1) ∧ sf env1 m1 = some (.nx (E (st b a)) (S (st b a)))) :
    loopL gf sf (l.map enc) (E b) (S b) = some (.nx (E (l.foldl st b)) (S (l.foldl st b))) ∧ I l.length (l.foldl st b) := by
  have := loop_goI (gf := gf) (sf := sf) enc E S st I l h l 0 b rfl h0
  rwa [Nat.zero_add] at this
/-! in, not in -/
theorem lay_N (l : List Nat) : PyData.canLayAll0 (encI l) = true := by
  induction l with
  | nil => rfl
  | cons a l ih => exact ih
theorem any_N (a : Nat) (l : List Nat) : ((encI l).any fun z => PyData.eqv z (.int (a : Int))) = decide (a ∈ l) := by
  unfold encI
  rw [List.any_map]
  induction l with
  | nil => simp
  | cons b l ih =>
    rw [List.any_cons, ih]
    show (((b : Int) == (a : Int)) || decide (a ∈ l)) = _
    by_cases h : a = b
    · subst h; simp
    · have : ((b : Int) == (a : Int)) = false := by simp; omega
      simp [h, this]
theorem asLT_T {l : List Nat} {m : M} : asLT (.val (encT l)) m = some (encI l) := rfl
section
variable {a : Nat} {l : List Nat} {m : M} {r : R}
theorem pin_N (h : asLT r m = some (encI l)) : pIn (.val (.int (a : Int))) r m = some (.val (.bool (decide (a ∈ l))), m) := by
  show ((asD (.val (.int (a : Int))) m).bind fun d => (asLT r m).bind fun es => if (SeqAt.shaped d && PyData.canLayAll0 es) = true then some (R.val (.bool (if false then !(es.any fun z => PyData.eqv z d) else es.any fun z => PyData.eqv z d)), m) else none) = _
  rw [show asD (.val (.int (a : Int))) m = some (.int (a : Int)) from rfl, ob_some, h, ob_some, lay_N, show SeqAt.shaped (.int (a : Int)) = true from rfl, any_N]
  rfl
theorem pnin_N (h : asLT r m = some (encI l)) : pNin (.val (.int (a : Int))) r m = some (.val (.bool (!decide (a ∈ l))), m) := by
  show ((asD (.val (.int (a : Int))) m).bind fun d => (asLT r m).bind fun es => if (SeqAt.shaped d && PyData.canLayAll0 es) = true then some (R.val (.bool (if true then !(es.any fun z => PyData.eqv z d) else es.any fun z => PyData.eqv z d)), m) else none) = _
  rw [show asD (.val (.int (a : Int))) m = some (.int (a : Int)) from rfl, ob_some, h, ob_some, lay_N, show SeqAt.shaped (.int (a : Int)) = true from rfl, any_N]
  rfl
theorem psum_L {α : Type} (l : List α) (f : α → Nat) : pSum [.val (.list (l.map fun x => PyData.int ((f x : Nat) : Int)))] m = some (.val (.int (((l.map f).sum : Nat) : Int)), m) := by
  show ((asIs (l.map fun x => PyData.int ((f x : Nat) : Int))).bind fun ns => some (R.val (.int ns.sum), m)) = _
  rw [asIs_map' l fun x => ((f x : Nat) : Int), ob_some]
  have := sum_cast (l.map f)
  rw [List.map_map] at this
  exact congrArg (fun z => some (R.val (.int z), m)) this
end
theorem encT_app (a b : List Nat) : PyData.tuple (encI a ++ encI b) = encT (a ++ b) := by
  unfold encT encI
  rw [List.map_append]
theorem pp_TT {a b : List Nat} {m : M} (h : a.length + b.length ≤ 16777216) : pPlus (.val (encT a)) (.val (encT b)) m = some (.val (encT (a ++ b)), m) := by
  unfold encT
  rw [pp_tt (by rw [encI_len, encI_len]; exact h)]
  exact congrArg (fun z => some (R.val z, m)) (encT_app a b)
/-! sorted, what is sorted -/
theorem psort_sorted {l : List (List Nat)} {m : M} (h : l.Pairwise (· < ·)) (hne : ∀ u ∈ l, u ≠ []) (hl : l.length ≤ 16777216) : pSortedA [.val (.list (l.map encT))] m = some (.val (.list (l.map encT)), m) := by
  have e : l.mergeSort (PySem.W.dataLe false encT) = l := List.mergeSort_of_pairwise (h.imp fun {a b} q => by
    rw [PySem.W.dataLe_eq]
    show (!PySem.W.dataLt (encT b) (encT a)) = true
    rw [dataLt_T, decide_eq_false (fun z => List.lt_irrefl _ (List.lt_trans q z))]
    rfl)
  rw [psort_r (r := .val (.list (l.map encT))) (ds := l.map encT) rfl (sortable_tup l (fun u hu => ?_) fun a _ b _ => alike_T) (small_of fun d hd => ?_) (by rw [List.length_map]; exact hl), sortD_map, e]
  · cases e : u with
    | nil => exact absurd e (hne u hu)
    | cons x xs => exact ⟨_, _, rfl⟩
  · obtain ⟨u, _, rfl⟩ := List.mem_map.mp hd
    exact Nat.le_trans (depth_T u) (by decide)
/-! pairs of a number and a tuple -/
def encP (p : Nat × List Nat) : D := .tuple [.int (p.1 : Int), encT p.2]
theorem eqv_n {a b : Nat} : PyData.eqv (.int (a : Int)) (.int (b : Int)) = decide (a = b) := by
  show ((a : Int) == (b : Int)) = _
  by_cases h : a = b
  · subst h; simp
  · rw [decide_eq_false h]; simp; omega
theorem eqvs_T : ∀ x y : List Nat, PyData.eqvAll (encI x) (encI y) = decide (x = y)
  | [], [] => by simp [encI, PyData.eqvAll]
  | [], b :: y => by simp [encI, PyData.eqvAll]
  | a :: x, [] => by simp [encI, PyData.eqvAll]
  | a :: x, b :: y => by
    show (PyData.eqv (.int (a : Int)) (.int (b : Int)) && PyData.eqvAll (encI x) (encI y)) = _
    rw [eqv_n, eqvs_T x y]
    by_cases h : a = b <;> simp [h]
theorem eqv_T {x y : List Nat} : PyData.eqv (encT x) (encT y) = decide (x = y) := eqvs_T x y
theorem dataLt_P (a b : Nat × List Nat) : PySem.W.dataLt (encP a) (encP b) = decide (a.1 < b.1 ∨ (a.1 = b.1 ∧ a.2 < b.2)) := by
  obtain ⟨i, x⟩ := a
  obtain ⟨j, y⟩ := b
  unfold encP
  have hi : ∀ i j : Nat, PySem.W.dataLt (.int (i : Int)) (.int (j : Int)) = decide (i < j) := fun i j => by
    have := congrFun (congrFun (PySem.W.dataLe_int (β := Int) id) (j : Int)) (i : Int)
    rw [PySem.W.dataLe_eq] at this
    simp only [id, cond_false] at this
    have e : PySem.W.dataLt (.int (i : Int)) (.int (j : Int)) = !decide ((j : Int) ≤ i) := by rw [← this, Bool.not_not]
    rw [e]
    by_cases h : i < j
    · rw [decide_eq_true h, decide_eq_false (by omega)]; rfl
    · rw [decide_eq_false h, decide_eq_true (by omega)]; rfl
  rw [PySem.W.dataLt_pair rfl alike_T, dataLt_T, eqv_n, eqv_T, hi]
  by_cases h2 : i = j
  · subst h2
    by_cases h3 : x = y
    · subst h3; simp [List.lt_irrefl]
    · simp [h3]
  · simp [h2]
theorem alike_P {a b : Nat × List Nat} : PySem.W.alike (encP a) (encP b) = true := by
  unfold encP
  show (PySem.W.alike (.int (a.1 : Int)) (.int (b.1 : Int)) && (PySem.W.alike (encT a.2) (encT b.2) && _)) = true
  rw [alike_T]
  rfl
theorem depth_P (a : Nat × List Nat) : (encP a).depth ≤ 2 := by
  have := depth_T a.2
  show max (PyData.depth (.int (a.1 : Int))) (max (encT a.2).depth 0) + 1 ≤ 2
  have e : PyData.depth (.int (a.1 : Int)) = 0 := rfl
  omega
/-- before: by number, then by tuple -/
def ltP (a b : Nat × List Nat) : Prop := a.1 < b.1 ∨ (a.1 = b.1 ∧ a.2 < b.2)
instance (a b : Nat × List Nat) : Decidable (ltP a b) := by unfold ltP; infer_instance
theorem ltP_trans {a b c : Nat × List Nat} (h : ltP a b) (k : ltP b c) : ltP a c := by
  unfold ltP at *
  rcases h with h | ⟨h1, h2⟩ <;> rcases k with k | ⟨k1, k2⟩
  · exact .inl (by omega)
  · exact .inl (by omega)
  · exact .inl (by omega)
  · exact .inr ⟨by omega, List.lt_trans h2 k2⟩
theorem ltP_irr (a : Nat × List Nat) : ¬ ltP a a := fun h => by
  rcases h with h | ⟨_, h⟩
  · omega
  · exact List.lt_irrefl _ h
theorem ltP_tot {a b : Nat × List Nat} (h : ¬ ltP a b) (k : ¬ ltP b a) : a = b := by
  obtain ⟨i, x⟩ := a
  obtain ⟨j, y⟩ := b
  unfold ltP at *
  have e : i = j := by omega
  subst e
  have e2 : x = y := List.le_antisymm (List.not_lt.mp fun z => k (.inr ⟨rfl, z⟩)) (List.not_lt.mp fun z => h (.inr ⟨rfl, z⟩))
  rw [e2]
theorem minD_P : ∀ (l : List (Nat × List Nat)) (x : Nat × List Nat), ∃ r, PySem.W.minD (encP x) (l.map encP) = encP r ∧ r ∈ x :: l ∧ ∀ y ∈ x :: l, ¬ ltP y r
  | [], x => ⟨x, rfl, by simp, fun y hy => by rw [List.mem_singleton.mp hy]; exact ltP_irr x⟩
  | z :: l, x => by
    have e : PySem.W.minD (encP x) ((z :: l).map encP) = PySem.W.minD (if ltP z x then encP z else encP x) (l.map encP) := by
      show PySem.W.minD (if PySem.W.dataLt (encP z) (encP x) = true then encP z else encP x) (l.map encP) = _
      rw [dataLt_P]
      unfold ltP
      simp only [decide_eq_true_eq]
    by_cases c : ltP z x
    · obtain ⟨r, h1, h2, h3⟩ := minD_P l z
      refine ⟨r, by rw [e, if_pos c]; exact h1, List.mem_cons_of_mem _ h2, fun y hy => ?_⟩
      rcases List.mem_cons.mp hy with q | q
      · rw [q]
        exact fun h => h3 z (by simp) (ltP_trans c h)
      · exact h3 y q
    · obtain ⟨r, h1, h2, h3⟩ := minD_P l x
      refine ⟨r, by rw [e, if_neg c]; exact h1, ?_, fun y hy => ?_⟩
      · rcases List.mem_cons.mp h2 with q | q
        · rw [q]; simp
        · exact List.mem_cons_of_mem _ (List.mem_cons_of_mem _ q)
      · rcases List.mem_cons.mp hy with q | q
        · rw [q]; exact h3 x (by simp)
        · rcases List.mem_cons.mp q with q | q
          · rw [q]
            intro h
            by_cases k : ltP x z
            · exact h3 x (by simp) (ltP_trans k h)
            · rw [ltP_tot c k] at h
              exact h3 x (by simp) h
          · exact h3 y (List.mem_cons_of_mem _ q)
theorem alikeB_of {ds : List D} (h : ∀ a ∈ ds, ∀ b ∈ ds, PySem.W.alike a b = true) (hn : ∀ a ∈ ds, a ≠ .none) : alikeB ds = true := by
  unfold alikeB
  rw [Bool.and_eq_true]
  refine ⟨List.all_eq_true.mpr fun d hd => List.all_eq_true.mpr fun e he => h d hd e he, ?_⟩
  rw [List.all_eq_true]
  intro d hd
  have := hn d hd
  cases d <;> first | rfl | exact absurd rfl this
theorem pmin_P {l : List (Nat × List Nat)} {m : M} (ne : l ≠ []) : ∃ r, pMin [.val (.list (l.map encP))] m = some (.val (encP r), m) ∧ r ∈ l ∧ ∀ y ∈ l, ¬ ltP y r := by
  cases l with
  | nil => exact absurd rfl ne
  | cons x l =>
    obtain ⟨r, h1, h2, h3⟩ := minD_P l x
    refine ⟨r, ?_, h2, h3⟩
    have hx : ∀ d ∈ encP x :: l.map encP, ∃ a, d = encP a := fun d hd => by
      rw [← List.map_cons] at hd
      obtain ⟨a, _, rfl⟩ := List.mem_map.mp hd
      exact ⟨a, rfl⟩
    have al : alikeB (encP x :: l.map encP) = true := alikeB_of (fun a ha b hb => by
      obtain ⟨a, rfl⟩ := hx a ha
      obtain ⟨b, rfl⟩ := hx b hb
      exact alike_P) fun a ha => by
      obtain ⟨a, rfl⟩ := hx a ha
      exact fun z => nomatch z
    have sm : smallAll (encP x :: l.map encP) = true := small_of fun d hd => by
      obtain ⟨a, rfl⟩ := hx d hd
      exact Nat.le_trans (depth_P a) (by decide)
    rw [List.map_cons, pmin_1 (d := encP x) (ds := l.map encP) rfl al sm, h1]
theorem pixP0 {p : Nat × List Nat} {m : M} : pIdx (.val (encP p)) (.val (.int 0)) m = some (.val (.int (p.1 : Int)), m) := by
  unfold encP
  rw [pix_t, atI_0]
  rfl
theorem pixP1 {p : Nat × List Nat} {m : M} : pIdx (.val (encP p)) (.val (.int 1)) m = some (.val (encT p.2), m) := by
  unfold encP
  rw [pix_t, atI_1]
  rfl
/-! loops by what holds behind so many turns -/
theorem loop_inv_go {α : Type} {gf : GF} {sf : SF} (enc : α → D) (P : Nat → Sl → M → Prop) (l0 : List α) (h : ∀ j a, l0[j]? = some a → ∀ env m, P j env m → ∃ env1 m1 env2 m2, gf (.val (enc a)) env m = some (env1, m1) ∧ sf env1 m1 = some (.nx env2 m2) ∧ P (j + 1) env2 m2) : ∀ (l : List α) (j : Nat) (env : Sl) (m : M), l0.drop j = l → P j env m →
    ∃ env' m', loopL gf sf (l.map enc) env m = some (.nx env' m') ∧ P (j + l.length) env' m'
  | [], j, env, m, _, hI => ⟨env, m, loop_nil, hI⟩
  | a :: l, j, env, m, hd, hI => by
    have ea : l0[j]? = some a := by
      have := congrArg (·[0]?) hd
      simpa using this
    have h' : l0.drop (j + 1) = l := by
      have := congrArg (List.drop 1) hd
      simpa [List.drop_drop, Nat.add_comm] using this
    obtain ⟨env1, m1, env2, m2, h2, h3, h1⟩ := h j a ea env m hI
    obtain ⟨e', m', i1, i2⟩ := loop_inv_go (gf := gf) (sf := sf) enc P l0 h l (j + 1) env2 m2 h' h1
    refine ⟨e', m', ?_, ?_⟩
    · rw [List.map_cons, step_nx h2 h3]
      exact i1
    · rw [List.length_cons, show j + (l.length + 1) = j + 1 + l.length by omega]
      exact i2
theorem loop_inv {α : Type} {gf : GF} {sf : SF} (enc : α → D) (P : Nat → Sl → M → Prop) (l : List α) (env : Sl) (m : M) (h0 : P 0 env m) (h : ∀ j a, l[j]? = some a → ∀ env m, P j env m → ∃ env1 m1 env2 m2, gf (.val (enc a)) env m = some (env1, m1) ∧ sf env1 m1 = some (.nx env2 m2) ∧ P (j + 1) env2 m2) :
    ∃ env' m', loopL gf sf (l.map enc) env m = some (.nx env' m') ∧ P l.length env' m' := by
  obtain ⟨e', m', h1, h2⟩ := loop_inv_go (gf := gf) (sf := sf) enc P l h l 0 env m rfl h0
  exact ⟨e', m', h1, by rwa [Nat.zero_add] at h2⟩
theorem step_bk {sf : SF} {gf : GF} {d : D} {ds : List D} {env env1 env2 : Sl} {m m1 m2 : M} (hg : gf (.val d) env m = some (env1, m1)) (hb : sf env1 m1 = some (.bk env2 m2)) : loopL gf sf (d :: ds) env m = some (.nx env2 m2) := by
  show ((gf (.val d) env m).bind fun x => (sf x.1 x.2).bind fun fl => aftF fl (loopL gf sf ds)) = _
  rw [hg]
  simp only [Option.bind_some]
  rw [hb]
  rfl
/-- .. where a turn may leave the loop -/
theorem loop_brk_go {α : Type} {gf : GF} {sf : SF} (enc : α → D) (P : Nat → Sl → M → Prop) (Q : Sl → M → Prop) (l0 : List α) (h : ∀ j a, l0[j]? = some a → ∀ env m, P j env m → ∃ env1 m1 env2 m2, gf (.val (enc a)) env m = some (env1, m1) ∧ ((sf env1 m1 = some (.nx env2 m2) ∧ P (j + 1) env2 m2) ∨ (sf env1 m1 = some (.bk env2 m2) ∧ Q env2 m2))) : ∀ (l : List α) (j : Nat) (env : Sl) (m : M), l0.drop j = l → P j env m →
    ∃ env' m', loopL gf sf (l.map enc) env m = some (.nx env' m') ∧ (P (j + l.length) env' m' ∨ Q env' m')
  | [], j, env, m, _, hI => ⟨env, m, loop_nil, .inl hI⟩
  | a :: l, j, env, m, hd, hI => by
    have ea : l0[j]? = some a := by
      have := congrArg (·[0]?) hd
      simpa using this
    have h' : l0.drop (j + 1) = l := by
      have := congrArg (List.drop 1) hd
      simpa [List.drop_drop, Nat.add_comm] using this
    obtain ⟨env1, m1, env2, m2, h2, h3⟩ := h j a ea env m hI
    rcases h3 with ⟨h3, h1⟩ | ⟨h3, h1⟩
    · obtain ⟨e', m', i1, i2⟩ := loop_brk_go (gf := gf) (sf := sf) enc P Q l0 h l (j + 1) env2 m2 h' h1
      refine ⟨e', m', ?_, ?_⟩
      · rw [List.map_cons, step_nx h2 h3]
        exact i1
      · rw [List.length_cons, show j + (l.length + 1) = j + 1 + l.length by omega]
        exact i2
    · exact ⟨env2, m2, by rw [List.map_cons, step_bk h2 h3], .inr h1⟩
theorem loop_brk {α : Type} {gf : GF} {sf : SF} (enc : α → D) (P : Nat → Sl → M → Prop) (Q : Sl → M → Prop) (l : List α) (env : Sl) (m : M) (h0 : P 0 env m) (h : ∀ j a, l[j]? = some a → ∀ env m, P j env m → ∃ env1 m1 env2 m2, gf (.val (enc a)) env m = some (env1, m1) ∧ ((sf env1 m1 = some (.nx env2 m2) ∧ P (j + 1) env2 m2) ∨ (sf env1 m1 = some (.bk env2 m2) ∧ Q env2 m2))) :
    ∃ env' m', loopL gf sf (l.map enc) env m = some (.nx env' m') ∧ (P l.length env' m' ∨ Q env' m') := by
  obtain ⟨e', m', h1, h2⟩ := loop_brk_go (gf := gf) (sf := sf) enc P Q l h l 0 env m rfl h0
  exact ⟨e', m', h1, by rwa [Nat.zero_add] at h2⟩
theorem ev_par3 {i j l : Nat} {fa : AF} {env : Sl} {m : M} : sPar3 i j l fa env m = (fa env m).bind fun x => match x.1 with
  | [a, b, c] => some (.nx (((env.set i (some a)).set j (some b)).set l (some c)) x.2)
  | _ => none := nr rfl
/-! equality of known data -/
structure Lay (d : D) : Prop where
  sh : SeqAt.shaped d = true
theorem shaped_of {d : D} (h1 : PyData.canLay0 d = true) (h2 : d.depth ≤ 64) : SeqAt.shaped d = true := by
  unfold SeqAt.shaped
  rw [h1, decide_eq_true h2]
  rfl
theorem canT (l : List Nat) : PyData.canLay0 (encT l) = true := lay_N l
theorem canTs : ∀ l : List (List Nat), PyData.canLayAll0 (l.map encT) = true
  | [] => rfl
  | a :: l => by
    show (PyData.canLay0 (encT a) && PyData.canLayAll0 (l.map encT)) = true
    rw [canT, canTs l]
    rfl
theorem shT (l : List Nat) : SeqAt.shaped (encT l) = true := shaped_of (canT l) (Nat.le_trans (depth_T l) (by decide))
theorem shLT (l : List (List Nat)) : SeqAt.shaped (.list (l.map encT)) = true := shaped_of (canTs l) (by
  have : PyData.depthAll (l.map encT) ≤ 1 := depth_of fun d hd => by
    obtain ⟨a, _, rfl⟩ := List.mem_map.mp hd
    exact depth_T a
  show PyData.depthAll (l.map encT) + 1 ≤ 64
  omega)
theorem shTT (l : List (List Nat)) : SeqAt.shaped (.tuple (l.map encT)) = true := shaped_of (canTs l) (by
  have : PyData.depthAll (l.map encT) ≤ 1 := depth_of fun d hd => by
    obtain ⟨a, _, rfl⟩ := List.mem_map.mp hd
    exact depth_T a
  show PyData.depthAll (l.map encT) + 1 ≤ 64
  omega)
theorem shP (p : Nat × List Nat) : SeqAt.shaped (encP p) = true := shaped_of (by
  show (PyData.canLay0 (.int (p.1 : Int)) && (PyData.canLay0 (encT p.2) && true)) = true
  rw [canT]
  rfl) (Nat.le_trans (depth_P p) (by decide))
section
variable {m : M} {d e : D}
theorem peq_dd (h1 : SeqAt.shaped d = true) (h2 : SeqAt.shaped e = true) : pEq (.val d) (.val e) m = some (.val (.bool (PyData.eqv d e)), m) := by
  show (if (SeqAt.shaped d && SeqAt.shaped e) = true then some (R.val (.bool (if false then !PyData.eqv d e else PyData.eqv d e)), m) else none) = _
  rw [h1, h2]
  rfl
theorem pne_dd (h1 : SeqAt.shaped d = true) (h2 : SeqAt.shaped e = true) : pNe (.val d) (.val e) m = some (.val (.bool (!PyData.eqv d e)), m) := by
  show (if (SeqAt.shaped d && SeqAt.shaped e) = true then some (R.val (.bool (if true then !PyData.eqv d e else PyData.eqv d e)), m) else none) = _
  rw [h1, h2]
  rfl
end
theorem eqv_P {p q : Nat × List Nat} : PyData.eqv (encP p) (encP q) = decide (p = q) := by
  obtain ⟨i, x⟩ := p
  obtain ⟨j, y⟩ := q
  show (PyData.eqv (.int (i : Int)) (.int (j : Int)) && (PyData.eqv (encT x) (encT y) && true)) = _
  rw [eqv_n, eqv_T]
  by_cases h : i = j <;> by_cases k : x = y <;> simp [h, k]
theorem eqv_TT : ∀ x y : List (List Nat), PyData.eqvAll (x.map encT) (y.map encT) = decide (x = y)
  | [], [] => by simp [PyData.eqvAll]
  | [], b :: y => by simp [PyData.eqvAll]
  | a :: x, [] => by simp [PyData.eqvAll]
  | a :: x, b :: y => by
    show (PyData.eqv (encT a) (encT b) && PyData.eqvAll (x.map encT) (y.map encT)) = _
    rw [eqv_T, eqv_TT x y]
    by_cases h : a = b <;> simp [h]
theorem eqv_LT {x y : List (List Nat)} : PyData.eqv (.list (x.map encT)) (.list (y.map encT)) = decide (x = y) := eqv_TT x y
theorem eqv_LN {x y : List Nat} : PyData.eqv (.list (encI x)) (.list (encI y)) = decide (x = y) := eqvs_T x y
theorem any_TT (a : List Nat) (l : List (List Nat)) : ((l.map encT).any fun z => PyData.eqv z (encT a)) = decide (a ∈ l) := by
  rw [List.any_map]
  induction l with
  | nil => simp
  | cons b l ih =>
    rw [List.any_cons, ih]
    show (PyData.eqv (encT b) (encT a) || decide (a ∈ l)) = _
    rw [eqv_T]
    by_cases h : a = b
    · subst h; simp
    · simp [h, show ¬ b = a from fun z => h z.symm]
section
variable {m : M} {a : List Nat} {l : List (List Nat)} {r : R}
theorem pin_TT (h : asLT r m = some (l.map encT)) : pIn (.val (encT a)) r m = some (.val (.bool (decide (a ∈ l))), m) := by
  show ((asD (.val (encT a)) m).bind fun d => (asLT r m).bind fun es => if (SeqAt.shaped d && PyData.canLayAll0 es) = true then some (R.val (.bool (if false then !(es.any fun z => PyData.eqv z d) else es.any fun z => PyData.eqv z d)), m) else none) = _
  rw [show asD (.val (encT a)) m = some (encT a) from rfl, ob_some, h, ob_some, canTs, shT, any_TT]
  rfl
theorem pnin_TT (h : asLT r m = some (l.map encT)) : pNin (.val (encT a)) r m = some (.val (.bool (!decide (a ∈ l))), m) := by
  show ((asD (.val (encT a)) m).bind fun d => (asLT r m).bind fun es => if (SeqAt.shaped d && PyData.canLayAll0 es) = true then some (R.val (.bool (if true then !(es.any fun z => PyData.eqv z d) else es.any fun z => PyData.eqv z d)), m) else none) = _
  rw [show asD (.val (encT a)) m = some (encT a) from rfl, ob_some, h, ob_some, canTs, shT, any_TT]
  rfl
end
/-- data that all tell lists -/
theorem unmap {α : Type} {enc : α → D} {P : α → Prop} : ∀ {ds : List D}, (∀ d ∈ ds, ∃ a, d = enc a ∧ P a) → ∃ l : List α, ds = l.map enc ∧ ∀ a ∈ l, P a
  | [], _ => ⟨[], rfl, fun a h => by cases h⟩
  | d :: ds, h => by
    obtain ⟨a, rfl, ha⟩ := h d (by simp)
    obtain ⟨l, rfl, hl⟩ := unmap (ds := ds) fun x hx => h x (List.mem_cons_of_mem _ hx)
    exact ⟨a :: l, rfl, fun x hx => by
      rcases List.mem_cons.mp hx with q | q
      · rw [q]; exact ha
      · exact hl x q⟩
theorem sh_P {p : Nat × List Nat} (h : p.1 < 1000000000000000000000000) (k : ∀ a ∈ p.2, a < 1000000000000000000000000) (hl : p.2.length ≤ 1000) : Sh 100000 2 (encP p) := by
  have s1 : Sh 81 0 (.int (p.1 : Int)) := Sh.int (by omega)
  have s2 : Sh 90000 1 (encT p.2) := (Sh.tup (sh_encI k)).up (by omega) (by decide)
  exact (Sh.tup (ShA.cons s1 (ShA.cons s2 ShA.nil))).up (by decide) (by decide)
/-! lists and tuples, values or objects -/
theorem asLT_app {r : R} {m t : M} {ds : List D} (h : asLT r m = some ds) : asLT r (m ++ t) = some ds := by
  cases r with
  | val d => cases d <;> first | exact h | (cases h; done)
  | tp rs => cases h
  | ref k =>
    have e : ∀ mm : M, asLT (.ref k) mm = (mm[k]?).bind fun ob => match ob with
      | .lst ds => some ds
      | .dct _ _ _ => none := fun mm => by
      show (match mm[k]? with
        | some (.lst ds) => some ds
        | _ => none) = _
      cases mm[k]? with
      | none => rfl
      | some o => cases o <;> rfl
    rw [e] at h ⊢
    obtain ⟨ob, h1, h2⟩ := bind_some_iff h
    rw [List.getElem?_append_left (List.getElem?_eq_some_iff.mp h1).1, h1, ob_some]
    exact h2
theorem pidx_L {r : R} {a : Nat} {l : List Nat} {m : M} (h : asL r m = some (encI l)) (ha : a ∈ l) : pIndex r [.val (.int (a : Int))] m = some (.val (.int ((l.idxOf a : Nat) : Int)), m) := by
  show ((asD (.val (.int (a : Int))) m).bind fun d => (asL r m).bind fun ds => if (SeqAt.shaped (.list ds) && SeqAt.shaped d) = true then (firstEq d ds).bind fun j => some (R.val (.int j), m) else none) = _
  have e1 : asD (.val (.int (a : Int))) m = some (.int (a : Int)) := rfl
  have e2 : SeqAt.shaped (.int (a : Int)) = true := rfl
  rw [e1, ob_some, h, ob_some, lay_ints, e2]
  simp only [Bool.and_self, if_true, firstEq_N ha, ob_some]
theorem loop_ref_go {α : Type} {gf : GF} {sf : SF} (enc : α → D) (P : Nat → Sl → M → Prop) (k : Nat) (l0 : List α) (hk : ∀ j env m, P j env m → m[k]? = some (.lst (l0.map enc))) (h : ∀ j a, l0[j]? = some a → ∀ env m, P j env m → ∃ env1 m1 env2 m2, gf (.val (enc a)) env m = some (env1, m1) ∧ sf env1 m1 = some (.nx env2 m2) ∧ P (j + 1) env2 m2) : ∀ (l : List α) (j : Nat) (env : Sl) (m : M), l0.drop j = l → P j env m →
    ∃ env' m', loop (srcR k) gf sf l.length j env m = some (.nx env' m') ∧ P (j + l.length) env' m'
  | [], j, env, m, hd, hI => by
    have e : (l0.map enc)[j]? = none := by rw [List.getElem?_eq_none_iff, List.length_map]; simpa using hd
    exact ⟨env, m, endR (hk j env m hI) e, hI⟩
  | a :: l, j, env, m, hd, hI => by
    have ea : l0[j]? = some a := by
      have := congrArg (·[0]?) hd
      simpa using this
    have h' : l0.drop (j + 1) = l := by
      have := congrArg (List.drop 1) hd
      simpa [List.drop_drop, Nat.add_comm] using this
    have e : (l0.map enc)[j]? = some (enc a) := by rw [List.getElem?_map, ea]; rfl
    obtain ⟨env1, m1, env2, m2, h2, h3, h1⟩ := h j a ea env m hI
    obtain ⟨e', m', i1, i2⟩ := loop_ref_go (gf := gf) (sf := sf) enc P k l0 hk h l (j + 1) env2 m2 h' h1
    refine ⟨e', m', ?_, ?_⟩
    · rw [List.length_cons, stepR_nx (hk j env m hI) e h2 h3]
      exact i1
    · rw [List.length_cons, show j + (l.length + 1) = j + 1 + l.length by omega]
      exact i2
/-- a loop over a list or tuple, be it a value or an object that stays -/
theorem loop_inv_r {α : Type} {gf : GF} {sf : SF} {r : R} (enc : α → D) (P : Nat → Sl → M → Prop) (l : List α) (env : Sl) (m : M) (hr : asLT r m = some (l.map enc)) (hk : ∀ j env m, P j env m → asLT r m = some (l.map enc)) (h0 : P 0 env m) (h : ∀ j a, l[j]? = some a → ∀ env m, P j env m → ∃ env1 m1 env2 m2, gf (.val (enc a)) env m = some (env1, m1) ∧ sf env1 m1 = some (.nx env2 m2) ∧ P (j + 1) env2 m2) :
    ∃ env' m', runI (an1 r m) gf sf env = some (.nx env' m') ∧ P l.length env' m' := by
  cases r with
  | tp rs => cases hr
  | val d =>
    have e : an1 (.val d) m = iL (l.map enc) m := by
      cases d <;> first | (cases hr; done) | (have e2 := Option.some.inj hr; rw [← e2]; rfl)
    rw [e, run_iL]
    exact loop_inv enc P l env m h0 h
  | ref k =>
    have e : ∀ mm : M, asLT (.ref k) mm = some (l.map enc) → mm[k]? = some (.lst (l.map enc)) := fun mm z => by
      have z' : (match mm[k]? with
        | some (.lst ds) => some ds
        | _ => none) = some (l.map enc) := z
      split at z'
      · rename_i ds hd
        cases z'
        exact hd
      · cases z'
    rw [run_ref (e m hr), List.length_map]
    obtain ⟨e', m', h1, h2⟩ := loop_ref_go (gf := gf) (sf := sf) enc P k l (fun j env m p => e m (hk j env m p)) h l 0 env m rfl h0
    exact ⟨e', m', h1, by rwa [Nat.zero_add] at h2⟩
theorem pp_LL {a b : R} {m : M} {xs ys : List D} (ha : asL a m = some xs) (hb : asL b m = some ys) (hl : xs.length + ys.length ≤ 16777216) : pPlus a b m = some (.val (.list (xs ++ ys)), m) := by
  have e0 : pAddN a b m = none := by
    cases a with
    | tp _ => cases ha
    | ref k => rfl
    | val d =>
      cases d <;> first | (cases ha; done) | skip
      cases b with
      | tp _ => cases hb
      | ref k => rfl
      | val e => cases e <;> first | (cases hb; done) | rfl
  show (match pAddN a b m with
    | some x => some x
    | none => pCatLf a b m) = _
  rw [e0]
  show ((asL a m).bind fun xs => (asL b m).bind fun ys => if xs.length + ys.length ≤ sizeLine then some (R.val (.list (xs ++ ys)), m) else none) = _
  rw [ha, ob_some, hb, ob_some, sz, if_pos hl]
end Ev

set_option Elab.async false
set_option linter.all false
/-! Orders and votes, in plain Lean. -/
namespace Nr
def grow (n : Nat) (rows : List (List Nat)) : List (List Nat) := rows.flatMap fun row => ((List.range n).filter fun i => !decide (i ∈ row)).map fun i => row ++ [i]
def rowsN (n : Nat) : Nat → List (List Nat)
  | 0 => [[]]
  | k + 1 => grow n (rowsN n k)
structure Ord (n : Nat) (o : List Nat) : Prop where
  nd : o.Nodup
  len : o.length = n
  lt : ∀ a ∈ o, a < n
theorem mem_grow {n : Nat} {rows : List (List Nat)} {o : List Nat} : o ∈ grow n rows ↔ ∃ row ∈ rows, ∃ i, i < n ∧ i ∉ row ∧ o = row ++ [i] := by
  unfold grow
  simp only [List.mem_flatMap, List.mem_map, List.mem_filter, List.mem_range, Bool.not_eq_true', decide_eq_false_iff_not]
  constructor
  · rintro ⟨row, h, i, ⟨h1, h2⟩, h3⟩
    exact ⟨row, h, i, h1, h2, h3.symm⟩
  · rintro ⟨row, h, i, h1, h2, h3⟩
    exact ⟨row, h, i, ⟨h1, h2⟩, h3.symm⟩
theorem mem_rows {n : Nat} : ∀ {k : Nat} {o : List Nat}, o ∈ rowsN n k ↔ o.Nodup ∧ o.length = k ∧ ∀ a ∈ o, a < n
  | 0, o => by
    unfold rowsN
    simp only [List.mem_singleton]
    constructor
    · rintro rfl
      simp
    · rintro ⟨_, h, _⟩
      exact List.length_eq_zero_iff.mp h
  | k + 1, o => by
    show o ∈ grow n (rowsN n k) ↔ _
    rw [mem_grow]
    constructor
    · rintro ⟨row, h, i, h1, h2, rfl⟩
      obtain ⟨a, b, c⟩ := mem_rows.mp h
      refine ⟨?_, by simp [b], fun x hx => ?_⟩
      · rw [List.nodup_append]
        exact ⟨a, by simp, fun x hx y hy z => h2 (by rw [List.mem_singleton] at hy; rw [← hy, ← z]; exact hx)⟩
      · rcases List.mem_append.mp hx with q | q
        · exact c x q
        · rw [List.mem_singleton.mp q]; exact h1
    · rintro ⟨a, b, c⟩
      have hne : o ≠ [] := fun z => by rw [z] at b; cases b
      have e := List.dropLast_concat_getLast hne
      rw [← e] at a
      rw [List.nodup_append] at a
      refine ⟨o.dropLast, mem_rows.mpr ⟨a.1, by simp [b], fun x hx => c x ((List.dropLast_sublist o).subset hx)⟩, o.getLast hne, c _ (List.getLast_mem hne), fun z => a.2.2 _ z _ (by simp) rfl, e.symm⟩
theorem ord_rows {n : Nat} {o : List Nat} : o ∈ rowsN n n ↔ Ord n o := by
  rw [mem_rows]
  exact ⟨fun ⟨a, b, c⟩ => ⟨a, b, c⟩, fun ⟨a, b, c⟩ => ⟨a, b, c⟩⟩
theorem sub_perm : ∀ {l r : List Nat}, l.Nodup → (∀ a ∈ l, a ∈ r) → ∃ t, r.Perm (l ++ t)
  | [], r, _, _ => ⟨r, List.Perm.refl _⟩
  | a :: l, r, hn, hs => by
    obtain ⟨h1, h2⟩ := List.nodup_cons.mp hn
    have ha := hs a (by simp)
    have p := List.perm_cons_erase ha
    obtain ⟨t, ht⟩ := sub_perm (l := l) (r := r.erase a) h2 fun b hb => by
      have hb' := p.mem_iff.mp (hs b (List.mem_cons_of_mem _ hb))
      exact (List.mem_cons.mp hb').resolve_left fun z => h1 (z ▸ hb)
    exact ⟨t, p.trans (ht.cons a)⟩
theorem Ord.perm {n : Nat} {o : List Nat} (h : Ord n o) : o.Perm (List.range n) := by
  obtain ⟨t, ht⟩ := sub_perm (r := List.range n) h.nd fun a ha => List.mem_range.mpr (h.lt a ha)
  have hl := ht.length_eq
  rw [List.length_append, List.length_range, h.len] at hl
  have : t = [] := List.length_eq_zero_iff.mp (by omega)
  rw [this, List.append_nil] at ht
  exact ht.symm
theorem Ord.mem {n : Nat} {o : List Nat} (h : Ord n o) {a : Nat} : a ∈ o ↔ a < n := by
  rw [h.perm.mem_iff, List.mem_range]
/-! inversions -/
def inv (q : Nat → Nat) : List Nat → Nat
  | [] => 0
  | a :: l => l.countP (fun b => decide (q b < q a)) + inv q l
theorem inv_mid (q : Nat → Nat) (c : Nat) (post : List Nat) : ∀ l : List Nat, inv q (l ++ c :: post) = inv q (l ++ post) + l.countP (fun b => decide (q c < q b)) + post.countP (fun b => decide (q b < q c))
  | [] => by simp [inv]; omega
  | a :: l => by
    have ih := inv_mid q c post l
    simp only [List.cons_append, inv, List.countP_append, List.countP_cons, ih]
    by_cases h : q c < q a <;> simp [h] <;> omega
/-- sums over pairs -/
def S2 (l1 l2 : List Nat) (P : Nat → Nat → Bool) : Nat := (l1.map fun a => l2.countP (P a)).sum
theorem sum_perm {a b : List Nat} (h : a.Perm b) : a.sum = b.sum := by
  induction h with
  | nil => rfl
  | cons x _ ih => simp [ih]
  | swap x y l => simp; omega
  | trans _ _ i j => exact i.trans j
theorem S2_perm {l1 l1' l2 l2' : List Nat} {P : Nat → Nat → Bool} (h1 : l1.Perm l1') (h2 : l2.Perm l2') : S2 l1 l2 P = S2 l1' l2' P := by
  unfold S2
  rw [sum_perm (h1.map fun a => l2.countP (P a))]
  congr 1
  refine List.map_congr_left fun a _ => h2.countP_eq _
theorem S2_nil_r (l1 : List Nat) (P : Nat → Nat → Bool) : S2 l1 [] P = 0 := by
  unfold S2
  induction l1 with
  | nil => rfl
  | cons a l ih => simpa using ih
theorem S2_cons_r (l1 l2 : List Nat) (b : Nat) (P : Nat → Nat → Bool) : S2 l1 (b :: l2) P = l1.countP (fun a => P a b) + S2 l1 l2 P := by
  induction l1 with
  | nil => simp [S2]
  | cons a l ih =>
    have e : ∀ l2, S2 (a :: l) l2 P = l2.countP (P a) + S2 l l2 P := fun l2 => by simp [S2]
    rw [e, e, ih, List.countP_cons, List.countP_cons]
    omega
theorem S2_swap (l1 : List Nat) (P : Nat → Nat → Bool) : ∀ l2 : List Nat, S2 l1 l2 P = S2 l2 l1 (fun b a => P a b)
  | [] => by rw [S2_nil_r]; rfl
  | b :: l2 => by
    rw [S2_cons_r, S2_swap l1 P l2]
    simp [S2]
theorem S2_le {l1 l2 : List Nat} {P Q R : Nat → Nat → Bool} (h : ∀ a ∈ l1, ∀ b ∈ l2, P a b = true → Q a b = true ∨ R a b = true) : S2 l1 l2 P ≤ S2 l1 l2 Q + S2 l1 l2 R := by
  have hc : ∀ a ∈ l1, ∀ l : List Nat, (∀ b ∈ l, b ∈ l2) → l.countP (P a) ≤ l.countP (Q a) + l.countP (R a) := fun a ha l => by
    induction l with
    | nil => intro _; simp
    | cons b l ih =>
      intro hl
      have := ih fun x hx => hl x (List.mem_cons_of_mem _ hx)
      have hb := h a ha b (hl b (by simp))
      rw [List.countP_cons, List.countP_cons, List.countP_cons]
      by_cases hp : P a b = true
      · rcases hb hp with z | z <;> simp [hp, z] <;> omega
      · simp [hp]; omega
  unfold S2
  clear h
  induction l1 with
  | nil => simp
  | cons a l ih =>
    have h1 := hc a (by simp) l2 fun _ hb => hb
    have h2 := ih fun x hx => hc x (List.mem_cons_of_mem _ hx)
    simp only [List.map_cons, List.sum_cons]
    omega
theorem idx_at {pre : List Nat} {a : Nat} {l : List Nat} (h : (pre ++ a :: l).Nodup) : (pre ++ a :: l).idxOf a = pre.length := by
  have h1 : a ∉ pre := fun z => (List.nodup_append.mp h).2.2 a z a (by simp) rfl
  rw [List.idxOf_append, if_neg h1]
  simp
theorem idx_pre {pre l : List Nat} {b : Nat} (h : b ∈ pre) : (pre ++ l).idxOf b < pre.length := by
  rw [List.idxOf_append, if_pos h]
  exact List.idxOf_lt_length_of_mem h
theorem idx_post {pre : List Nat} {a b : Nat} {l : List Nat} (h : (pre ++ a :: l).Nodup) (hb : b ∈ l) : pre.length < (pre ++ a :: l).idxOf b := by
  have h1 : b ∉ pre := fun z => (List.nodup_append.mp h).2.2 b z b (List.mem_cons_of_mem _ hb) rfl
  have h2 : a ≠ b := fun z => by
    have := (List.nodup_cons.mp (List.nodup_append.mp h).2.1).1
    exact this (z ▸ hb)
  rw [List.idxOf_append, if_neg h1, List.idxOf_cons, show (a == b) = false by simpa using h2]
  simp
/-- those behind a -/
theorem cnt_behind {pre : List Nat} {a : Nat} {l : List Nat} (h : (pre ++ a :: l).Nodup) (Q : Nat → Bool) : (pre ++ a :: l).countP (fun b => decide ((pre ++ a :: l).idxOf a < (pre ++ a :: l).idxOf b) && Q b) = l.countP Q := by
  rw [idx_at h, List.countP_append, List.countP_cons]
  have e1 : pre.countP (fun b => decide (pre.length < (pre ++ a :: l).idxOf b) && Q b) = 0 := by
    rw [List.countP_eq_zero]
    intro b hb
    have := idx_pre (l := a :: l) hb
    simp; omega
  have e2 : l.countP (fun b => decide (pre.length < (pre ++ a :: l).idxOf b) && Q b) = l.countP Q := by
    refine List.countP_congr fun b hb => ?_
    have := idx_post h hb
    simp [this]
  rw [e1, e2, idx_at h]
  simp
theorem ap_go (q : Nat → Nat) (one : List Nat) (hn : one.Nodup) : ∀ (l pre : List Nat), one = pre ++ l → (l.map fun a => one.countP (fun b => decide (one.idxOf a < one.idxOf b) && decide (q b < q a))).sum = inv q l
  | [], _, _ => rfl
  | a :: l, pre, h => by
    have ih := ap_go q one hn l (pre ++ [a]) (by simp [h])
    rw [List.map_cons, List.sum_cons, ih]
    show _ = l.countP (fun b => decide (q b < q a)) + inv q l
    congr 1
    subst h
    exact cnt_behind hn _
theorem ap_inv (q : Nat → Nat) {one : List Nat} (hn : one.Nodup) : S2 one one (fun a b => decide (one.idxOf a < one.idxOf b) && decide (q b < q a)) = inv q one := ap_go q one hn one [] rfl
/-- by places: those ahead -/
theorem far_go (q : Nat → Nat) : ∀ (l pre : List Nat), inv q pre + ((l.zipIdx pre.length).map fun p => ((pre ++ l).take p.2).countP (fun x => decide (q p.1 < q x))).sum = inv q (pre ++ l)
  | [], pre => by simp
  | a :: l, pre => by
    have ih := far_go q l (pre ++ [a])
    have e := inv_mid q a [] pre
    simp only [List.append_nil, List.countP_nil, Nat.add_zero] at e
    rw [List.length_append, List.append_assoc] at ih
    simp only [List.length_cons, List.length_nil, List.cons_append, List.nil_append, Nat.zero_add] at ih
    rw [List.zipIdx_cons, List.map_cons, List.sum_cons, ← ih, e]
    rw [List.take_left' rfl]
    dsimp only
    omega
theorem far_inv (q : Nat → Nat) (o : List Nat) : ((o.zipIdx 0).map fun p => (o.take p.2).countP (fun x => decide (q p.1 < q x))).sum = inv q o := by
  have := far_go q o []
  simpa [inv] using this
/-- the distance -/
def dist (o v : List Nat) : Nat := inv v.idxOf o
theorem dist_S2 {n : Nat} {o v : List Nat} (h : Ord n o) : dist o v = S2 (List.range n) (List.range n) (fun a b => decide (o.idxOf a < o.idxOf b) && decide (v.idxOf b < v.idxOf a)) := by
  unfold dist
  rw [← ap_inv v.idxOf h.nd]
  exact S2_perm h.perm h.perm
theorem dist_comm {n : Nat} {o v : List Nat} (h : Ord n o) (k : Ord n v) : dist o v = dist v o := by
  rw [dist_S2 h, dist_S2 k, S2_swap]
  congr 1
  funext a b
  exact Bool.and_comm ..
theorem idx_inj {n : Nat} {o : List Nat} (h : Ord n o) {a b : Nat} (ha : a < n) (hb : b < n) (e : o.idxOf a = o.idxOf b) : a = b := by
  have ea := List.getElem_idxOf (List.idxOf_lt_length_of_mem (h.mem.mpr ha))
  have eb := List.getElem_idxOf (List.idxOf_lt_length_of_mem (h.mem.mpr hb))
  rw [← ea, ← eb]
  simp [e]
theorem dist_tri {n : Nat} {o v w : List Nat} (h : Ord n o) (k : Ord n v) : dist o w ≤ dist o v + dist v w := by
  rw [dist_S2 h, dist_S2 h, dist_S2 k]
  refine S2_le fun a ha b hb p => ?_
  simp only [Bool.and_eq_true, decide_eq_true_eq] at p ⊢
  by_cases c : v.idxOf b < v.idxOf a
  · exact .inl ⟨p.1, c⟩
  · refine .inr ⟨?_, p.2⟩
    have : v.idxOf a ≠ v.idxOf b := fun z => by
      have := idx_inj k (List.mem_range.mp ha) (List.mem_range.mp hb) z
      rw [this] at p
      exact Nat.lt_irrefl _ p.1
    omega
theorem dist_self (o : List Nat) (hn : o.Nodup) : dist o o = 0 := by
  unfold dist
  rw [← ap_inv _ hn]
  unfold S2
  have : (o.map fun a => o.countP (fun b => decide (o.idxOf a < o.idxOf b) && decide (o.idxOf b < o.idxOf a))) = o.map fun _ => 0 := List.map_congr_left fun a _ => by
    rw [List.countP_eq_zero]
    intro b _
    simp
    omega
  rw [this]
  clear this hn
  induction o with
  | nil => rfl
  | cons a l ih => simpa using ih
/-- sums of distances -/
def tot (votes : List (List Nat)) (o : List Nat) : Nat := (votes.map (dist o)).sum
theorem tot_app (v w : List (List Nat)) (o : List Nat) : tot (v ++ w) o = tot v o + tot w o := by simp [tot]
/-- one plan to the front -/
theorem front {pre post : List Nat} {c : Nat} {v : List Nat} : dist (pre ++ c :: post) v + pre.countP (fun b => decide (v.idxOf b < v.idxOf c)) = dist (c :: (pre ++ post)) v + pre.countP (fun b => decide (v.idxOf c < v.idxOf b)) := by
  unfold dist
  rw [inv_mid]
  simp only [inv, List.countP_append]
  omega
theorem swap_step (votes : List (List Nat)) (P : List Nat → Nat → Bool) (b : Nat) (pre : List Nat) : (votes.map fun v => (b :: pre).countP (P v)).sum = votes.countP (fun v => P v b) + (votes.map fun v => pre.countP (P v)).sum := by
  induction votes with
  | nil => rfl
  | cons v l ih =>
    simp only [List.map_cons, List.sum_cons, List.countP_cons] at ih ⊢
    omega
theorem swap_cnt (votes : List (List Nat)) (P : List Nat → Nat → Bool) : ∀ pre : List Nat, (votes.map fun v => pre.countP (P v)).sum = (pre.map fun b => votes.countP fun v => P v b).sum
  | [] => by
    induction votes with
    | nil => rfl
    | cons v l ih => simpa using ih
  | b :: pre => by rw [List.map_cons, List.sum_cons, ← swap_cnt votes P pre, swap_step]
theorem cnt_two (votes : List (List Nat)) (b c : Nat) : votes.countP (fun v => decide (v.idxOf b < v.idxOf c)) + votes.countP (fun v => decide (v.idxOf c < v.idxOf b)) ≤ votes.length := by
  induction votes with
  | nil => simp
  | cons v l ih =>
    simp only [List.countP_cons, List.length_cons]
    by_cases c1 : v.idxOf b < v.idxOf c
    · have c2 : ¬ v.idxOf c < v.idxOf b := by omega
      simp only [c1, c2, decide_true, decide_false, if_true]
      simp only [Bool.false_eq_true, if_false]
      omega
    · simp only [c1, decide_false, Bool.false_eq_true, if_false]
      split <;> omega
theorem tot_front {pre post : List Nat} {c : Nat} : ∀ votes : List (List Nat), tot votes (pre ++ c :: post) + (votes.map fun v => pre.countP (fun b => decide (v.idxOf b < v.idxOf c))).sum = tot votes (c :: (pre ++ post)) + (votes.map fun v => pre.countP (fun b => decide (v.idxOf c < v.idxOf b))).sum
  | [] => rfl
  | v :: l => by
    have ih := tot_front (pre := pre) (post := post) (c := c) l
    have f := front (pre := pre) (post := post) (c := c) (v := v)
    simp only [tot, List.map_cons, List.sum_cons] at ih ⊢
    omega
/-- the plain winner stands first in each of the nearest orders -/
theorem winner {n c : Nat} {votes : List (List Nat)} {o : List Nat} (hv : ∀ v ∈ votes, Ord n v) (ho : Ord n o) (hc : c < n) (hp : ∀ b, b < n → b ≠ c → votes.length < 2 * votes.countP fun v => decide (v.idxOf c < v.idxOf b)) (hm : ∀ x, Ord n x → tot votes o ≤ tot votes x) : o.head? = some c := by
  obtain ⟨pre, post, e⟩ := List.append_of_mem (ho.mem.mpr hc)
  subst e
  cases pre with
  | nil => rfl
  | cons p0 pre0 =>
    exfalso
    have hnd := ho.nd
    have hpm : (c :: ((p0 :: pre0) ++ post)).Perm ((p0 :: pre0) ++ c :: post) := List.perm_middle.symm
    have hx : Ord n (c :: ((p0 :: pre0) ++ post)) := ⟨hpm.nodup_iff.mpr hnd, hpm.length_eq.trans ho.len, fun a ha => ho.lt a (hpm.mem_iff.mp ha)⟩
    have h1 := hm _ hx
    have h2 := tot_front (pre := p0 :: pre0) (post := post) (c := c) votes
    rw [swap_cnt, swap_cnt] at h2
    have key : ∀ l : List Nat, (∀ b ∈ l, b < n ∧ b ≠ c) → (l.map fun b => votes.countP fun v => decide (v.idxOf b < v.idxOf c)).sum + l.length ≤ (l.map fun b => votes.countP fun v => decide (v.idxOf c < v.idxOf b)).sum := fun l => by
      induction l with
      | nil => intro _; simp
      | cons b l ih =>
        intro hl
        have ih := ih fun x hx => hl x (List.mem_cons_of_mem _ hx)
        obtain ⟨hb, hbc⟩ := hl b (by simp)
        have h3 := hp b hb hbc
        have h4 := cnt_two votes b c
        simp only [List.map_cons, List.sum_cons, List.length_cons]
        omega
    have hk := key (p0 :: pre0) fun b hb => ⟨ho.lt b (List.mem_append_left _ hb), fun z => by
      subst z
      exact (List.nodup_append.mp hnd).2.2 b hb b (by simp) rfl⟩
    rw [List.length_cons] at hk
    omega
/-! the first of the least -/
def stepB (f : List Nat → Nat) (best : Option (Nat × List Nat)) (row : List Nat) : Option (Nat × List Nat) := match best with
  | none => some (f row, row)
  | some b => if f row < b.1 then some (f row, row) else some b
theorem first_go (f : List Nat → Nat) : ∀ (l pre : List (List Nat)) (r : List Nat), r ∈ pre → (∀ x ∈ pre, f r ≤ f x) → (pre.filter fun x => decide (f x = f r)).head? = some r →
    ∃ r', l.foldl (stepB f) (some (f r, r)) = some (f r', r') ∧ r' ∈ pre ++ l ∧ (∀ x ∈ pre ++ l, f r' ≤ f x) ∧ ((pre ++ l).filter fun x => decide (f x = f r')).head? = some r'
  | [], pre, r, h1, h2, h3 => ⟨r, rfl, by simpa using h1, by simpa using h2, by simpa using h3⟩
  | a :: l, pre, r, h1, h2, h3 => by
    by_cases c : f a < f r
    · obtain ⟨r', e1, e2, e3, e4⟩ := first_go f l (pre ++ [a]) a (by simp) (fun x hx => by
        rcases List.mem_append.mp hx with q | q
        · exact Nat.le_of_lt (Nat.lt_of_lt_of_le c (h2 x q))
        · rw [List.mem_singleton.mp q]; exact Nat.le_refl _) (by
        have : (pre.filter fun x => decide (f x = f a)) = [] := by
          rw [List.filter_eq_nil_iff]
          intro x hx
          have := h2 x hx
          simp; omega
        rw [List.filter_append, this]
        simp)
      refine ⟨r', ?_, by simpa using e2, by simpa using e3, by simpa using e4⟩
      rw [List.foldl_cons]
      show l.foldl (stepB f) (if f a < f r then some (f a, a) else some (f r, r)) = _
      rw [if_pos c]
      exact e1
    · obtain ⟨r', e1, e2, e3, e4⟩ := first_go f l (pre ++ [a]) r (by simp [h1]) (fun x hx => by
        rcases List.mem_append.mp hx with q | q
        · exact h2 x q
        · rw [List.mem_singleton.mp q]; omega) (by
        rw [List.filter_append]
        cases hf : pre.filter fun x => decide (f x = f r) with
        | nil => rw [hf] at h3; cases h3
        | cons y ys => rw [hf] at h3; exact h3)
      refine ⟨r', ?_, by simpa using e2, by simpa using e3, by simpa using e4⟩
      rw [List.foldl_cons]
      show l.foldl (stepB f) (if f a < f r then some (f a, a) else some (f r, r)) = _
      rw [if_neg c]
      exact e1
theorem first_best (f : List Nat → Nat) {rows : List (List Nat)} (h : rows ≠ []) : ∃ r, rows.foldl (stepB f) none = some (f r, r) ∧ r ∈ rows ∧ (∀ x ∈ rows, f r ≤ f x) ∧ (rows.filter fun x => decide (f x = f r)).head? = some r := by
  cases rows with
  | nil => exact absurd rfl h
  | cons a l =>
    obtain ⟨r', e1, e2, e3, e4⟩ := first_go f l [a] a (by simp) (by simp) (by simp)
    exact ⟨r', e1, e2, e3, e4⟩
/-- the parts' common nearest orders are the whole's -/
theorem parts {rows : List (List Nat)} {f g : List Nat → Nat} {mf mg mh : Nat} (h1 : ∀ x ∈ rows, mf ≤ f x) (h2 : ∀ x ∈ rows, mg ≤ g x) (h3 : ∀ x ∈ rows, mh ≤ f x + g x) (h4 : ∃ x ∈ rows, f x + g x = mh)
    (hb : ∃ x ∈ rows, f x = mf ∧ g x = mg) : (rows.filter fun x => decide (f x + g x = mh)) = rows.filter fun x => decide (f x = mf) && decide (g x = mg) := by
  obtain ⟨x, hx, e1, e2⟩ := hb
  have := h3 x hx
  obtain ⟨y, hy, e3⟩ := h4
  have a1 := h1 y hy
  have a2 := h2 y hy
  refine List.filter_congr fun z hz => ?_
  have b1 := h1 z hz
  have b2 := h2 z hz
  by_cases c : f z = mf ∧ g z = mg
  · rw [decide_eq_true (show f z + g z = mh by omega)]
    simp [c.1, c.2]
  · rw [decide_eq_false (show ¬ (f z + g z = mh) by omega)]
    by_cases d : f z = mf
    · simp [d, show ¬ (g z = mg) from fun e => c ⟨d, e⟩]
    · simp [d]
theorem inv_zero {q : Nat → Nat} : ∀ {l : List Nat}, inv q l = 0 → l.Pairwise fun a b => q a ≤ q b
  | [], _ => .nil
  | a :: l, h => by
    simp only [inv] at h
    have h1 : l.countP (fun b => decide (q b < q a)) = 0 := by omega
    refine .cons (fun b hb => ?_) (inv_zero (by omega))
    have := List.countP_eq_zero.mp h1 b hb
    simp at this
    exact this
theorem dist_zero {n : Nat} {o v : List Nat} (h : Ord n o) (k : Ord n v) (e : dist o v = 0) : o = v := by
  have e2 : dist v v = 0 := dist_self v k.nd
  refine List.Perm.eq_of_pairwise (le := fun a b => v.idxOf a ≤ v.idxOf b) (fun a b ha hb h1 h2 => ?_) (inv_zero e) (inv_zero e2) (h.perm.trans k.perm.symm)
  exact idx_inj k (h.lt a ha) (k.lt b hb) (by omega)
/-- one more, put among the others -/
theorem Ord.insert {j : Nat} {l : List Nat} (h : Ord j l) (i : Nat) : Ord (j + 1) (l.take i ++ [j] ++ l.drop i) := by
  have p : (l.take i ++ [j] ++ l.drop i).Perm (j :: l) := by
    rw [List.append_assoc]
    have := (List.perm_middle (a := j) (l₁ := l.take i) (l₂ := l.drop i))
    rw [List.take_append_drop] at this
    exact this
  refine ⟨p.nodup_iff.mpr (List.nodup_cons.mpr ⟨fun z => Nat.lt_irrefl _ (h.lt j z), h.nd⟩), by rw [p.length_eq, List.length_cons, h.len], fun a ha => ?_⟩
  rcases List.mem_cons.mp (p.mem_iff.mp ha) with q | q
  · omega
  · have := h.lt a q
    omega
end Nr

set_option Elab.async false
set_option linter.all false
/-! Sets of places: covering greedily, in plain Lean. -/
namespace Cv
/-- how many of the places hold -/
def cnt (N : Nat) (c : Nat → Bool) : Nat := (List.range N).countP c
abbrev at_ (S : List (List Nat)) (i : Nat) : List Nat := S.getD i []
def add (S : List (List Nat)) (c : Nat → Bool) (i : Nat) : Nat → Bool := fun x => c x || decide (x ∈ at_ S i)
/-- what the set i adds -/
def gain (N : Nat) (S : List (List Nat)) (c : Nat → Bool) (i : Nat) : Nat := cnt N fun x => decide (x ∈ at_ S i) && !c x
def cov (S : List (List Nat)) (O : List Nat) : Nat → Bool := fun x => O.any fun i => decide (x ∈ at_ S i)
theorem countP_or (l : List Nat) (c d : Nat → Bool) : l.countP (fun x => c x || d x) = l.countP c + l.countP (fun x => d x && !c x) := by
  induction l with
  | nil => rfl
  | cons a l ih =>
    simp only [List.countP_cons, ih]
    cases c a <;> cases d a <;> simp <;> omega
theorem cnt_add (N : Nat) (S : List (List Nat)) (c : Nat → Bool) (i : Nat) : cnt N (add S c i) = cnt N c + gain N S c i := countP_or _ _ _
theorem countP_le {l : List Nat} {c d : Nat → Bool} (h : ∀ x ∈ l, c x = true → d x = true) : l.countP c ≤ l.countP d := List.countP_mono_left h
/-- the sum over O of what each set has of p -/
theorem any_le (N : Nat) (S : List (List Nat)) (p : Nat → Bool) : ∀ O : List Nat, cnt N (fun x => cov S O x && p x) ≤ (O.map fun i => cnt N fun x => decide (x ∈ at_ S i) && p x).sum
  | [] => by simp [cov, cnt]
  | i :: O => by
    have ih := any_le N S p O
    rw [List.map_cons, List.sum_cons]
    have h : cnt N (fun x => cov S (i :: O) x && p x) ≤ cnt N (fun x => decide (x ∈ at_ S i) && p x) + cnt N (fun x => cov S O x && p x) := by
      have e := countP_or (List.range N) (fun x => decide (x ∈ at_ S i) && p x) (fun x => cov S O x && p x)
      have l1 : (List.range N).countP (fun x => (cov S O x && p x) && !(decide (x ∈ at_ S i) && p x)) ≤ (List.range N).countP (fun x => cov S O x && p x) := countP_le fun x _ q => by
        simp only [Bool.and_eq_true] at q ⊢
        exact q.1
      have l2 : (List.range N).countP (fun x => cov S (i :: O) x && p x) ≤ (List.range N).countP (fun x => (decide (x ∈ at_ S i) && p x) || (cov S O x && p x)) := countP_le fun x _ q => by
        unfold cov at q ⊢
        rw [List.any_cons] at q
        simp only [Bool.and_eq_true, Bool.or_eq_true] at q ⊢
        rcases q.1 with z | z
        · exact .inl ⟨z, q.2⟩
        · exact .inr ⟨z, q.2⟩
      unfold cnt
      omega
    omega
theorem sum_le {l : List Nat} {f g : Nat → Nat} (h : ∀ i ∈ l, f i ≤ g i) : (l.map f).sum ≤ (l.map g).sum := by
  induction l with
  | nil => simp
  | cons a l ih =>
    have h1 := h a (by simp)
    have h2 := ih fun x hx => h x (List.mem_cons_of_mem _ hx)
    simp only [List.map_cons, List.sum_cons]
    omega
theorem sum_const {l : List Nat} {f : Nat → Nat} {g : Nat} (h : ∀ i ∈ l, f i ≤ g) : (l.map f).sum ≤ l.length * g := by
  induction l with
  | nil => simp
  | cons a l ih =>
    have h1 := h a (by simp)
    have h2 := ih fun x hx => h x (List.mem_cons_of_mem _ hx)
    simp only [List.map_cons, List.sum_cons, List.length_cons, Nat.succ_mul]
    omega
/-- one more step closes a k-th of what is missing -/
theorem step_bound {N g k : Nat} {S : List (List Nat)} {c : Nat → Bool} {O : List Nat} (hO : O.length ≤ k) (hg : ∀ i ∈ O, gain N S c i ≤ g) : cnt N (cov S O) ≤ cnt N c + k * g := by
  have h1 := any_le N S (fun x => !c x) O
  have h2 : (O.map fun i => cnt N fun x => decide (x ∈ at_ S i) && !c x).sum ≤ O.length * g := sum_const hg
  have h3 : O.length * g ≤ k * g := Nat.mul_le_mul_right g hO
  have h4 : cnt N (cov S O) ≤ cnt N c + cnt N (fun x => cov S O x && !c x) := by
    have e := countP_or (List.range N) c (cov S O)
    have : (List.range N).countP (cov S O) ≤ (List.range N).countP (fun x => c x || cov S O x) := countP_le fun x _ q => by simp [q]
    unfold cnt
    omega
  omega
/-- the greatest gain, and where it stands first -/
def mxl (l : List Nat) : Nat := l.max?.getD 0
def gains (N : Nat) (S : List (List Nat)) (c : Nat → Bool) : List Nat := (List.range S.length).map (gain N S c)
theorem mxl_mem {l : List Nat} (h : l ≠ []) : mxl l ∈ l := by
  unfold mxl
  cases e : l.max? with
  | none => exact absurd (List.max?_eq_none_iff.mp e) h
  | some x => exact List.max?_mem e
theorem le_mxl {l : List Nat} {x : Nat} (h : x ∈ l) : x ≤ mxl l := by
  unfold mxl
  cases e : l.max? with
  | none =>
    have := List.max?_eq_none_iff.mp e
    rw [this] at h
    cases h
  | some y => exact (List.max?_eq_some_iff.mp e).2 x h
/-- taken greedily -/
def grd (N : Nat) (S : List (List Nat)) : Nat → List Nat → List Nat
  | 0, t => t
  | k + 1, t => if mxl (gains N S (cov S t)) = 0 then t else grd N S k (t ++ [(gains N S (cov S t)).idxOf (mxl (gains N S (cov S t)))])
theorem cov_snoc (S : List (List Nat)) (t : List Nat) (i : Nat) : cov S (t ++ [i]) = add S (cov S t) i := by
  funext x
  simp [cov, add, List.any_append]
theorem gain_le_mx {N : Nat} {S : List (List Nat)} {c : Nat → Bool} {i : Nat} (h : i < S.length) : gain N S c i ≤ mxl (gains N S c) := le_mxl (List.mem_map.mpr ⟨i, List.mem_range.mpr h, rfl⟩)
theorem at_mx {N : Nat} {S : List (List Nat)} {c : Nat → Bool} (h : S ≠ []) : (gains N S c).idxOf (mxl (gains N S c)) < S.length ∧ gain N S c ((gains N S c).idxOf (mxl (gains N S c))) = mxl (gains N S c) := by
  have hne : gains N S c ≠ [] := by
    unfold gains
    intro z
    have := congrArg List.length z
    simp at this
    exact h this
  have hm := mxl_mem hne
  have hi := List.idxOf_lt_length_of_mem hm
  have e := List.getElem_idxOf hi
  have g : (gains N S c)[(gains N S c).idxOf (mxl (gains N S c))]? = some (mxl (gains N S c)) := by rw [List.getElem?_eq_getElem hi, e]
  have hl : (gains N S c).length = S.length := by simp [gains]
  generalize (gains N S c).idxOf (mxl (gains N S c)) = i at *
  generalize mxl (gains N S c) = v at *
  have hi2 : i < S.length := by omega
  refine ⟨hi2, ?_⟩
  unfold gains at g
  rw [List.getElem?_map, List.getElem?_range hi2] at g
  exact Option.some.inj g
/-- greedily: at least 1 - (1 - 1 / k) ^ k of the most -/
theorem grd_bound {N : Nat} {S : List (List Nat)} {O : List Nat} {k : Nat} (hS : S ≠ []) (hk : 1 ≤ k) (hO : O.length ≤ k) (hi : ∀ i ∈ O, i < S.length) : ∀ (j : Nat) (t : List Nat),
    (k : Int) ^ j * ((cnt N (cov S O) : Int) - cnt N (cov S (grd N S j t))) ≤ ((k : Int) - 1) ^ j * ((cnt N (cov S O) : Int) - cnt N (cov S t)) ∨ cnt N (cov S O) ≤ cnt N (cov S (grd N S j t))
  | 0, t => .inl (by simp [grd])
  | j + 1, t => by
    have sb := step_bound (N := N) (S := S) (c := cov S t) (g := mxl (gains N S (cov S t))) hO fun i h => gain_le_mx (hi i h)
    unfold grd
    by_cases h0 : mxl (gains N S (cov S t)) = 0
    · rw [if_pos h0]
      right
      rw [h0] at sb
      simpa using sb
    · rw [if_neg h0]
      obtain ⟨a1, a2⟩ := at_mx (N := N) (c := cov S t) hS
      have hc := cnt_add N S (cov S t) ((gains N S (cov S t)).idxOf (mxl (gains N S (cov S t))))
      rw [← cov_snoc, a2] at hc
      rcases grd_bound hS hk hO hi j (t ++ [(gains N S (cov S t)).idxOf (mxl (gains N S (cov S t)))]) with ih | ih
      · left
        rw [hc] at ih
        generalize hT : (cnt N (cov S O) : Int) = T at *
        generalize cnt N (cov S (grd N S j (t ++ [(gains N S (cov S t)).idxOf (mxl (gains N S (cov S t)))]))) = e at *
        generalize hu : cnt N (cov S t) = u at *
        generalize hg : mxl (gains N S (cov S t)) = g at *
        have sb2 : T ≤ (u : Int) + k * g := by rw [← hT]; exact_mod_cast sb
        have h1 : (k : Int) * (T - ((u + g : Nat) : Int)) ≤ ((k : Int) - 1) * (T - u) := by
          push_cast
          have e1 : (k : Int) * (T - ((u : Int) + g)) = k * T - k * u - k * g := by rw [Int.mul_sub, Int.mul_add]; omega
          have e2 : ((k : Int) - 1) * (T - u) = k * T - k * u - (T - u) := by rw [Int.sub_mul, Int.mul_sub, Int.one_mul]
          rw [e1, e2]
          omega
        have p1 : (0 : Int) ≤ ((k : Int) - 1) ^ j := Int.pow_nonneg (by omega)
        calc (k : Int) ^ (j + 1) * (T - (e : Int)) = k * ((k : Int) ^ j * (T - e)) := by rw [Int.pow_succ, Int.mul_comm ((k : Int) ^ j) k, Int.mul_assoc]
          _ ≤ k * (((k : Int) - 1) ^ j * (T - ((u + g : Nat) : Int))) := Int.mul_le_mul_of_nonneg_left ih (by omega)
          _ = ((k : Int) - 1) ^ j * (k * (T - ((u + g : Nat) : Int))) := by rw [← Int.mul_assoc, Int.mul_comm (k : Int), Int.mul_assoc]
          _ ≤ ((k : Int) - 1) ^ j * (((k : Int) - 1) * (T - u)) := Int.mul_le_mul_of_nonneg_left h1 p1
          _ = ((k : Int) - 1) ^ (j + 1) * (T - u) := by rw [Int.pow_succ, Int.mul_assoc]
      · exact .inr ih
/-! in turn until all is covered -/
def fac : Nat → Nat
  | 0 => 1
  | n + 1 => fac n * (n + 1)
theorem fac_pos : ∀ n, 0 < fac n
  | 0 => by decide
  | n + 1 => Nat.mul_pos (fac_pos n) (Nat.succ_pos n)
theorem fac_dvd {g : Nat} (h : 1 ≤ g) : ∀ {n : Nat}, g ≤ n → fac n / g * g = fac n
  | 0, hn => by omega
  | n + 1, hn => by
    refine Nat.div_mul_cancel ?_
    by_cases c : g = n + 1
    · subst c
      exact Nat.dvd_mul_left _ _
    · have := fac_dvd h (n := n) (by omega)
      exact Nat.dvd_trans ⟨fac n / g, by rw [Nat.mul_comm]; exact this.symm⟩ (Nat.dvd_mul_right _ _)
/-- M / 1 + .. + M / r -/
def har (M : Nat) : Nat → Nat
  | 0 => 0
  | r + 1 => har M r + M / (r + 1)
theorem har_mono {M a b : Nat} (h : a ≤ b) : har M a ≤ har M b := by
  induction h with
  | refl => exact Nat.le_refl _
  | step _ ih => exact Nat.le_trans ih (Nat.le_add_right _ _)
theorem har_gap {M g a : Nat} : ∀ {b : Nat}, a ≤ b → b ≤ g → har M a + (b - a) * (M / g) ≤ har M b
  | 0, h, _ => by
    obtain rfl : a = 0 := by omega
    simp
  | b + 1, h, hb => by
    by_cases c : a = b + 1
    · subst c
      simp
    · have ih := har_gap (M := M) (g := g) (a := a) (b := b) (by omega) (by omega)
      have h1 : M / g ≤ M / (b + 1) := Nat.div_le_div_left hb (Nat.succ_pos b)
      have e : b + 1 - a = (b - a) + 1 := by omega
      rw [e, Nat.succ_mul]
      show _ ≤ har M b + M / (b + 1)
      omega
/-- the potential -/
def pot (N M : Nat) (S : List (List Nat)) (O : List Nat) (c : Nat → Bool) : Nat := (O.map fun i => har M (gain N S c i)).sum
theorem gain_anti {N : Nat} {S : List (List Nat)} {c : Nat → Bool} {i j : Nat} : gain N S (add S c j) i + cnt N (fun x => decide (x ∈ at_ S i) && (decide (x ∈ at_ S j) && !c x)) = gain N S c i := by
  unfold gain cnt add
  generalize List.range N = l
  induction l with
  | nil => rfl
  | cons a l ih =>
    simp only [List.countP_cons]
    cases h1 : decide (a ∈ at_ S i) <;> cases h2 : decide (a ∈ at_ S j) <;> cases h3 : c a <;> simp [h1, h2, h3] at ih ⊢ <;> omega
theorem pot_step {N m : Nat} {S : List (List Nat)} {O : List Nat} {c : Nat → Bool} {j : Nat} (hj : 1 ≤ gain N S c j) (hm : gain N S c j ≤ m) (hO : ∀ x, x ∈ at_ S j → x < N → cov S O x = true) (hg : ∀ i ∈ O, gain N S c i ≤ gain N S c j) :
    pot N (fac m) S O (add S c j) + fac m ≤ pot N (fac m) S O c := by
  have h1 := any_le N S (fun x => decide (x ∈ at_ S j) && !c x) O
  have h2 : gain N S c j ≤ cnt N (fun x => cov S O x && (decide (x ∈ at_ S j) && !c x)) := countP_le fun x hx q => by
    have hx' := List.mem_range.mp hx
    simp only [Bool.and_eq_true, decide_eq_true_eq] at q ⊢
    exact ⟨hO x q.1 hx', q⟩
  have h3 : ∀ O : List Nat, (∀ i ∈ O, gain N S c i ≤ gain N S c j) → pot N (fac m) S O (add S c j) + (O.map fun i => cnt N fun x => decide (x ∈ at_ S i) && (decide (x ∈ at_ S j) && !c x)).sum * (fac m / gain N S c j) ≤ pot N (fac m) S O c := fun O => by
    induction O with
    | nil => intro _; simp [pot]
    | cons i O ih =>
      intro hg
      have ih := ih fun x hx => hg x (List.mem_cons_of_mem _ hx)
      have e := gain_anti (N := N) (S := S) (c := c) (i := i) (j := j)
      have k := har_gap (M := fac m) (g := gain N S c j) (a := gain N S (add S c j) i) (b := gain N S c i) (by omega) (hg i (by simp))
      have e2 : gain N S c i - gain N S (add S c j) i = cnt N (fun x => decide (x ∈ at_ S i) && (decide (x ∈ at_ S j) && !c x)) := by omega
      rw [e2] at k
      unfold pot at ih ⊢
      simp only [List.map_cons, List.sum_cons, Nat.add_mul]
      omega
  have h4 := h3 O hg
  have h5 : gain N S c j * (fac m / gain N S c j) ≤ (O.map fun i => cnt N fun x => decide (x ∈ at_ S i) && (decide (x ∈ at_ S j) && !c x)).sum * (fac m / gain N S c j) := Nat.mul_le_mul_right _ (Nat.le_trans h2 h1)
  have h6 := fac_dvd hj hm
  rw [Nat.mul_comm] at h6
  omega
theorem grd_har {N m : Nat} {S : List (List Nat)} {O : List Nat} (hS : S ≠ []) (hm : ∀ s ∈ S, ∀ c : Nat → Bool, cnt N (fun x => decide (x ∈ s) && !c x) ≤ m) (hi : ∀ i ∈ O, i < S.length) (hO : ∀ j x, j < S.length → x ∈ at_ S j → x < N → cov S O x = true) : ∀ (k : Nat) (t : List Nat),
    ((grd N S k t).length - t.length) * fac m + pot N (fac m) S O (cov S (grd N S k t)) ≤ pot N (fac m) S O (cov S t) ∧ t.length ≤ (grd N S k t).length
  | 0, t => by simp [grd]
  | k + 1, t => by
    unfold grd
    by_cases h0 : mxl (gains N S (cov S t)) = 0
    · rw [if_pos h0]
      simp
    · rw [if_neg h0]
      obtain ⟨a1, a2⟩ := at_mx (N := N) (c := cov S t) hS
      obtain ⟨ih, il⟩ := grd_har hS hm hi hO k (t ++ [(gains N S (cov S t)).idxOf (mxl (gains N S (cov S t)))])
      generalize hj : (gains N S (cov S t)).idxOf (mxl (gains N S (cov S t))) = j at *
      have hs : at_ S j ∈ S := by
        unfold at_
        rw [List.getD_eq_getElem?_getD, List.getElem?_eq_getElem a1]
        exact List.getElem_mem a1
      have ps := pot_step (N := N) (m := m) (S := S) (O := O) (c := cov S t) (j := j) (by omega) (hm _ hs _) (fun x hx hN => hO j x a1 hx hN) fun i h => by rw [a2]; exact gain_le_mx (hi i h)
      rw [← cov_snoc] at ps
      rw [List.length_append, List.length_singleton] at ih il
      refine ⟨?_, by omega⟩
      have e : (grd N S k (t ++ [j])).length - t.length = ((grd N S k (t ++ [j])).length - (t.length + 1)) + 1 := by omega
      rw [e, Nat.succ_mul]
      omega
theorem grd_all {N m : Nat} {S : List (List Nat)} {O : List Nat} {k : Nat} (hS : S ≠ []) (hm : ∀ s ∈ S, ∀ c : Nat → Bool, cnt N (fun x => decide (x ∈ s) && !c x) ≤ m) (hi : ∀ i ∈ O, i < S.length) (hO : ∀ j x, j < S.length → x ∈ at_ S j → x < N → cov S O x = true) : (grd N S k []).length * fac m ≤ har (fac m) m * O.length := by
  obtain ⟨h, _⟩ := grd_har hS hm hi hO k []
  have h2 : pot N (fac m) S O (cov S []) ≤ O.length * har (fac m) m := sum_const fun i hi' => har_mono (by
    have hs : at_ S i ∈ S := by
      unfold at_
      rw [List.getD_eq_getElem?_getD, List.getElem?_eq_getElem (hi i hi')]
      exact List.getElem_mem _
    exact hm _ hs _)
  rw [Nat.mul_comm] at h2
  simp at h
  omega
end Cv

set_option Elab.async false
set_option linter.all false
set_option maxRecDepth 100000
set_option maxHeartbeats 0
namespace L35
open PySem PySem.Spec PyProof.Rows L2 Ev
def top (i : Nat) : Stmt := PySem.Challenge.pw_allnights_k35_whole_nearest_orders_and_c.main.body.getD i (.Pass ⟨0, 0, 0, 0⟩)
def fuel : Nat := 1000000
abbrev s__law_cell : Stmt := top 30
abbrev s__law_stream : Stmt := top 31
abbrev s__law_orders : Stmt := top 34
abbrev s__law_apart : Stmt := top 37
abbrev s__law_nearest : Stmt := top 36
abbrev s__law_draw : Stmt := top 32
abbrev s__law_vote : Stmt := top 35
abbrev s_is_integer : Stmt := top 5
abbrev s_is_below : Stmt := top 6
abbrev s_check_order : Stmt := top 14
abbrev s_far : Stmt := top 15
abbrev s_distance : Stmt := top 16
abbrev s_check_votes : Stmt := top 12
abbrev s_nearest : Stmt := top 17
abbrev s__law_votes : Stmt := top 38
abbrev s__law_over : Stmt := top 40
abbrev s_is_set : Stmt := top 8
abbrev s_check_sets : Stmt := top 23
abbrev s_is_between : Stmt := top 7
abbrev s_check_most : Stmt := top 24
abbrev s_covered : Stmt := top 25
abbrev s_greedily : Stmt := top 26
abbrev s__law_sets : Stmt := top 39
abbrev s_sets_of : Stmt := top 19
abbrev s_most_covered_by : Stmt := top 27
abbrev s_fewest_sets : Stmt := top 28
abbrev s__law_covering : Stmt := top 41
abbrev s_law : Stmt := top 42
/-- the code objects of the defs that make lambdas, and their tables -/
structure Cd where
  (c__law_sets P__law_sets : Addr)
def lq (x : Str) : Str := x ++ ".<locals>." ++ "<lambda>"
def zt (C : Cd) : Tbs := [(C.P__law_sets, lq "_law_sets")]
def cst (C : Cd) : List (Addr × Addr × Str) := [(C.c__law_sets, C.P__law_sets, lq "_law_sets")]
structure Tb (base : Heap) (mg : Str → Option Value) (C : Cd) : Prop where
  b__law_sets : LamX.TabB base mg C.c__law_sets C.P__law_sets
structure Txt (K : PySem.W.Frag) (mg : Str → Option Value) (C : Cd) : Prop where
  d__law_cell : HasDef K mg "_law_cell" "_law_cell" s__law_cell ["script", "k"]
  d__law_stream : HasDef K mg "_law_stream" "_law_stream" s__law_stream ["script", "k"]
  d__law_orders : HasDef K mg "_law_orders" "_law_orders" s__law_orders ["n"]
  d__law_apart : HasDef K mg "_law_apart" "_law_apart" s__law_apart ["one", "two"]
  d__law_nearest : HasDef K mg "_law_nearest" "_law_nearest" s__law_nearest ["votes", "n"]
  d__law_draw : HasDef K mg "_law_draw" "_law_draw" s__law_draw ["box", "many"]
  d__law_vote : HasDef K mg "_law_vote" "_law_vote" s__law_vote ["box", "n"]
  d_is_integer : HasDef K mg "is_integer" "is_integer" s_is_integer ["thing"]
  d_is_below : HasDef K mg "is_below" "is_below" s_is_below ["thing", "bound"]
  d_check_order : HasDef K mg "check_order" "check_order" s_check_order ["order"]
  d_far : HasDef K mg "far" "far" s_far ["order", "other"]
  d_distance : HasDef K mg "distance" "distance" s_distance ["order", "other"]
  d_check_votes : HasDef K mg "check_votes" "check_votes" s_check_votes ["votes"]
  d_nearest : HasDef K mg "nearest" "nearest" s_nearest ["votes"]
  d__law_votes : HasDef K mg "_law_votes" "_law_votes" s__law_votes ["box"]
  d__law_over : HasDef K mg "_law_over" "_law_over" s__law_over ["sets", "some"]
  d_is_set : HasDef K mg "is_set" "is_set" s_is_set ["thing", "bound"]
  d_check_sets : HasDef K mg "check_sets" "check_sets" s_check_sets ["sets"]
  d_is_between : HasDef K mg "is_between" "is_between" s_is_between ["thing", "low", "high"]
  d_check_most : HasDef K mg "check_most" "check_most" s_check_most ["k"]
  d_covered : HasDef K mg "covered" "covered" s_covered ["sets", "some"]
  d_greedily : HasDef K mg "greedily" "greedily" s_greedily ["sets", "k"]
  d__law_sets : HasCode K mg "_law_sets" "_law_sets" s__law_sets ["count"] C.c__law_sets
  mem__law_sets : (C.P__law_sets, lq "_law_sets") ∈ zt C
  uniq__law_sets : ∀ p ∈ zt C, p.1 = C.P__law_sets → p.2 = lq "_law_sets"
  d_sets_of : HasDef K mg "sets_of" "sets_of" s_sets_of ["many"]
  d_most_covered_by : HasDef K mg "most_covered_by" "most_covered_by" s_most_covered_by ["sets", "k"]
  d_fewest_sets : HasDef K mg "fewest_sets" "fewest_sets" s_fewest_sets ["sets"]
  d__law_covering : HasDef K mg "_law_covering" "_law_covering" s__law_covering ["box"]
  d_law : HasDef K mg "law" "law" s_law ["script"]
  c_MOST_PLACES : ∃ t, mg "MOST_PLACES" = some (.int 16 t)
  c_MOST_PLANS : ∃ t, mg "MOST_PLANS" = some (.int 5 t)
  c_MOST_SETS : ∃ t, mg "MOST_SETS" = some (.int 10 t)
  c_MOST_VOTES : ∃ t, mg "MOST_VOTES" = some (.int 12 t)
  z_abs : mg "abs" = none
  z_all : mg "all" = none
  z_any : mg "any" = none
  z_bool : mg "bool" = none
  z_enumerate : mg "enumerate" = none
  z_int : mg "int" = none
  z_isinstance : mg "isinstance" = none
  z_len : mg "len" = none
  z_list : mg "list" = none
  z_max : mg "max" = none
  z_min : mg "min" = none
  z_range : mg "range" = none
  z_repr : mg "repr" = none
  z_sorted : mg "sorted" = none
  z_sum : mg "sum" = none
  z_tuple : mg "tuple" = none
section
variable {P : Program} {w : World} {K : PySem.W.Frag} {mg : Str → Option Value} {base : Heap} {C : Cd}
/-! _law_cell(script, k): slots script 0, k 1 -/
def b__law_cell : SF := (sRet (eIf (tOf (eBin pLt (eVar 1) (eAp pLen (aCons (eVar 0) aNil)))) (eAp pInt (aCons (eBin pIdx (eVar 0) (eVar 1)) aNil)) (eC (.int 0))))
def m__law_cell : Fn := bodyF 2 b__law_cell
theorem sc__law_cell : FnScope ["script", "k"] ["script", "k"] (defScope s__law_cell) := ⟨rfl, rfl, rfl, by decide +kernel, rfl, by decide +kernel, by decide +kernel⟩
theorem ok__law_cell (T : Txt K mg C) (B : Tb base mg C) : Okd (zt C) P w K mg base 1 "_law_cell" ["script", "k"] m__law_cell := by
  refine okd (k := 0) T.d__law_cell sc__law_cell rfl fun f cdv A outer s H E hgd hr => ?_
  exact (z_one (s_ret (x_if (y_cmp o_lt (x_var (pv 1)) (x_callB c_len rfl T.z_len bt_len (x_cons (x_var (pv 0)) x_nil)) (nomark _)) (x_callTy c_int rfl T.z_int bt_int (x_cons (x_ix (x_var (pv 0)) (x_var (pv 1))) x_nil)) x_int)))
/-! _law_stream(script, k): slots script 0, k 1 -/
def b__law_stream : SF := (sRet (eNew (nLst (aCons (eAp pAbs (aCons (eAp m__law_cell (aCons (eVar 0) (aCons (eVar 1) aNil))) aNil)) (aCons (eBin pPlus (eBin pMod (eAp pAbs (aCons (eAp m__law_cell (aCons (eVar 0) (aCons (eVar 1) aNil))) aNil)) (eC (.int 1000003))) (eC (.int 7))) aNil)))))
def m__law_stream : Fn := bodyK 2 b__law_stream
theorem sc__law_stream : FnScope ["script", "k"] ["script", "k"] (defScope s__law_stream) := ⟨rfl, rfl, rfl, by decide +kernel, rfl, by decide +kernel, by decide +kernel⟩
theorem ok__law_stream (T : Txt K mg C) (B : Tb base mg C) : Okd (zt C) P w K mg base 2 "_law_stream" ["script", "k"] m__law_stream := by
  refine okdK (k := 1) T.d__law_stream sc__law_stream rfl fun f cdv A outer s H E hgd hr => ?_
  exact (z_one (s_ret (x_new (n_lst (x_cons (x_callB c_abs rfl T.z_abs bt_abs (x_cons (x_callO (ok__law_cell T B) (hr.mono (by decide)) hgd rfl (x_cons (x_var (pv 0)) (x_cons (x_var (pv 1)) x_nil)) (la_cons (la_cons la_nil))) x_nil)) (x_cons (x_bin o_plus (x_bin o_mod (x_callB c_abs rfl T.z_abs bt_abs (x_cons (x_callO (ok__law_cell T B) (hr.mono (by decide)) hgd rfl (x_cons (x_var (pv 0)) (x_cons (x_var (pv 1)) x_nil)) (la_cons (la_cons la_nil))) x_nil)) x_int) x_int) x_nil))))))
/-! _law_orders(n): slots n 0, rows 1, again 2, more 3, row 4, i 5 -/
def e__law_orders1 : EF := (eBin pPlus (eVar 4) (eAp pTup (aCons (eVar 5) aNil)))
def t__law_orders2 : TF := (tOf (eBin pNin (eVar 5) (eVar 4)))
def l__law_orders3 : SF := (sAsg (eBin pPlus (eVar 3) (eL (nComp (itRng1 (aCons (eVar 0) aNil)) (.nm 5) [5] t__law_orders2 e__law_orders1))) (gNm 3))
def l__law_orders4 : SF := (sSeq (sAsg (eL (nLst aNil)) (gNm 3)) (sSeq (sFor (itAny (eVar 1)) (gNm 4) l__law_orders3) (sAsg (eVar 3) (gNm 1))))
def b__law_orders : SF := (sSeq (sAsg (eL (nLst (aCons (eAp pTup aNil) aNil))) (gNm 1)) (sSeq (sFor (itRng1 (aCons (eVar 0) aNil)) (gNm 2) l__law_orders4) (sRet (eAp pSortedA (aCons (eVar 1) aNil)))))
def m__law_orders : Fn := bodyF 6 b__law_orders
theorem sc__law_orders : FnScope ["n", "rows", "again", "more", "row", "i"] ["n"] (defScope s__law_orders) := ⟨rfl, rfl, rfl, by decide +kernel, rfl, by decide +kernel, by decide +kernel⟩
theorem ok__law_orders (T : Txt K mg C) (B : Tb base mg C) : Okd (zt C) P w K mg base 1 "_law_orders" ["n"] m__law_orders := by
  refine okd (k := 0) T.d__law_orders sc__law_orders rfl fun f cdv A outer s H E hgd hr => ?_
  exact (z_cons (s_set (i := 1) sc__law_orders.nd rfl (.inl rfl) (x_ofN (n_lst (x_cons (x_tup x_nil) x_nil))))
    (z_cons (s_for PassesOwn.never rfl (i_range1 rfl T.z_range (x_cons (x_var (pv 0)) x_nil)) (g_name (i := 2) sc__law_orders.nd rfl (.inl rfl))
      (z_cons (s_set (i := 3) sc__law_orders.nd rfl (.inl rfl) (x_ofN (n_lst x_nil)))
      (z_cons (s_for PassesOwn.never rfl (i_any (x_var (pv 1))) (g_name (i := 4) sc__law_orders.nd rfl (.inr rfl))
        (z_one (s_set (i := 3) sc__law_orders.nd rfl (.inl rfl) (x_bin o_plus (x_var (pv 3)) (x_ofN (n_comp (own := [("i", 5)]) rfl sc__law_orders.nd (i_range1 rfl T.z_range (x_cons (x_var (pv 0)) x_nil)) (blkOk_by (N := ["n", "rows", "again", "more", "row", "i"]) (sc := defScope s__law_orders) (by decide +kernel)) rfl (fun _ _ _ _ _ => (p_name (i := 5) sc__law_orders.nd rfl (.inl rfl))) (fun _ _ _ _ _ => (ts_one (y_cmp (o_nin hr) (x_var (pv 5)) (x_var (pv 4)) (by with_unfolding_all rfl)))) (fun _ _ _ _ _ => (x_bin o_plus (x_var (pv 4)) (x_tup (x_cons (x_var (pv 5)) x_nil))))))))))
      (z_one (s_set (i := 1) sc__law_orders.nd rfl (.inl rfl) (x_var (pv 3)))))))
    (z_one (s_ret (x_callB (c_sortedA hr rfl) rfl T.z_sorted bt_sorted (x_cons (x_var (pv 1)) x_nil))))))
/-! _law_apart(one, two): slots one 0, two 1, total 2, a 3, b 4 -/
def e__law_apart1 : EF := (eC (.int 1))
def t__law_apart2 : TF := (tAndF (tOf (eBin pLt (eBMT pIndexT (eVar 0) (aCons (eVar 3) aNil)) (eBMT pIndexT (eVar 0) (aCons (eVar 4) aNil)))) (tOf (eBin pGt (eBMT pIndexT (eVar 1) (aCons (eVar 3) aNil)) (eBMT pIndexT (eVar 1) (aCons (eVar 4) aNil)))))
def l__law_apart3 : SF := (sAsg (eBin pPlus (eVar 2) (eAp pLen (aCons (eL (nComp (itAny (eVar 0)) (.nm 4) [4] t__law_apart2 e__law_apart1)) aNil))) (gNm 2))
def b__law_apart : SF := (sSeq (sAsg (eC (.int 0)) (gNm 2)) (sSeq (sFor (itAny (eVar 0)) (gNm 3) l__law_apart3) (sRet (eVar 2))))
def m__law_apart : Fn := bodyF 5 b__law_apart
theorem sc__law_apart : FnScope ["one", "two", "total", "a", "b"] ["one", "two"] (defScope s__law_apart) := ⟨rfl, rfl, rfl, by decide +kernel, rfl, by decide +kernel, by decide +kernel⟩
theorem ok__law_apart (T : Txt K mg C) (B : Tb base mg C) : Okd (zt C) P w K mg base 1 "_law_apart" ["one", "two"] m__law_apart := by
  refine okd (k := 0) T.d__law_apart sc__law_apart rfl fun f cdv A outer s H E hgd hr => ?_
  exact (z_cons (s_set (i := 2) sc__law_apart.nd rfl (.inl rfl) x_int)
    (z_cons (s_for PassesOwn.never rfl (i_any (x_var (pv 0))) (g_name (i := 3) sc__law_apart.nd rfl (.inr rfl))
      (z_one (s_set (i := 2) sc__law_apart.nd rfl (.inl rfl) (x_bin o_plus (x_var (pv 2)) (x_callB c_len rfl T.z_len bt_len (x_cons (x_ofN (n_comp (own := [("b", 4)]) rfl sc__law_apart.nd (i_any (x_var (pv 0))) (blkOk_by (N := ["one", "two", "total", "a", "b"]) (sc := defScope s__law_apart) (by decide +kernel)) rfl (fun _ _ _ _ _ => (p_name (i := 4) sc__law_apart.nd rfl (.inl rfl))) (fun _ _ _ _ _ => (ts_one (PW.pt (w_and (y_cmp o_lt (x_bmT PySem.F.slot_tuple_index PySem.F.type_tuple_index m_indexT (x_var (pv 0)) (x_cons (x_var (pv 3)) x_nil)) (x_bmT PySem.F.slot_tuple_index PySem.F.type_tuple_index m_indexT (x_var (pv 0)) (x_cons (x_var (pv 4)) x_nil)) (nomark _)) (w_and1 (y_cmp o_gt (x_bmT PySem.F.slot_tuple_index PySem.F.type_tuple_index m_indexT (x_var (pv 1)) (x_cons (x_var (pv 3)) x_nil)) (x_bmT PySem.F.slot_tuple_index PySem.F.type_tuple_index m_indexT (x_var (pv 1)) (x_cons (x_var (pv 4)) x_nil)) (nomark _))))))) (fun _ _ _ _ _ => x_int))) x_nil))))))
    (z_one (s_ret (x_var (pv 2))))))
/-! _law_nearest(votes, n): slots votes 0, n 1, sums 2, order 3, one 4, vote 5 -/
def e__law_nearest1 : EF := (eAp m__law_apart (aCons (eVar 3) (aCons (eVar 5) aNil)))
def e__law_nearest2 : EF := (eAp pTup (aCons (eAp pSum (aCons (eL (nComp (itAny (eVar 0)) (.nm 5) [5] tTrue e__law_nearest1)) aNil)) (aCons (eVar 3) aNil)))
def e__law_nearest3 : EF := (eVar 4)
def t__law_nearest4 : TF := (tOf (eBin pEq (eBin pIdx (eVar 4) (eC (.int 0))) (eBin pIdx (eAp pMin (aCons (eVar 2) aNil)) (eC (.int 0)))))
def b__law_nearest : SF := (sSeq (sAsg (eL (nComp (itAny (eAp m__law_orders (aCons (eVar 1) aNil))) (.nm 3) [3] tTrue e__law_nearest2)) (gNm 2)) (sRet (eL (nComp (itAny (eVar 2)) (.nm 4) [4] t__law_nearest4 e__law_nearest3))))
def m__law_nearest : Fn := bodyF 6 b__law_nearest
theorem sc__law_nearest : FnScope ["votes", "n", "sums", "order", "one", "vote"] ["votes", "n"] (defScope s__law_nearest) := ⟨rfl, rfl, rfl, by decide +kernel, rfl, by decide +kernel, by decide +kernel⟩
theorem ok__law_nearest (T : Txt K mg C) (B : Tb base mg C) : Okd (zt C) P w K mg base 2 "_law_nearest" ["votes", "n"] m__law_nearest := by
  refine okd (k := 1) T.d__law_nearest sc__law_nearest rfl fun f cdv A outer s H E hgd hr => ?_
  exact (z_cons (s_set (i := 2) sc__law_nearest.nd rfl (.inr rfl) (x_ofN (n_comp (own := [("order", 3)]) rfl sc__law_nearest.nd (i_any (x_callO (ok__law_orders T B) (hr.mono (by decide)) hgd rfl (x_cons (x_var (pv 1)) x_nil) (la_cons la_nil))) (blkOk_by (N := ["votes", "n", "sums", "order", "one", "vote"]) (sc := defScope s__law_nearest) (by decide +kernel)) rfl (fun _ _ _ _ _ => (p_name (i := 3) sc__law_nearest.nd rfl (.inr rfl))) (fun _ _ _ _ _ => ts_nil) (fun _ _ _ _ _ => (x_tup (x_cons (x_callB (c_sum rfl) rfl T.z_sum bt_sum (x_cons (x_ofN (n_comp (own := [("vote", 5)]) rfl sc__law_nearest.nd (i_any (x_var (pv 0))) (blkOk_by (by kernel_rfl)) rfl (fun _ _ _ _ _ => (p_name (i := 5) sc__law_nearest.nd rfl (.inl rfl))) (fun _ _ _ _ _ => ts_nil) (fun _ _ _ _ _ => (x_callO (ok__law_apart T B) (hr.mono (by decide)) hgd rfl (x_cons (x_var (pv 3)) (x_cons (x_var (pv 5)) x_nil)) (la_cons (la_cons la_nil)))))) x_nil)) (x_cons (x_var (pv 3)) x_nil)))))))
    (z_one (s_ret (x_ofN (n_comp (own := [("one", 4)]) rfl sc__law_nearest.nd (i_any (x_var (pv 2))) (blkOk_by (N := ["votes", "n", "sums", "order", "one", "vote"]) (sc := defScope s__law_nearest) (by decide +kernel)) rfl (fun _ _ _ _ _ => (p_name (i := 4) sc__law_nearest.nd rfl (.inl rfl))) (fun _ _ _ _ _ => (ts_one (y_cmp (o_eq hr) (x_ix (x_var (pv 4)) x_int) (x_ix (x_callB (c_min rfl hr) rfl T.z_min bt_min (x_cons (x_var (pv 2)) x_nil)) x_int) (nomark _)))) (fun _ _ _ _ _ => (x_var (pv 4))))))))
/-! _law_draw(box, many): slots box 0, many 1, told 2 -/
def b__law_draw : SF := (sSeq (sIf (tOf (eBin pGt (eBin pIdx (eVar 0) (eC (.int 0))) (eC (.int 0)))) (sSeq (sAsg (eBin pMod (eBin pIdx (eVar 0) (eC (.int 0))) (eVar 1)) (gNm 2)) (sSeq (sAsg (eBin pDiv (eBin pIdx (eVar 0) (eC (.int 0))) (eVar 1)) (gSubF pSet (eVar 0) (eC (.int 0)))) (sRet (eAp pInt (aCons (eVar 2) aNil))))) sNext) (sSeq (sAsg (eBin pMod (eAp pInt (aCons (eBin pPlus (eBin pMul (eBin pIdx (eVar 0) (eC (.int 1))) (eC (.int 48271))) (eC (.int 12345))) aNil)) (eC (.int 2147483647))) (gSubF pSet (eVar 0) (eC (.int 1)))) (sRet (eBin pMod (eAp pInt (aCons (eBin pDiv (eBin pIdx (eVar 0) (eC (.int 1))) (eC (.int 64))) aNil)) (eVar 1)))))
def m__law_draw : Fn := bodyF 3 b__law_draw
theorem sc__law_draw : FnScope ["box", "many", "told"] ["box", "many"] (defScope s__law_draw) := ⟨rfl, rfl, rfl, by decide +kernel, rfl, by decide +kernel, by decide +kernel⟩
theorem ok__law_draw (T : Txt K mg C) (B : Tb base mg C) : Okd (zt C) P w K mg base 1 "_law_draw" ["box", "many"] m__law_draw := by
  refine okd (k := 0) T.d__law_draw sc__law_draw rfl fun f cdv A outer s H E hgd hr => ?_
  exact (z_cons (s_if (y_cmp o_gt (x_ix (x_var (pv 0)) x_int) x_int (nomark _)) (z_cons (s_set (i := 2) sc__law_draw.nd rfl (.inl rfl) (x_bin o_mod (x_ix (x_var (pv 0)) x_int) (x_var (pv 1))))
      (z_cons (s_asg (x_bin o_div (x_ix (x_var (pv 0)) x_int) (x_var (pv 1))) (g_sub (x_var (pv 0)) x_int set_ok))
      (z_one (s_ret (x_callTy c_int rfl T.z_int bt_int (x_cons (x_var (pv 2)) x_nil)))))) z_nil)
    (z_cons (s_asg (x_bin o_mod (x_callTy c_int rfl T.z_int bt_int (x_cons (x_bin o_plus (x_bin o_mul (x_ix (x_var (pv 0)) x_int) x_int) x_int) x_nil)) x_int) (g_sub (x_var (pv 0)) x_int set_ok))
    (z_one (s_ret (x_bin o_mod (x_callTy c_int rfl T.z_int bt_int (x_cons (x_bin o_div (x_ix (x_var (pv 0)) x_int) x_int) x_nil)) (x_var (pv 1)))))))
/-! _law_vote(box, n): slots box 0, n 1, row 2, x 3 -/
def l__law_vote1 : SF := (sExpr (eBM pInsert (eVar 2) (aCons (eAp m__law_draw (aCons (eVar 0) (aCons (eBin pPlus (eVar 3) (eC (.int 1))) aNil))) (aCons (eVar 3) aNil))))
def b__law_vote : SF := (sSeq (sAsg (eNew (nLst aNil)) (gNm 2)) (sSeq (sFor (itRng1 (aCons (eVar 1) aNil)) (gNm 3) l__law_vote1) (sRet (eAp pTupleOf (aCons (eVar 2) aNil)))))
def m__law_vote : Fn := bodyF 4 b__law_vote
theorem sc__law_vote : FnScope ["box", "n", "row", "x"] ["box", "n"] (defScope s__law_vote) := ⟨rfl, rfl, rfl, by decide +kernel, rfl, by decide +kernel, by decide +kernel⟩
theorem ok__law_vote (T : Txt K mg C) (B : Tb base mg C) : Okd (zt C) P w K mg base 2 "_law_vote" ["box", "n"] m__law_vote := by
  refine okd (k := 1) T.d__law_vote sc__law_vote rfl fun f cdv A outer s H E hgd hr => ?_
  exact (z_cons (s_set (i := 2) sc__law_vote.nd rfl (.inl rfl) (x_new (n_lst x_nil)))
    (z_cons (s_for PassesOwn.never rfl (i_range1 rfl T.z_range (x_cons (x_var (pv 1)) x_nil)) (g_name (i := 3) sc__law_vote.nd rfl (.inl rfl))
      (z_one (s_expr (x_bm PySem.F.slot_list_insert PySem.F.type_list_insert m_insert (x_var (pv 2)) (x_cons (x_callO (ok__law_draw T B) (hr.mono (by decide)) hgd rfl (x_cons (x_var (pv 0)) (x_cons (x_bin o_plus (x_var (pv 3)) x_int) x_nil)) (la_cons (la_cons la_nil))) (x_cons (x_var (pv 3)) x_nil))))))
    (z_one (s_ret (x_callTy c_tuple rfl T.z_tuple bt_tuple (x_cons (x_var (pv 2)) x_nil))))))
/-! is_integer(thing): slots thing 0 -/
def b_is_integer : SF := (sRet (eOf (tAndF (tOf (eIsA .int (eVar 0))) (tNotF (tOf (eIsA .bool (eVar 0)))))))
def m_is_integer : Fn := bodyF 1 b_is_integer
theorem sc_is_integer : FnScope ["thing"] ["thing"] (defScope s_is_integer) := ⟨rfl, rfl, rfl, by decide +kernel, rfl, by decide +kernel, by decide +kernel⟩
theorem ok_is_integer (T : Txt K mg C) (B : Tb base mg C) : Okd (zt C) P w K mg base 1 "is_integer" ["thing"] m_is_integer := by
  refine okd (k := 0) T.d_is_integer sc_is_integer rfl fun f cdv A outer s H E hgd hr => ?_
  exact (z_one (s_ret (x_and (x_eOf (x_isa .int rfl (x_var (pv 0)) rfl T.z_isinstance rfl T.z_int bt_int)) (x_and1 (x_not (x_eOf (x_isa .bool rfl (x_var (pv 0)) rfl T.z_isinstance rfl T.z_bool bt_bool)))))))
/-! is_below(thing, bound): slots thing 0, bound 1 -/
def b_is_below : SF := (sRet (eOf (tAndF (tOf (eAp m_is_integer (aCons (eVar 0) aNil))) (tOf (eChain pLe pLt (eC (.int 0)) (eVar 0) (eVar 1))))))
def m_is_below : Fn := bodyF 2 b_is_below
theorem sc_is_below : FnScope ["thing", "bound"] ["thing", "bound"] (defScope s_is_below) := ⟨rfl, rfl, rfl, by decide +kernel, rfl, by decide +kernel, by decide +kernel⟩
theorem ok_is_below (T : Txt K mg C) (B : Tb base mg C) : Okd (zt C) P w K mg base 2 "is_below" ["thing", "bound"] m_is_below := by
  refine okd (k := 1) T.d_is_below sc_is_below rfl fun f cdv A outer s H E hgd hr => ?_
  exact (z_one (s_ret (x_and (x_eOf (x_callO (ok_is_integer T B) (hr.mono (by decide)) hgd rfl (x_cons (x_var (pv 0)) x_nil) (la_cons la_nil))) (x_and1 (x_eOf (x_chain o_le o_lt x_int (x_var (pv 0)) (x_var (pv 1))))))))
/-! check_order(order): slots order 0, plan 1 -/
def e_check_order1 : EF := (eAp m_is_below (aCons (eVar 1) (aCons (eAp pLen (aCons (eVar 0) aNil)) aNil)))
def e_check_order2 : EF := (eVar 1)
def e_check_order3 : EF := (eC (.bool true))
def b_check_order : SF := (sSeq (sIf (tOrF (tNotF (tOf (eIsA .tuple (eVar 0)))) (tNotF (tOf (eChain pLe pLe (eC (.int 1)) (eAp pLen (aCons (eVar 0) aNil)) (eC (.int 5)))))) sNever sNext) (sIf (tOrF (tNotF (tOf (eAp pAll (aCons (eL (nComp (itAny (eVar 0)) (.nm 1) [1] tTrue e_check_order1)) aNil)))) (tOf (eBin pLt (eCut (eAp pLenD (aCons (eDc (itAny (eVar 0)) (.nm 1) [1] tTrue e_check_order2 e_check_order3) aNil))) (eAp pLen (aCons (eVar 0) aNil))))) sNever sNext))
def m_check_order : Fn := bodyF 2 b_check_order
theorem sc_check_order : FnScope ["order", "plan"] ["order"] (defScope s_check_order) := ⟨rfl, rfl, rfl, by decide +kernel, rfl, by decide +kernel, by decide +kernel⟩
theorem ok_check_order (T : Txt K mg C) (B : Tb base mg C) : Okd (zt C) P w K mg base 3 "check_order" ["order"] m_check_order := by
  refine okd (k := 2) T.d_check_order sc_check_order rfl fun f cdv A outer s H E hgd hr => ?_
  exact (z_cons (s_if (PW.pt (w_or (y_not (y_val (x_isa .tuple rfl (x_var (pv 0)) rfl T.z_isinstance rfl T.z_tuple bt_tuple))) (w_or1 (y_not (y_chain o_le o_le x_int (x_callB c_len rfl T.z_len bt_len (x_cons (x_var (pv 0)) x_nil)) (x_globI rfl T.c_MOST_PLANS)))))) (z_one s_never) z_nil)
    (z_one (s_if (PW.pt (w_or (y_not (y_val (x_callB (c_all rfl) rfl T.z_all bt_all (x_cons (x_ofN (n_comp (own := [("plan", 1)]) rfl sc_check_order.nd (i_any (x_var (pv 0))) (blkOk_by (N := ["order", "plan"]) (sc := defScope s_check_order) (by decide +kernel)) rfl (fun _ _ _ _ _ => (p_name (i := 1) sc_check_order.nd rfl (.inl rfl))) (fun _ _ _ _ _ => ts_nil) (fun _ _ _ _ _ => (x_callO (ok_is_below T B) (hr.mono (by decide)) hgd rfl (x_cons (x_var (pv 1)) (x_cons (x_callB c_len rfl T.z_len bt_len (x_cons (x_var (pv 0)) x_nil)) x_nil)) (la_cons (la_cons la_nil)))))) x_nil)))) (w_or1 (y_cmp o_lt (x_cut (x_callB c_lenD rfl T.z_len bt_len (x_cons (x_dc (own := [("plan", 1)]) rfl sc_check_order.nd (i_any (x_var (pv 0))) (blkOk_by (N := ["order", "plan"]) (sc := defScope s_check_order) (by decide +kernel)) rfl (fun _ _ _ _ _ => (p_name (i := 1) sc_check_order.nd rfl (.inl rfl))) (fun _ _ _ _ _ => ts_nil) (fun _ _ _ _ _ => (x_var (pv 1))) (fun _ _ _ _ _ => x_bl)) x_nil))) (x_callB c_len rfl T.z_len bt_len (x_cons (x_var (pv 0)) x_nil)) (nomark _))))) (z_one s_never) z_nil)))
/-! far(order, other): slots order 0, other 1, place 2, at 3, plan 4, one 5 -/
def e_far1 : EF := (eVar 4)
def e_far2 : EF := (eVar 3)
def e_far3 : EF := (eC (.int 1))
def i_far4 : IF := (itAny (eSl (eVar 0) oNone (oSome (eVar 3))))
def t_far5 : TF := (tOf (eBin pGt (eBin pDGet (eVar 2) (eVar 5)) (eBin pDGet (eVar 2) (eVar 4))))
def b_far : SF := (sSeq (sAsg (eDc (itEnum (aCons (eVar 1) aNil)) (.tp (.cons (.nm 3) (.cons (.nm 4) .nil))) [3, 4] tTrue e_far1 e_far2) (gNm 2)) (sRet (eAp pLen (aCons (eL (nComp2 (itEnum (aCons (eVar 0) aNil)) (.tp (.cons (.nm 3) (.cons (.nm 4) .nil))) [3, 4, 5] tTrue i_far4 (.nm 5) [5] t_far5 e_far3)) aNil))))
def m_far : Fn := bodyF 6 b_far
theorem sc_far : FnScope ["order", "other", "place", "at", "plan", "one"] ["order", "other"] (defScope s_far) := ⟨rfl, rfl, rfl, by decide +kernel, rfl, by decide +kernel, by decide +kernel⟩
theorem ok_far (T : Txt K mg C) (B : Tb base mg C) : Okd (zt C) P w K mg base 1 "far" ["order", "other"] m_far := by
  refine okd (k := 0) T.d_far sc_far rfl fun f cdv A outer s H E hgd hr => ?_
  exact (z_cons (s_set (i := 2) sc_far.nd rfl (.inr rfl) (x_dc (own := [("at", 3), ("plan", 4)]) rfl sc_far.nd (i_enum rfl T.z_enumerate (x_cons (x_var (pv 1)) x_nil)) (blkOk_by (N := ["order", "other", "place", "at", "plan", "one"]) (sc := defScope s_far) (by decide +kernel)) rfl (fun _ _ _ _ _ => (p_tup rfl (p_cons (p_name (i := 3) sc_far.nd rfl (.inl rfl)) (p_cons (p_name (i := 4) sc_far.nd rfl (.inl rfl)) p_nil)))) (fun _ _ _ _ _ => ts_nil) (fun _ _ _ _ _ => (x_var (pv 4))) (fun _ _ _ _ _ => (x_var (pv 3)))))
    (z_one (s_ret (x_callB c_len rfl T.z_len bt_len (x_cons (x_ofN (n_comp2 (own := [("at", 3), ("plan", 4), ("one", 5)]) (own1 := [("one", 5)]) rfl sc_far.nd (i_enum rfl T.z_enumerate (x_cons (x_var (pv 0)) x_nil)) (blkOk_by (N := ["order", "other", "place", "at", "plan", "one"]) (sc := defScope s_far) (by decide +kernel)) rfl rfl (by decide) (fun _ _ _ _ _ => (p_tup rfl (p_cons (p_name (i := 3) sc_far.nd rfl (.inl rfl)) (p_cons (p_name (i := 4) sc_far.nd rfl (.inl rfl)) p_nil)))) (fun _ _ _ _ _ => ts_nil) (fun _ _ _ _ _ => (i_any (x_sl (x_var (pv 0)) po_n (po_s (x_var (pv 3)))))) (fun _ _ _ _ _ => (p_name (i := 5) sc_far.nd rfl (.inl rfl))) (fun _ _ _ _ _ => (ts_one (y_cmp o_gt (x_dget hr (x_var (pv 2)) (x_var (pv 5))) (x_dget hr (x_var (pv 2)) (x_var (pv 4))) (nomark _)))) (fun _ _ _ _ _ => x_int))) x_nil)))))
/-! distance(order, other): slots order 0, other 1 -/
def b_distance : SF := (sSeq (sExpr (eAp m_check_order (aCons (eVar 0) aNil))) (sSeq (sExpr (eAp m_check_order (aCons (eVar 1) aNil))) (sSeq (sIf (tOf (eBin pNe (eAp pLen (aCons (eVar 0) aNil)) (eAp pLen (aCons (eVar 1) aNil)))) sNever sNext) (sRet (eAp m_far (aCons (eVar 0) (aCons (eVar 1) aNil)))))))
def m_distance : Fn := bodyF 2 b_distance
theorem sc_distance : FnScope ["order", "other"] ["order", "other"] (defScope s_distance) := ⟨rfl, rfl, rfl, by decide +kernel, rfl, by decide +kernel, by decide +kernel⟩
theorem ok_distance (T : Txt K mg C) (B : Tb base mg C) : Okd (zt C) P w K mg base 4 "distance" ["order", "other"] m_distance := by
  refine okd (k := 3) T.d_distance sc_distance rfl fun f cdv A outer s H E hgd hr => ?_
  exact (z_cons (s_expr (x_callO (ok_check_order T B) (hr.mono (by decide)) hgd rfl (x_cons (x_var (pv 0)) x_nil) (la_cons la_nil)))
    (z_cons (s_expr (x_callO (ok_check_order T B) (hr.mono (by decide)) hgd rfl (x_cons (x_var (pv 1)) x_nil) (la_cons la_nil)))
    (z_cons (s_if (y_cmp (o_ne hr) (x_callB c_len rfl T.z_len bt_len (x_cons (x_var (pv 0)) x_nil)) (x_callB c_len rfl T.z_len bt_len (x_cons (x_var (pv 1)) x_nil)) (nomark _)) (z_one s_never) z_nil)
    (z_one (s_ret (x_callO (ok_far T B) (hr.mono (by decide)) hgd rfl (x_cons (x_var (pv 0)) (x_cons (x_var (pv 1)) x_nil)) (la_cons (la_cons la_nil))))))))
/-! check_votes(votes): slots votes 0, vote 1, plan 2 -/
def e_check_votes1 : EF := (eAp m_is_below (aCons (eVar 2) (aCons (eAp pLen (aCons (eVar 1) aNil)) aNil)))
def e_check_votes2 : EF := (eVar 2)
def e_check_votes3 : EF := (eC (.bool true))
def l_check_votes4 : SF := (sSeq (sIf (tOrF (tNotF (tOf (eIsA .tuple (eVar 1)))) (tOrF (tNotF (tOf (eChain pLe pLe (eC (.int 1)) (eAp pLen (aCons (eVar 1) aNil)) (eC (.int 5))))) (tOf (eBin pNe (eAp pLen (aCons (eVar 1) aNil)) (eAp pLen (aCons (eBin pIdx (eVar 0) (eC (.int 0))) aNil)))))) sNever sNext) (sIf (tOrF (tNotF (tOf (eAp pAll (aCons (eL (nComp (itAny (eVar 1)) (.nm 2) [2] tTrue e_check_votes1)) aNil)))) (tOf (eBin pLt (eCut (eAp pLenD (aCons (eDc (itAny (eVar 1)) (.nm 2) [2] tTrue e_check_votes2 e_check_votes3) aNil))) (eAp pLen (aCons (eVar 1) aNil))))) sNever sNext))
def b_check_votes : SF := (sSeq (sIf (tOrF (tNotF (tOf (eIsA .tuple (eVar 0)))) (tNotF (tOf (eChain pLe pLe (eC (.int 1)) (eAp pLen (aCons (eVar 0) aNil)) (eC (.int 12)))))) sNever sNext) (sFor (itAny (eVar 0)) (gNm 1) l_check_votes4))
def m_check_votes : Fn := bodyF 3 b_check_votes
theorem sc_check_votes : FnScope ["votes", "vote", "plan"] ["votes"] (defScope s_check_votes) := ⟨rfl, rfl, rfl, by decide +kernel, rfl, by decide +kernel, by decide +kernel⟩
theorem ok_check_votes (T : Txt K mg C) (B : Tb base mg C) : Okd (zt C) P w K mg base 3 "check_votes" ["votes"] m_check_votes := by
  refine okd (k := 2) T.d_check_votes sc_check_votes rfl fun f cdv A outer s H E hgd hr => ?_
  exact (z_cons (s_if (PW.pt (w_or (y_not (y_val (x_isa .tuple rfl (x_var (pv 0)) rfl T.z_isinstance rfl T.z_tuple bt_tuple))) (w_or1 (y_not (y_chain o_le o_le x_int (x_callB c_len rfl T.z_len bt_len (x_cons (x_var (pv 0)) x_nil)) (x_globI rfl T.c_MOST_VOTES)))))) (z_one s_never) z_nil)
    (z_one (s_for PassesOwn.never rfl (i_any (x_var (pv 0))) (g_name (i := 1) sc_check_votes.nd rfl (.inr rfl))
      (z_cons (s_if (PW.pt (w_or (y_not (y_val (x_isa .tuple rfl (x_var (pv 1)) rfl T.z_isinstance rfl T.z_tuple bt_tuple))) (w_or (y_not (y_chain o_le o_le x_int (x_callB c_len rfl T.z_len bt_len (x_cons (x_var (pv 1)) x_nil)) (x_globI rfl T.c_MOST_PLANS))) (w_or1 (y_cmp (o_ne hr) (x_callB c_len rfl T.z_len bt_len (x_cons (x_var (pv 1)) x_nil)) (x_callB c_len rfl T.z_len bt_len (x_cons (x_ix (x_var (pv 0)) x_int) x_nil)) (nomark _)))))) (z_one s_never) z_nil)
      (z_one (s_if (PW.pt (w_or (y_not (y_val (x_callB (c_all rfl) rfl T.z_all bt_all (x_cons (x_ofN (n_comp (own := [("plan", 2)]) rfl sc_check_votes.nd (i_any (x_var (pv 1))) (blkOk_by (N := ["votes", "vote", "plan"]) (sc := defScope s_check_votes) (by decide +kernel)) rfl (fun _ _ _ _ _ => (p_name (i := 2) sc_check_votes.nd rfl (.inl rfl))) (fun _ _ _ _ _ => ts_nil) (fun _ _ _ _ _ => (x_callO (ok_is_below T B) (hr.mono (by decide)) hgd rfl (x_cons (x_var (pv 2)) (x_cons (x_callB c_len rfl T.z_len bt_len (x_cons (x_var (pv 1)) x_nil)) x_nil)) (la_cons (la_cons la_nil)))))) x_nil)))) (w_or1 (y_cmp o_lt (x_cut (x_callB c_lenD rfl T.z_len bt_len (x_cons (x_dc (own := [("plan", 2)]) rfl sc_check_votes.nd (i_any (x_var (pv 1))) (blkOk_by (N := ["votes", "vote", "plan"]) (sc := defScope s_check_votes) (by decide +kernel)) rfl (fun _ _ _ _ _ => (p_name (i := 2) sc_check_votes.nd rfl (.inl rfl))) (fun _ _ _ _ _ => ts_nil) (fun _ _ _ _ _ => (x_var (pv 2))) (fun _ _ _ _ _ => x_bl)) x_nil))) (x_callB c_len rfl T.z_len bt_len (x_cons (x_var (pv 1)) x_nil)) (nomark _))))) (z_one s_never) z_nil))))))
/-! nearest(votes): slots votes 0, rows 1, _ 2, best 3, row 4, total 5, plan 6, vote 7 -/
def e_nearest1 : EF := (eBin pPlus (eVar 4) (eAp pTup (aCons (eVar 6) aNil)))
def i_nearest2 : IF := (itRng1 (aCons (eAp pLen (aCons (eBin pIdx (eVar 0) (eC (.int 0))) aNil)) aNil))
def t_nearest3 : TF := (tOf (eBin pNin (eVar 6) (eVar 4)))
def l_nearest4 : SF := (sAsg (eL (nComp2 (itAny (eVar 1)) (.nm 4) [4, 6] tTrue i_nearest2 (.nm 6) [6] t_nearest3 e_nearest1)) (gNm 1))
def e_nearest5 : EF := (eAp m_far (aCons (eVar 4) (aCons (eVar 7) aNil)))
def l_nearest6 : SF := (sSeq (sAsg (eAp pSum (aCons (eL (nComp (itAny (eVar 0)) (.nm 7) [7] tTrue e_nearest5)) aNil)) (gNm 5)) (sIf (tOrF (tOf (eBin pIsN (eVar 3) (eC .none))) (tOf (eBin pLt (eVar 5) (eBin pIdx (eVar 3) (eC (.int 0)))))) (sAsg (eAp pTup (aCons (eVar 5) (aCons (eVar 4) aNil))) (gNm 3)) sNext))
def b_nearest : SF := (sSeq (sExpr (eAp m_check_votes (aCons (eVar 0) aNil))) (sSeq (sAsg (eL (nLst (aCons (eAp pTup aNil) aNil))) (gNm 1)) (sSeq (sFor (itAny (eBin pIdx (eVar 0) (eC (.int 0)))) (gNm 2) l_nearest4) (sSeq (sAsg (eC .none) (gNm 3)) (sSeq (sFor (itAny (eVar 1)) (gNm 4) l_nearest6) (sRet (eVar 3)))))))
def m_nearest : Fn := bodyF 8 b_nearest
theorem sc_nearest : FnScope ["votes", "rows", "_", "best", "row", "total", "plan", "vote"] ["votes"] (defScope s_nearest) := ⟨rfl, rfl, rfl, by decide +kernel, rfl, by decide +kernel, by decide +kernel⟩
theorem ok_nearest (T : Txt K mg C) (B : Tb base mg C) : Okd (zt C) P w K mg base 4 "nearest" ["votes"] m_nearest := by
  refine okd (k := 3) T.d_nearest sc_nearest rfl fun f cdv A outer s H E hgd hr => ?_
  exact (z_cons (s_expr (x_callO (ok_check_votes T B) (hr.mono (by decide)) hgd rfl (x_cons (x_var (pv 0)) x_nil) (la_cons la_nil)))
    (z_cons (s_set (i := 1) sc_nearest.nd rfl (.inl rfl) (x_ofN (n_lst (x_cons (x_tup x_nil) x_nil))))
    (z_cons (s_for PassesOwn.never rfl (i_any (x_ix (x_var (pv 0)) x_int)) (g_name (i := 2) sc_nearest.nd rfl (.inl rfl))
      (z_one (s_setC2 (i := 1) (own := [("row", 4), ("plan", 6)]) (own1 := [("plan", 6)]) rfl sc_nearest.nd rfl rfl (sw_true rfl rfl rfl (by decide +kernel)) (i_any (x_var (pv 1))) (blkOk_by (N := ["votes", "rows", "_", "best", "row", "total", "plan", "vote"]) (sc := defScope s_nearest) (by decide +kernel)) rfl rfl (by decide) (fun _ _ _ _ _ => (p_name (i := 4) sc_nearest.nd rfl (.inl rfl))) (fun _ _ _ _ _ => ts_nil) (fun _ _ _ _ _ => (i_range1 rfl T.z_range (x_cons (x_callB c_len rfl T.z_len bt_len (x_cons (x_ix (x_var (pv 0)) x_int) x_nil)) x_nil))) (fun _ _ _ _ _ => (p_name (i := 6) sc_nearest.nd rfl (.inl rfl))) (fun _ _ _ _ _ => (ts_one (y_cmp (o_nin hr) (x_var (pv 6)) (x_var (pv 4)) (by with_unfolding_all rfl)))) (fun _ _ _ _ _ => (x_bin o_plus (x_var (pv 4)) (x_tup (x_cons (x_var (pv 6)) x_nil)))))))
    (z_cons (s_set (i := 3) sc_nearest.nd rfl (.inl rfl) x_non)
    (z_cons (s_for PassesOwn.never rfl (i_any (x_var (pv 1))) (g_name (i := 4) sc_nearest.nd rfl (.inr rfl))
      (z_cons (s_set (i := 5) sc_nearest.nd rfl (.inl rfl) (x_callB (c_sum rfl) rfl T.z_sum bt_sum (x_cons (x_ofN (n_comp (own := [("vote", 7)]) rfl sc_nearest.nd (i_any (x_var (pv 0))) (blkOk_by (N := ["votes", "rows", "_", "best", "row", "total", "plan", "vote"]) (sc := defScope s_nearest) (by decide +kernel)) rfl (fun _ _ _ _ _ => (p_name (i := 7) sc_nearest.nd rfl (.inl rfl))) (fun _ _ _ _ _ => ts_nil) (fun _ _ _ _ _ => (x_callO (ok_far T B) (hr.mono (by decide)) hgd rfl (x_cons (x_var (pv 4)) (x_cons (x_var (pv 7)) x_nil)) (la_cons (la_cons la_nil)))))) x_nil)))
      (z_one (s_if (PW.pt (w_or (y_cmp o_isN (x_var (pv 3)) x_non (nomark _)) (w_or1 (y_cmp o_lt (x_var (pv 5)) (x_ix (x_var (pv 3)) x_int) (nomark _))))) (z_one (s_set (i := 3) sc_nearest.nd rfl (.inl rfl) (x_tup (x_cons (x_var (pv 5)) (x_cons (x_var (pv 4)) x_nil))))) z_nil))))
    (z_one (s_ret (x_var (pv 3)))))))))
/-! _law_votes(box): slots box 0, n 1, votes 2, one 3, two 4, three 5, best 6, plain 7, k 8, first 9, second 10, both 11, a 12, order 13, total 14, b 15, vote 16 -/
def e__law_votes1 : EF := (eAp m__law_vote (aCons (eVar 0) (aCons (eVar 1) aNil)))
def e__law_votes2 : EF := (eC (.int 1))
def t__law_votes3 : TF := (tOf (eBin pLt (eBMT pIndexT (eVar 16) (aCons (eVar 12) aNil)) (eBMT pIndexT (eVar 16) (aCons (eVar 15) aNil))))
def e__law_votes4 : EF := (eOf (tOrF (tOf (eBin pEq (eVar 12) (eVar 15))) (tOf (eBin pGt (eBin pMul (eC (.int 2)) (eAp pLen (aCons (eL (nComp (itAny (eVar 2)) (.nm 16) [16] t__law_votes3 e__law_votes2)) aNil))) (eAp pLen (aCons (eVar 2) aNil))))))
def e__law_votes5 : EF := (eVar 12)
def t__law_votes6 : TF := (tOf (eAp pAll (aCons (eL (nComp (itRng1 (aCons (eVar 1) aNil)) (.nm 15) [15] tTrue e__law_votes4)) aNil)))
def e__law_votes7 : EF := (eBin pNe (eBin pIdx (eVar 13) (eC (.int 0))) (eBin pIdx (eVar 7) (eC (.int 0))))
def e__law_votes8 : EF := (eVar 13)
def e__law_votes9 : EF := (eVar 13)
def e__law_votes10 : EF := (eVar 13)
def t__law_votes11 : TF := (tOf (eBin pIn (eVar 13) (eVar 10)))
def e__law_votes12 : EF := (eVar 13)
def q__law_votes_1 : SF := (sAsg (eBin pPlus (eC (.int 1)) (eAp m__law_draw (aCons (eVar 0) (aCons (eC (.int 4)) aNil)))) (gNm 1))
def q__law_votes_2 : SF := (sAsg (eAp pTupleOf (aCons (eL (nComp (itRng1 (aCons (eBin pPlus (eC (.int 1)) (eAp m__law_draw (aCons (eVar 0) (aCons (eC (.int 5)) aNil)))) aNil)) (.nm 8) [8] tTrue e__law_votes1)) aNil)) (gNm 2))
def q__law_votes_3 : SF := (sPar3 3 4 5 (aCons (eAp m__law_vote (aCons (eVar 0) (aCons (eVar 1) aNil))) (aCons (eAp m__law_vote (aCons (eVar 0) (aCons (eVar 1) aNil))) (aCons (eAp m__law_vote (aCons (eVar 0) (aCons (eVar 1) aNil))) aNil))))
def q__law_votes_4 : SF := (sIf (tOrF (tOf (eBin pNe (eAp m_distance (aCons (eVar 3) (aCons (eVar 4) aNil))) (eAp m__law_apart (aCons (eVar 3) (aCons (eVar 4) aNil))))) (tOrF (tOf (eBin pGt (eAp m_distance (aCons (eVar 3) (aCons (eVar 5) aNil))) (eBin pPlus (eAp m_distance (aCons (eVar 3) (aCons (eVar 4) aNil))) (eAp m_distance (aCons (eVar 4) (aCons (eVar 5) aNil)))))) (tOf (eBin pNe (eAp m_distance (aCons (eVar 4) (aCons (eVar 3) aNil))) (eAp m_distance (aCons (eVar 3) (aCons (eVar 4) aNil))))))) (sRet (eC (.bool false))) sNext)
def q__law_votes_5 : SF := (sAsg (eAp m__law_nearest (aCons (eVar 2) (aCons (eVar 1) aNil))) (gNm 6))
def q__law_votes_6 : SF := (sIf (tOf (eBin pNe (eAp pRepr (aCons (eAp m_nearest (aCons (eVar 2) aNil)) aNil)) (eAp pRepr (aCons (eBin pIdx (eVar 6) (eC (.int 0))) aNil)))) (sRet (eC (.bool false))) sNext)
def q__law_votes_7 : SF := (sAsg (eL (nComp (itRng1 (aCons (eVar 1) aNil)) (.nm 12) [12] t__law_votes6 e__law_votes5)) (gNm 7))
def q__law_votes_8 : SF := (sIf (tAndF (tOf (eBin pNe (eVar 7) (eL (nLst aNil)))) (tOf (eAp pAny (aCons (eL (nComp (itAny (eVar 6)) (.tp (.cons (.nm 14) (.cons (.nm 13) .nil))) [14, 13] tTrue e__law_votes7)) aNil)))) (sRet (eC (.bool false))) sNext)
def q__law_votes_9 : SF := (sIf (tOrF (tOf (eBin pNe (eBin pIdx (eAp m_nearest (aCons (eAp pTup (aCons (eVar 3) (aCons (eVar 3) aNil))) aNil)) (eC (.int 1))) (eVar 3))) (tOf (eBin pNe (eAp m_nearest (aCons (eAp pTup (aCons (eVar 3) aNil)) aNil)) (eAp pTup (aCons (eC (.int 0)) (aCons (eVar 3) aNil)))))) (sRet (eC (.bool false))) sNext)
def q__law_votes_10 : SF := (sAsg (eAp m__law_draw (aCons (eVar 0) (aCons (eAp pLen (aCons (eVar 2) aNil)) aNil))) (gNm 8))
def q__law_votes_11 : SF := (sIf (tOf (eBin pGt (eVar 8) (eC (.int 0)))) (sSeq (sParG [9, 10] (aCons (eL (nComp (itAny (eAp m__law_nearest (aCons (eSl (eVar 2) oNone (oSome (eVar 8))) (aCons (eVar 1) aNil)))) (.tp (.cons (.nm 14) (.cons (.nm 13) .nil))) [14, 13] tTrue e__law_votes9)) (aCons (eL (nComp (itAny (eAp m__law_nearest (aCons (eSl (eVar 2) (oSome (eVar 8)) oNone) (aCons (eVar 1) aNil)))) (.tp (.cons (.nm 14) (.cons (.nm 13) .nil))) [14, 13] tTrue e__law_votes8)) aNil))) (sSeq (sAsg (eL (nComp (itAny (eVar 9)) (.nm 13) [13] t__law_votes11 e__law_votes10)) (gNm 11)) (sIf (tAndF (tOf (eBin pNe (eVar 11) (eL (nLst aNil)))) (tOf (eBin pNe (eAp pSortedA (aCons (eVar 11) aNil)) (eAp pSortedA (aCons (eL (nComp (itAny (eVar 6)) (.tp (.cons (.nm 14) (.cons (.nm 13) .nil))) [14, 13] tTrue e__law_votes12)) aNil))))) (sRet (eC (.bool false))) sNext))) sNext)
def q__law_votes_12 : SF := (sRet (eC (.bool true)))
def z__law_votes_12 : SF := q__law_votes_12
def z__law_votes_11 : SF := sSeq q__law_votes_11 z__law_votes_12
def z__law_votes_10 : SF := sSeq q__law_votes_10 z__law_votes_11
def z__law_votes_9 : SF := sSeq q__law_votes_9 z__law_votes_10
def z__law_votes_8 : SF := sSeq q__law_votes_8 z__law_votes_9
def z__law_votes_7 : SF := sSeq q__law_votes_7 z__law_votes_8
def z__law_votes_6 : SF := sSeq q__law_votes_6 z__law_votes_7
def z__law_votes_5 : SF := sSeq q__law_votes_5 z__law_votes_6
def z__law_votes_4 : SF := sSeq q__law_votes_4 z__law_votes_5
def z__law_votes_3 : SF := sSeq q__law_votes_3 z__law_votes_4
def z__law_votes_2 : SF := sSeq q__law_votes_2 z__law_votes_3
def z__law_votes_1 : SF := sSeq q__law_votes_1 z__law_votes_2
def b__law_votes : SF := z__law_votes_1
def m__law_votes : Fn := bodyF 17 b__law_votes
theorem sc__law_votes : FnScope ["box", "n", "votes", "one", "two", "three", "best", "plain", "k", "first", "second", "both", "a", "order", "total", "b", "vote"] ["box"] (defScope s__law_votes) := ⟨rfl, rfl, rfl, by decide +kernel, rfl, by decide +kernel, by decide +kernel⟩
theorem ok__law_votes (T : Txt K mg C) (B : Tb base mg C) : Okd (zt C) P w K mg base 5 "_law_votes" ["box"] m__law_votes := by
  refine okd (k := 4) T.d__law_votes sc__law_votes rfl fun f cdv A outer s H E hgd hr => ?_
  exact (z_cons (s_set (i := 1) sc__law_votes.nd rfl (.inr rfl) (x_bin o_plus x_int (x_callO (ok__law_draw T B) (hr.mono (by decide)) hgd rfl (x_cons (x_var (pv 0)) (x_cons x_int x_nil)) (la_cons (la_cons la_nil)))))
    (z_cons (s_set (i := 2) sc__law_votes.nd rfl (.inr rfl) (x_callTy c_tuple rfl T.z_tuple bt_tuple (x_cons (x_ofN (n_comp (own := [("k", 8)]) rfl sc__law_votes.nd (i_range1 rfl T.z_range (x_cons (x_bin o_plus x_int (x_callO (ok__law_draw T B) (hr.mono (by decide)) hgd rfl (x_cons (x_var (pv 0)) (x_cons x_int x_nil)) (la_cons (la_cons la_nil)))) x_nil)) (blkOk_by (N := ["box", "n", "votes", "one", "two", "three", "best", "plain", "k", "first", "second", "both", "a", "order", "total", "b", "vote"]) (sc := defScope s__law_votes) (by decide +kernel)) rfl (fun _ _ _ _ _ => (p_name (i := 8) sc__law_votes.nd rfl (.inl rfl))) (fun _ _ _ _ _ => ts_nil) (fun _ _ _ _ _ => (x_callO (ok__law_vote T B) (hr.mono (by decide)) hgd rfl (x_cons (x_var (pv 0)) (x_cons (x_var (pv 1)) x_nil)) (la_cons (la_cons la_nil)))))) x_nil)))
    (z_cons (s_par3 (i := 3) (j := 4) (l := 5) rfl sc__law_votes.nd rfl rfl rfl (by decide) (by decide) (by decide) rfl rfl rfl (x_cons (x_callO (ok__law_vote T B) (hr.mono (by decide)) hgd rfl (x_cons (x_var (pv 0)) (x_cons (x_var (pv 1)) x_nil)) (la_cons (la_cons la_nil))) (x_cons (x_callO (ok__law_vote T B) (hr.mono (by decide)) hgd rfl (x_cons (x_var (pv 0)) (x_cons (x_var (pv 1)) x_nil)) (la_cons (la_cons la_nil))) (x_cons (x_callO (ok__law_vote T B) (hr.mono (by decide)) hgd rfl (x_cons (x_var (pv 0)) (x_cons (x_var (pv 1)) x_nil)) (la_cons (la_cons la_nil))) x_nil))) rfl)
    (z_cons (s_if (PW.pt (w_or (y_cmp (o_ne hr) (x_callO (ok_distance T B) (hr.mono (by decide)) hgd rfl (x_cons (x_var (pv 3)) (x_cons (x_var (pv 4)) x_nil)) (la_cons (la_cons la_nil))) (x_callO (ok__law_apart T B) (hr.mono (by decide)) hgd rfl (x_cons (x_var (pv 3)) (x_cons (x_var (pv 4)) x_nil)) (la_cons (la_cons la_nil))) (nomark _)) (w_or (y_cmp o_gt (x_callO (ok_distance T B) (hr.mono (by decide)) hgd rfl (x_cons (x_var (pv 3)) (x_cons (x_var (pv 5)) x_nil)) (la_cons (la_cons la_nil))) (x_bin o_plus (x_callO (ok_distance T B) (hr.mono (by decide)) hgd rfl (x_cons (x_var (pv 3)) (x_cons (x_var (pv 4)) x_nil)) (la_cons (la_cons la_nil))) (x_callO (ok_distance T B) (hr.mono (by decide)) hgd rfl (x_cons (x_var (pv 4)) (x_cons (x_var (pv 5)) x_nil)) (la_cons (la_cons la_nil)))) (nomark _)) (w_or1 (y_cmp (o_ne hr) (x_callO (ok_distance T B) (hr.mono (by decide)) hgd rfl (x_cons (x_var (pv 4)) (x_cons (x_var (pv 3)) x_nil)) (la_cons (la_cons la_nil))) (x_callO (ok_distance T B) (hr.mono (by decide)) hgd rfl (x_cons (x_var (pv 3)) (x_cons (x_var (pv 4)) x_nil)) (la_cons (la_cons la_nil))) (nomark _)))))) (z_one (s_ret x_bl)) z_nil)
    (z_cons (s_set (i := 6) sc__law_votes.nd rfl (.inl rfl) (x_callO (ok__law_nearest T B) (hr.mono (by decide)) hgd rfl (x_cons (x_var (pv 2)) (x_cons (x_var (pv 1)) x_nil)) (la_cons (la_cons la_nil))))
    (z_cons (s_if (y_cmp (o_ne hr) (x_callB (c_repr hgd hr) rfl T.z_repr bt_repr (x_cons (x_callO (ok_nearest T B) (hr.mono (by decide)) hgd rfl (x_cons (x_var (pv 2)) x_nil) (la_cons la_nil)) x_nil)) (x_callB (c_repr hgd hr) rfl T.z_repr bt_repr (x_cons (x_ix (x_var (pv 6)) x_int) x_nil)) (nomark _)) (z_one (s_ret x_bl)) z_nil)
    (z_cons (s_set (i := 7) sc__law_votes.nd rfl (.inr rfl) (x_ofN (n_comp (own := [("a", 12)]) rfl sc__law_votes.nd (i_range1 rfl T.z_range (x_cons (x_var (pv 1)) x_nil)) (blkOk_by (N := ["box", "n", "votes", "one", "two", "three", "best", "plain", "k", "first", "second", "both", "a", "order", "total", "b", "vote"]) (sc := defScope s__law_votes) (by decide +kernel)) rfl (fun _ _ _ _ _ => (p_name (i := 12) sc__law_votes.nd rfl (.inr rfl))) (fun _ _ _ _ _ => (ts_one (y_val (x_callB (c_all rfl) rfl T.z_all bt_all (x_cons (x_ofN (n_comp (own := [("b", 15)]) rfl sc__law_votes.nd (i_range1 rfl T.z_range (x_cons (x_var (pv 1)) x_nil)) (blkOk_by (by kernel_rfl)) rfl (fun _ _ _ _ _ => (p_name (i := 15) sc__law_votes.nd rfl (.inr rfl))) (fun _ _ _ _ _ => ts_nil) (fun _ _ _ _ _ => (x_or (x_eOf (x_cmp (o_eq hr) (x_var (pv 12)) (x_var (pv 15)) (nomark _))) (x_or1 (x_eOf (x_cmp o_gt (x_bin o_mul x_int (x_callB c_len rfl T.z_len bt_len (x_cons (x_ofN (n_comp (own := [("vote", 16)]) rfl sc__law_votes.nd (i_any (x_var (pv 2))) (blkOk_by (by kernel_rfl)) rfl (fun _ _ _ _ _ => (p_name (i := 16) sc__law_votes.nd rfl (.inl rfl))) (fun _ _ _ _ _ => (ts_one (y_cmp o_lt (x_bmT PySem.F.slot_tuple_index PySem.F.type_tuple_index m_indexT (x_var (pv 16)) (x_cons (x_var (pv 12)) x_nil)) (x_bmT PySem.F.slot_tuple_index PySem.F.type_tuple_index m_indexT (x_var (pv 16)) (x_cons (x_var (pv 15)) x_nil)) (nomark _)))) (fun _ _ _ _ _ => x_int))) x_nil))) (x_callB c_len rfl T.z_len bt_len (x_cons (x_var (pv 2)) x_nil)) (nomark _)))))))) x_nil))))) (fun _ _ _ _ _ => (x_var (pv 12))))))
    (z_cons (s_if (PW.pt (w_and (y_cmp (o_ne hr) (x_var (pv 7)) (x_ofN (n_lst x_nil)) (nomark _)) (w_and1 (y_val (x_callB (c_any rfl) rfl T.z_any bt_any (x_cons (x_ofN (n_comp (own := [("total", 14), ("order", 13)]) rfl sc__law_votes.nd (i_any (x_var (pv 6))) (blkOk_by (N := ["box", "n", "votes", "one", "two", "three", "best", "plain", "k", "first", "second", "both", "a", "order", "total", "b", "vote"]) (sc := defScope s__law_votes) (by decide +kernel)) rfl (fun _ _ _ _ _ => (p_tup rfl (p_cons (p_name (i := 14) sc__law_votes.nd rfl (.inl rfl)) (p_cons (p_name (i := 13) sc__law_votes.nd rfl (.inl rfl)) p_nil)))) (fun _ _ _ _ _ => ts_nil) (fun _ _ _ _ _ => (x_cmp (o_ne hr) (x_ix (x_var (pv 13)) x_int) (x_ix (x_var (pv 7)) x_int) (nomark _))))) x_nil)))))) (z_one (s_ret x_bl)) z_nil)
    (z_cons (s_if (PW.pt (w_or (y_cmp (o_ne hr) (x_ix (x_callO (ok_nearest T B) (hr.mono (by decide)) hgd rfl (x_cons (x_tup (x_cons (x_var (pv 3)) (x_cons (x_var (pv 3)) x_nil))) x_nil) (la_cons la_nil)) x_int) (x_var (pv 3)) (nomark _)) (w_or1 (y_cmp (o_ne hr) (x_callO (ok_nearest T B) (hr.mono (by decide)) hgd rfl (x_cons (x_tup (x_cons (x_var (pv 3)) x_nil)) x_nil) (la_cons la_nil)) (x_tup (x_cons x_int (x_cons (x_var (pv 3)) x_nil))) (nomark _))))) (z_one (s_ret x_bl)) z_nil)
    (z_cons (s_set (i := 8) sc__law_votes.nd rfl (.inl rfl) (x_callO (ok__law_draw T B) (hr.mono (by decide)) hgd rfl (x_cons (x_var (pv 0)) (x_cons (x_callB c_len rfl T.z_len bt_len (x_cons (x_var (pv 2)) x_nil)) x_nil)) (la_cons (la_cons la_nil))))
    (z_cons (s_if (y_cmp o_gt (x_var (pv 8)) x_int (nomark _)) (z_cons (s_parG rfl (x_cons (x_ofN (n_comp (own := [("total", 14), ("order", 13)]) rfl sc__law_votes.nd (i_any (x_callO (ok__law_nearest T B) (hr.mono (by decide)) hgd rfl (x_cons (x_sl (x_var (pv 2)) po_n (po_s (x_var (pv 8)))) (x_cons (x_var (pv 1)) x_nil)) (la_cons (la_cons la_nil)))) (blkOk_by (N := ["box", "n", "votes", "one", "two", "three", "best", "plain", "k", "first", "second", "both", "a", "order", "total", "b", "vote"]) (sc := defScope s__law_votes) (by decide +kernel)) rfl (fun _ _ _ _ _ => (p_tup rfl (p_cons (p_name (i := 14) sc__law_votes.nd rfl (.inl rfl)) (p_cons (p_name (i := 13) sc__law_votes.nd rfl (.inl rfl)) p_nil)))) (fun _ _ _ _ _ => ts_nil) (fun _ _ _ _ _ => (x_var (pv 13))))) (x_cons (x_ofN (n_comp (own := [("total", 14), ("order", 13)]) rfl sc__law_votes.nd (i_any (x_callO (ok__law_nearest T B) (hr.mono (by decide)) hgd rfl (x_cons (x_sl (x_var (pv 2)) (po_s (x_var (pv 8))) po_n) (x_cons (x_var (pv 1)) x_nil)) (la_cons (la_cons la_nil)))) (blkOk_by (N := ["box", "n", "votes", "one", "two", "three", "best", "plain", "k", "first", "second", "both", "a", "order", "total", "b", "vote"]) (sc := defScope s__law_votes) (by decide +kernel)) rfl (fun _ _ _ _ _ => (p_tup rfl (p_cons (p_name (i := 14) sc__law_votes.nd rfl (.inl rfl)) (p_cons (p_name (i := 13) sc__law_votes.nd rfl (.inl rfl)) p_nil)))) (fun _ _ _ _ _ => ts_nil) (fun _ _ _ _ _ => (x_var (pv 13))))) x_nil)) (gn_cons (i := 9) sc__law_votes.nd rfl (.inl rfl) (gn_cons (i := 10) sc__law_votes.nd rfl (.inr rfl) gn_nil)))
      (z_cons (s_setC (i := 11) (own := [("order", 13)]) rfl sc__law_votes.nd rfl rfl (sw_true rfl rfl rfl (by decide +kernel)) (i_any (x_var (pv 9))) (blkOk_by (N := ["box", "n", "votes", "one", "two", "three", "best", "plain", "k", "first", "second", "both", "a", "order", "total", "b", "vote"]) (sc := defScope s__law_votes) (by decide +kernel)) rfl (fun _ _ _ _ _ => (p_name (i := 13) sc__law_votes.nd rfl (.inl rfl))) (fun _ _ _ _ _ => (ts_one (y_cmp (o_in hr) (x_var (pv 13)) (x_var (pv 10)) (by with_unfolding_all rfl)))) (fun _ _ _ _ _ => (x_var (pv 13))))
      (z_one (s_if (PW.pt (w_and (y_cmp (o_ne hr) (x_var (pv 11)) (x_ofN (n_lst x_nil)) (nomark _)) (w_and1 (y_cmp (o_ne hr) (x_callB (c_sortedA hr rfl) rfl T.z_sorted bt_sorted (x_cons (x_var (pv 11)) x_nil)) (x_callB (c_sortedA hr rfl) rfl T.z_sorted bt_sorted (x_cons (x_ofN (n_comp (own := [("total", 14), ("order", 13)]) rfl sc__law_votes.nd (i_any (x_var (pv 6))) (blkOk_by (N := ["box", "n", "votes", "one", "two", "three", "best", "plain", "k", "first", "second", "both", "a", "order", "total", "b", "vote"]) (sc := defScope s__law_votes) (by decide +kernel)) rfl (fun _ _ _ _ _ => (p_tup rfl (p_cons (p_name (i := 14) sc__law_votes.nd rfl (.inl rfl)) (p_cons (p_name (i := 13) sc__law_votes.nd rfl (.inl rfl)) p_nil)))) (fun _ _ _ _ _ => ts_nil) (fun _ _ _ _ _ => (x_var (pv 13))))) x_nil)) (nomark _))))) (z_one (s_ret x_bl)) z_nil)))) z_nil)
    (z_one (s_ret x_bl)))))))))))))
/-! _law_over(sets, some): slots sets 0, some 1, found 2, i 3, x 4 -/
def l__law_over1 : SF := (sAsg (eC (.bool true)) (gSubF pDSet (eVar 2) (eVar 4)))
def l__law_over2 : SF := (sFor (itAny (eBin pIdx (eVar 0) (eVar 3))) (gNm 4) l__law_over1)
def b__law_over : SF := (sSeq (sAsg (eDNew false) (gNm 2)) (sSeq (sFor (itAny (eVar 1)) (gNm 3) l__law_over2) (sRet (eAp pLenD (aCons (eVar 2) aNil)))))
def m__law_over : Fn := bodyF 5 b__law_over
theorem sc__law_over : FnScope ["sets", "some", "found", "i", "x"] ["sets", "some"] (defScope s__law_over) := ⟨rfl, rfl, rfl, by decide +kernel, rfl, by decide +kernel, by decide +kernel⟩
theorem ok__law_over (T : Txt K mg C) (B : Tb base mg C) : Okd (zt C) P w K mg base 1 "_law_over" ["sets", "some"] m__law_over := by
  refine okd (k := 0) T.d__law_over sc__law_over rfl fun f cdv A outer s H E hgd hr => ?_
  exact (z_cons (s_set (i := 2) sc__law_over.nd rfl (.inl rfl) x_dnew)
    (z_cons (s_for PassesOwn.never rfl (i_any (x_var (pv 1))) (g_name (i := 3) sc__law_over.nd rfl (.inl rfl))
      (z_one (s_for PassesOwn.never rfl (i_any (x_ix (x_var (pv 0)) (x_var (pv 3)))) (g_name (i := 4) sc__law_over.nd rfl (.inl rfl))
        (z_one (s_asg x_bl (g_sub (x_var (pv 2)) (x_var (pv 4)) (dset_ok hr)))))))
    (z_one (s_ret (x_callB c_lenD rfl T.z_len bt_len (x_cons (x_var (pv 2)) x_nil))))))
/-! is_set(thing, bound): slots thing 0, bound 1, at 2, item 3 -/
def e_is_set1 : EF := (eAp m_is_below (aCons (eVar 3) (aCons (eVar 1) aNil)))
def e_is_set2 : EF := (eBin pLt (eBin pIdx (eVar 0) (eBin pSub (eVar 2) (eC (.int 1)))) (eBin pIdx (eVar 0) (eVar 2)))
def b_is_set : SF := (sSeq (sIf (tOrF (tNotF (tOf (eIsA .tuple (eVar 0)))) (tNotF (tOf (eAp pAll (aCons (eL (nComp (itAny (eVar 0)) (.nm 3) [3] tTrue e_is_set1)) aNil))))) (sRet (eC (.bool false))) sNext) (sRet (eAp pAll (aCons (eL (nComp (itRng2 (aCons (eC (.int 1)) (aCons (eAp pLen (aCons (eVar 0) aNil)) aNil))) (.nm 2) [2] tTrue e_is_set2)) aNil))))
def m_is_set : Fn := bodyF 4 b_is_set
theorem sc_is_set : FnScope ["thing", "bound", "at", "item"] ["thing", "bound"] (defScope s_is_set) := ⟨rfl, rfl, rfl, by decide +kernel, rfl, by decide +kernel, by decide +kernel⟩
theorem ok_is_set (T : Txt K mg C) (B : Tb base mg C) : Okd (zt C) P w K mg base 3 "is_set" ["thing", "bound"] m_is_set := by
  refine okd (k := 2) T.d_is_set sc_is_set rfl fun f cdv A outer s H E hgd hr => ?_
  exact (z_cons (s_if (PW.pt (w_or (y_not (y_val (x_isa .tuple rfl (x_var (pv 0)) rfl T.z_isinstance rfl T.z_tuple bt_tuple))) (w_or1 (y_not (y_val (x_callB (c_all rfl) rfl T.z_all bt_all (x_cons (x_ofN (n_comp (own := [("item", 3)]) rfl sc_is_set.nd (i_any (x_var (pv 0))) (blkOk_by (N := ["thing", "bound", "at", "item"]) (sc := defScope s_is_set) (by decide +kernel)) rfl (fun _ _ _ _ _ => (p_name (i := 3) sc_is_set.nd rfl (.inl rfl))) (fun _ _ _ _ _ => ts_nil) (fun _ _ _ _ _ => (x_callO (ok_is_below T B) (hr.mono (by decide)) hgd rfl (x_cons (x_var (pv 3)) (x_cons (x_var (pv 1)) x_nil)) (la_cons (la_cons la_nil)))))) x_nil))))))) (z_one (s_ret x_bl)) z_nil)
    (z_one (s_ret (x_callB (c_all rfl) rfl T.z_all bt_all (x_cons (x_ofN (n_comp (own := [("at", 2)]) rfl sc_is_set.nd (i_range2 rfl T.z_range (x_cons x_int (x_cons (x_callB c_len rfl T.z_len bt_len (x_cons (x_var (pv 0)) x_nil)) x_nil))) (blkOk_by (N := ["thing", "bound", "at", "item"]) (sc := defScope s_is_set) (by decide +kernel)) rfl (fun _ _ _ _ _ => (p_name (i := 2) sc_is_set.nd rfl (.inl rfl))) (fun _ _ _ _ _ => ts_nil) (fun _ _ _ _ _ => (x_cmp o_lt (x_ix (x_var (pv 0)) (x_bin o_sub (x_var (pv 2)) x_int)) (x_ix (x_var (pv 0)) (x_var (pv 2))) (nomark _))))) x_nil)))))
/-! check_sets(sets): slots sets 0, some 1 -/
def e_check_sets1 : EF := (eAp m_is_set (aCons (eVar 1) (aCons (eC (.int 16)) aNil)))
def b_check_sets : SF := (sSeq (sIf (tOrF (tNotF (tOf (eIsA .tuple (eVar 0)))) (tNotF (tOf (eChain pLe pLe (eC (.int 1)) (eAp pLen (aCons (eVar 0) aNil)) (eC (.int 10)))))) sNever sNext) (sIf (tNotF (tOf (eAp pAll (aCons (eL (nComp (itAny (eVar 0)) (.nm 1) [1] tTrue e_check_sets1)) aNil)))) sNever sNext))
def m_check_sets : Fn := bodyF 2 b_check_sets
theorem sc_check_sets : FnScope ["sets", "some"] ["sets"] (defScope s_check_sets) := ⟨rfl, rfl, rfl, by decide +kernel, rfl, by decide +kernel, by decide +kernel⟩
theorem ok_check_sets (T : Txt K mg C) (B : Tb base mg C) : Okd (zt C) P w K mg base 4 "check_sets" ["sets"] m_check_sets := by
  refine okd (k := 3) T.d_check_sets sc_check_sets rfl fun f cdv A outer s H E hgd hr => ?_
  exact (z_cons (s_if (PW.pt (w_or (y_not (y_val (x_isa .tuple rfl (x_var (pv 0)) rfl T.z_isinstance rfl T.z_tuple bt_tuple))) (w_or1 (y_not (y_chain o_le o_le x_int (x_callB c_len rfl T.z_len bt_len (x_cons (x_var (pv 0)) x_nil)) (x_globI rfl T.c_MOST_SETS)))))) (z_one s_never) z_nil)
    (z_one (s_if (y_not (y_val (x_callB (c_all rfl) rfl T.z_all bt_all (x_cons (x_ofN (n_comp (own := [("some", 1)]) rfl sc_check_sets.nd (i_any (x_var (pv 0))) (blkOk_by (N := ["sets", "some"]) (sc := defScope s_check_sets) (by decide +kernel)) rfl (fun _ _ _ _ _ => (p_name (i := 1) sc_check_sets.nd rfl (.inl rfl))) (fun _ _ _ _ _ => ts_nil) (fun _ _ _ _ _ => (x_callO (ok_is_set T B) (hr.mono (by decide)) hgd rfl (x_cons (x_var (pv 1)) (x_cons (x_globI rfl T.c_MOST_PLACES) x_nil)) (la_cons (la_cons la_nil)))))) x_nil)))) (z_one s_never) z_nil)))
/-! is_between(thing, low, high): slots thing 0, low 1, high 2 -/
def b_is_between : SF := (sRet (eOf (tAndF (tOf (eAp m_is_integer (aCons (eVar 0) aNil))) (tOf (eChain pLe pLe (eVar 1) (eVar 0) (eVar 2))))))
def m_is_between : Fn := bodyF 3 b_is_between
theorem sc_is_between : FnScope ["thing", "low", "high"] ["thing", "low", "high"] (defScope s_is_between) := ⟨rfl, rfl, rfl, by decide +kernel, rfl, by decide +kernel, by decide +kernel⟩
theorem ok_is_between (T : Txt K mg C) (B : Tb base mg C) : Okd (zt C) P w K mg base 2 "is_between" ["thing", "low", "high"] m_is_between := by
  refine okd (k := 1) T.d_is_between sc_is_between rfl fun f cdv A outer s H E hgd hr => ?_
  exact (z_one (s_ret (x_and (x_eOf (x_callO (ok_is_integer T B) (hr.mono (by decide)) hgd rfl (x_cons (x_var (pv 0)) x_nil) (la_cons la_nil))) (x_and1 (x_eOf (x_chain o_le o_le (x_var (pv 1)) (x_var (pv 0)) (x_var (pv 2))))))))
/-! check_most(k): slots k 0 -/
def b_check_most : SF := (sIf (tNotF (tOf (eAp m_is_between (aCons (eVar 0) (aCons (eC (.int 1)) (aCons (eC (.int 10)) aNil)))))) sNever sNext)
def m_check_most : Fn := bodyF 1 b_check_most
theorem sc_check_most : FnScope ["k"] ["k"] (defScope s_check_most) := ⟨rfl, rfl, rfl, by decide +kernel, rfl, by decide +kernel, by decide +kernel⟩
theorem ok_check_most (T : Txt K mg C) (B : Tb base mg C) : Okd (zt C) P w K mg base 3 "check_most" ["k"] m_check_most := by
  refine okd (k := 2) T.d_check_most sc_check_most rfl fun f cdv A outer s H E hgd hr => ?_
  exact (z_one (s_if (y_not (y_val (x_callO (ok_is_between T B) (hr.mono (by decide)) hgd rfl (x_cons (x_var (pv 0)) (x_cons x_int (x_cons (x_globI rfl T.c_MOST_SETS) x_nil))) (la_cons (la_cons (la_cons la_nil)))))) (z_one s_never) z_nil))
/-! covered(sets, some): slots sets 0, some 1, number 2, place 3 -/
def e_covered1 : EF := (eVar 3)
def e_covered2 : EF := (eC (.bool true))
def i_covered3 : IF := (itAny (eBin pIdx (eVar 0) (eVar 2)))
def b_covered : SF := (sRet (eDc2 false (itAny (eVar 1)) (.nm 2) [2, 3] tTrue i_covered3 (.nm 3) [3] tTrue e_covered1 e_covered2))
def m_covered : Fn := bodyF 4 b_covered
theorem sc_covered : FnScope ["sets", "some", "number", "place"] ["sets", "some"] (defScope s_covered) := ⟨rfl, rfl, rfl, by decide +kernel, rfl, by decide +kernel, by decide +kernel⟩
theorem ok_covered (T : Txt K mg C) (B : Tb base mg C) : Okd (zt C) P w K mg base 1 "covered" ["sets", "some"] m_covered := by
  refine okd (k := 0) T.d_covered sc_covered rfl fun f cdv A outer s H E hgd hr => ?_
  exact (z_one (s_ret (x_dc2 (own := [("number", 2), ("place", 3)]) (own1 := [("place", 3)]) (fun z => nomatch z) rfl sc_covered.nd (i_any (x_var (pv 1))) (blkOk_by (N := ["sets", "some", "number", "place"]) (sc := defScope s_covered) (by decide +kernel)) rfl rfl (by decide) (fun _ _ _ _ _ => (p_name (i := 2) sc_covered.nd rfl (.inl rfl))) (fun _ _ _ _ _ => ts_nil) (fun _ _ _ _ _ => (i_any (x_ix (x_var (pv 0)) (x_var (pv 2))))) (fun _ _ _ _ _ => (p_name (i := 3) sc_covered.nd rfl (.inl rfl))) (fun _ _ _ _ _ => ts_nil) (fun _ _ _ _ _ => (x_var (pv 3))) (fun _ _ _ _ _ => x_bl))))
/-! greedily(sets, k): slots sets 0, k 1, found 2, _ 3, there 4, adds 5, some 6, place 7 -/
def e_greedily1 : EF := (eVar 7)
def t_greedily2 : TF := (tOf (eBin pDNin (eVar 7) (eVar 4)))
def e_greedily3 : EF := (eAp pLen (aCons (eL (nComp (itAny (eVar 6)) (.nm 7) [7] t_greedily2 e_greedily1)) aNil))
def l_greedily4 : SF := (sSeq (sAsg (eAp m_covered (aCons (eVar 0) (aCons (eVar 2) aNil))) (gNm 4)) (sSeq (sAsg (eL (nComp (itAny (eVar 0)) (.nm 6) [6] tTrue e_greedily3)) (gNm 5)) (sSeq (sIf (tOf (eBin pEq (eAp pMax (aCons (eVar 5) aNil)) (eC (.int 0)))) sBreak sNext) (sAsg (eBin pPlus (eVar 2) (eAp pTup (aCons (eBM pIndex (eVar 5) (aCons (eAp pMax (aCons (eVar 5) aNil)) aNil)) aNil))) (gNm 2)))))
def b_greedily : SF := (sSeq (sExpr (eAp m_check_sets (aCons (eVar 0) aNil))) (sSeq (sExpr (eAp m_check_most (aCons (eVar 1) aNil))) (sSeq (sAsg (eAp pTup aNil) (gNm 2)) (sSeq (sFor (itRng1 (aCons (eVar 1) aNil)) (gNm 3) l_greedily4) (sRet (eVar 2))))))
def m_greedily : Fn := bodyF 8 b_greedily
theorem sc_greedily : FnScope ["sets", "k", "found", "_", "there", "adds", "some", "place"] ["sets", "k"] (defScope s_greedily) := ⟨rfl, rfl, rfl, by decide +kernel, rfl, by decide +kernel, by decide +kernel⟩
theorem ok_greedily (T : Txt K mg C) (B : Tb base mg C) : Okd (zt C) P w K mg base 5 "greedily" ["sets", "k"] m_greedily := by
  refine okd (k := 4) T.d_greedily sc_greedily rfl fun f cdv A outer s H E hgd hr => ?_
  exact (z_cons (s_expr (x_callO (ok_check_sets T B) (hr.mono (by decide)) hgd rfl (x_cons (x_var (pv 0)) x_nil) (la_cons la_nil)))
    (z_cons (s_expr (x_callO (ok_check_most T B) (hr.mono (by decide)) hgd rfl (x_cons (x_var (pv 1)) x_nil) (la_cons la_nil)))
    (z_cons (s_set (i := 2) sc_greedily.nd rfl (.inl rfl) (x_tup x_nil))
    (z_cons (s_for PassesOwn.never rfl (i_range1 rfl T.z_range (x_cons (x_var (pv 1)) x_nil)) (g_name (i := 3) sc_greedily.nd rfl (.inl rfl))
      (z_cons (s_set (i := 4) sc_greedily.nd rfl (.inr rfl) (x_callO (ok_covered T B) (hr.mono (by decide)) hgd rfl (x_cons (x_var (pv 0)) (x_cons (x_var (pv 2)) x_nil)) (la_cons (la_cons la_nil))))
      (z_cons (s_setC (i := 5) (own := [("some", 6)]) rfl sc_greedily.nd rfl rfl (sw_true rfl rfl rfl (by decide +kernel)) (i_any (x_var (pv 0))) (blkOk_by (N := ["sets", "k", "found", "_", "there", "adds", "some", "place"]) (sc := defScope s_greedily) (by decide +kernel)) rfl (fun _ _ _ _ _ => (p_name (i := 6) sc_greedily.nd rfl (.inl rfl))) (fun _ _ _ _ _ => ts_nil) (fun _ _ _ _ _ => (x_callB c_len rfl T.z_len bt_len (x_cons (x_ofN (n_comp (own := [("place", 7)]) rfl sc_greedily.nd (i_any (x_var (pv 6))) (blkOk_by (by kernel_rfl)) rfl (fun _ _ _ _ _ => (p_name (i := 7) sc_greedily.nd rfl (.inl rfl))) (fun _ _ _ _ _ => (ts_one (y_cmp (o_dnin hr) (x_var (pv 7)) (x_var (pv 4)) (by with_unfolding_all rfl)))) (fun _ _ _ _ _ => (x_var (pv 7))))) x_nil))))
      (z_cons (s_if (y_cmp (o_eq hr) (x_callB (c_max rfl hr) rfl T.z_max bt_max (x_cons (x_var (pv 5)) x_nil)) x_int (nomark _)) (z_one s_break) z_nil)
      (z_one (s_set (i := 2) sc_greedily.nd rfl (.inl rfl) (x_bin o_plus (x_var (pv 2)) (x_tup (x_cons (x_bm PySem.F.slot_list_index PySem.F.type_list_index (m_index hr) (x_var (pv 5)) (x_cons (x_callB (c_max rfl hr) rfl T.z_max bt_max (x_cons (x_var (pv 5)) x_nil)) x_nil)) x_nil)))))))))
    (z_one (s_ret (x_var (pv 2))))))))
/-! _law_sets(count): slots count 0, rows 1, i 2, row 3 -/
def e__law_sets1 : EF := (eBin pPlus (eVar 3) (eAp pTup (aCons (eVar 2) aNil)))
def l__law_sets2 : SF := (sAsg (eBin pPlus (eVar 1) (eL (nComp (itAny (eVar 1)) (.nm 3) [3] tTrue e__law_sets1))) (gNm 1))
def k__law_sets3 : EF := (eAp pTup (aCons (eAp pLen (aCons (eVar 0) aNil)) (aCons (eVar 0) aNil)))
def b__law_sets : SF := (sSeq (sAsg (eL (nLst (aCons (eAp pTup aNil) aNil))) (gNm 1)) (sSeq (sFor (itRng1 (aCons (eVar 0) aNil)) (gNm 2) l__law_sets2) (sRet (eSortK [false, false, false, true] k__law_sets3 (aCons (eVar 1) aNil)))))
def m__law_sets : Fn := bodyF 4 b__law_sets
theorem sc__law_sets : FnScope ["count", "rows", "i", "row"] ["count"] (defScope s__law_sets) := ⟨rfl, rfl, rfl, by decide +kernel, rfl, by decide +kernel, by decide +kernel⟩
theorem ok__law_sets (T : Txt K mg C) (B : Tb base mg C) : Okd (zt C) P w K mg base 5 "_law_sets" ["count"] m__law_sets := by
  refine okdC (k := 4) T.d__law_sets sc__law_sets rfl fun f A outer s H E hgd hr => ?_
  exact (z_cons (s_set (i := 1) sc__law_sets.nd rfl (.inl rfl) (x_ofN (n_lst (x_cons (x_tup x_nil) x_nil))))
    (z_cons (s_for PassesOwn.never rfl (i_range1 rfl T.z_range (x_cons (x_var (pv 0)) x_nil)) (g_name (i := 2) sc__law_sets.nd rfl (.inr rfl))
      (z_one (s_set (i := 1) sc__law_sets.nd rfl (.inl rfl) (x_bin o_plus (x_var (pv 1)) (x_ofN (n_comp (own := [("row", 3)]) rfl sc__law_sets.nd (i_any (x_var (pv 1))) (blkOk_by (N := ["count", "rows", "i", "row"]) (sc := defScope s__law_sets) (by decide +kernel)) rfl (fun _ _ _ _ _ => (p_name (i := 3) sc__law_sets.nd rfl (.inl rfl))) (fun _ _ _ _ _ => ts_nil) (fun _ _ _ _ _ => (x_bin o_plus (x_var (pv 3)) (x_tup (x_cons (x_var (pv 2)) x_nil))))))))))
    (z_one (s_ret (x_sortK (k := 1) (bs := [false, false, false, true]) (fb := k__law_sets3) (p := "row") (c := C.c__law_sets) (P := C.P__law_sets) ⟨B.b__law_sets, rfl, T.mem__law_sets, T.uniq__law_sets, lamP_by (by kernel_rfl), rfl, fun _ _ _ _ _ _ => rfl, (msk_ok (N := ["count", "rows", "i", "row"]) (p := "row") (by decide +kernel)), fun A s H f c' hr => (x_tup (x_cons (x_callB c_len rfl T.z_len bt_len (x_cons (x_var (pv 0)) x_nil)) (x_cons (x_var (pv 0)) x_nil)))⟩ (hr.mono (by decide)) rfl T.z_sorted (x_cons (x_var (pv 1)) x_nil))))))
/-! sets_of(many): slots many 0, mask 1, item 2 -/
def e_sets_of1 : EF := (eVar 2)
def t_sets_of2 : TF := (tOf (eBin pEq (eBin pAnd (eBin pShr (eVar 1) (eVar 2)) (eC (.int 1))) (eC (.int 1))))
def e_sets_of3 : EF := (eAp pTupleOf (aCons (eL (nComp (itRng1 (aCons (eVar 0) aNil)) (.nm 2) [2] t_sets_of2 e_sets_of1)) aNil))
def b_sets_of : SF := (sRet (eL (nComp (itRng1 (aCons (eBin pShl (eC (.int 1)) (eVar 0)) aNil)) (.nm 1) [1] tTrue e_sets_of3)))
def m_sets_of : Fn := bodyF 3 b_sets_of
theorem sc_sets_of : FnScope ["many", "mask", "item"] ["many"] (defScope s_sets_of) := ⟨rfl, rfl, rfl, by decide +kernel, rfl, by decide +kernel, by decide +kernel⟩
theorem ok_sets_of (T : Txt K mg C) (B : Tb base mg C) : Okd (zt C) P w K mg base 1 "sets_of" ["many"] m_sets_of := by
  refine okd (k := 0) T.d_sets_of sc_sets_of rfl fun f cdv A outer s H E hgd hr => ?_
  exact (z_one (s_ret (x_ofN (n_comp (own := [("mask", 1)]) rfl sc_sets_of.nd (i_range1 rfl T.z_range (x_cons (x_bin o_shl x_int (x_var (pv 0))) x_nil)) (blkOk_by (N := ["many", "mask", "item"]) (sc := defScope s_sets_of) (by decide +kernel)) rfl (fun _ _ _ _ _ => (p_name (i := 1) sc_sets_of.nd rfl (.inr rfl))) (fun _ _ _ _ _ => ts_nil) (fun _ _ _ _ _ => (x_callTy c_tuple rfl T.z_tuple bt_tuple (x_cons (x_ofN (n_comp (own := [("item", 2)]) rfl sc_sets_of.nd (i_range1 rfl T.z_range (x_cons (x_var (pv 0)) x_nil)) (blkOk_by (by kernel_rfl)) rfl (fun _ _ _ _ _ => (p_name (i := 2) sc_sets_of.nd rfl (.inl rfl))) (fun _ _ _ _ _ => (ts_one (y_cmp (o_eq hr) (x_bin o_and (x_bin o_shr (x_var (pv 1)) (x_var (pv 2))) x_int) x_int (nomark _)))) (fun _ _ _ _ _ => (x_var (pv 2))))) x_nil)))))))
/-! most_covered_by(sets, k): slots sets 0, k 1, rows 2, best 3, some 4, many 5, _ 6 -/
def e_most_covered_by1 : EF := (eAp pTup (aCons (eCut (eAp pLenD (aCons (eAp m_covered (aCons (eVar 0) (aCons (eVar 4) aNil))) aNil))) (aCons (eVar 4) aNil)))
def t_most_covered_by2 : TF := (tOf (eBin pLe (eAp pLen (aCons (eVar 4) aNil)) (eVar 1)))
def e_most_covered_by3 : EF := (eVar 5)
def e_most_covered_by4 : EF := (eVar 4)
def t_most_covered_by5 : TF := (tOf (eBin pEq (eVar 5) (eVar 3)))
def b_most_covered_by : SF := (sSeq (sExpr (eAp m_check_sets (aCons (eVar 0) aNil))) (sSeq (sExpr (eAp m_check_most (aCons (eVar 1) aNil))) (sSeq (sAsg (eL (nComp (itAny (eAp m_sets_of (aCons (eAp pLen (aCons (eVar 0) aNil)) aNil))) (.nm 4) [4] t_most_covered_by2 e_most_covered_by1)) (gNm 2)) (sSeq (sAsg (eAp pMax (aCons (eL (nComp (itAny (eVar 2)) (.tp (.cons (.nm 5) (.cons (.nm 6) .nil))) [5, 6] tTrue e_most_covered_by3)) aNil)) (gNm 3)) (sRet (eAp pTup (aCons (eVar 3) (aCons (eAp pMin (aCons (eL (nComp (itAny (eVar 2)) (.tp (.cons (.nm 5) (.cons (.nm 4) .nil))) [5, 4] t_most_covered_by5 e_most_covered_by4)) aNil)) aNil))))))))
def m_most_covered_by : Fn := bodyF 7 b_most_covered_by
theorem sc_most_covered_by : FnScope ["sets", "k", "rows", "best", "some", "many", "_"] ["sets", "k"] (defScope s_most_covered_by) := ⟨rfl, rfl, rfl, by decide +kernel, rfl, by decide +kernel, by decide +kernel⟩
theorem ok_most_covered_by (T : Txt K mg C) (B : Tb base mg C) : Okd (zt C) P w K mg base 5 "most_covered_by" ["sets", "k"] m_most_covered_by := by
  refine okd (k := 4) T.d_most_covered_by sc_most_covered_by rfl fun f cdv A outer s H E hgd hr => ?_
  exact (z_cons (s_expr (x_callO (ok_check_sets T B) (hr.mono (by decide)) hgd rfl (x_cons (x_var (pv 0)) x_nil) (la_cons la_nil)))
    (z_cons (s_expr (x_callO (ok_check_most T B) (hr.mono (by decide)) hgd rfl (x_cons (x_var (pv 1)) x_nil) (la_cons la_nil)))
    (z_cons (s_setC (i := 2) (own := [("some", 4)]) rfl sc_most_covered_by.nd rfl rfl (sw_true rfl rfl rfl (by decide +kernel)) (i_any (x_callO (ok_sets_of T B) (hr.mono (by decide)) hgd rfl (x_cons (x_callB c_len rfl T.z_len bt_len (x_cons (x_var (pv 0)) x_nil)) x_nil) (la_cons la_nil))) (blkOk_by (N := ["sets", "k", "rows", "best", "some", "many", "_"]) (sc := defScope s_most_covered_by) (by decide +kernel)) rfl (fun _ _ _ _ _ => (p_name (i := 4) sc_most_covered_by.nd rfl (.inl rfl))) (fun _ _ _ _ _ => (ts_one (y_cmp o_le (x_callB c_len rfl T.z_len bt_len (x_cons (x_var (pv 4)) x_nil)) (x_var (pv 1)) (nomark _)))) (fun _ _ _ _ _ => (x_tup (x_cons (x_cut (x_callB c_lenD rfl T.z_len bt_len (x_cons (x_callO (ok_covered T B) (hr.mono (by decide)) hgd rfl (x_cons (x_var (pv 0)) (x_cons (x_var (pv 4)) x_nil)) (la_cons (la_cons la_nil))) x_nil))) (x_cons (x_var (pv 4)) x_nil)))))
    (z_cons (s_set (i := 3) sc_most_covered_by.nd rfl (.inr rfl) (x_callB (c_max rfl hr) rfl T.z_max bt_max (x_cons (x_ofN (n_comp (own := [("many", 5), ("_", 6)]) rfl sc_most_covered_by.nd (i_any (x_var (pv 2))) (blkOk_by (N := ["sets", "k", "rows", "best", "some", "many", "_"]) (sc := defScope s_most_covered_by) (by decide +kernel)) rfl (fun _ _ _ _ _ => (p_tup rfl (p_cons (p_name (i := 5) sc_most_covered_by.nd rfl (.inl rfl)) (p_cons (p_name (i := 6) sc_most_covered_by.nd rfl (.inl rfl)) p_nil)))) (fun _ _ _ _ _ => ts_nil) (fun _ _ _ _ _ => (x_var (pv 5))))) x_nil)))
    (z_one (s_ret (x_tup (x_cons (x_var (pv 3)) (x_cons (x_callB (c_min rfl hr) rfl T.z_min bt_min (x_cons (x_ofN (n_comp (own := [("many", 5), ("some", 4)]) rfl sc_most_covered_by.nd (i_any (x_var (pv 2))) (blkOk_by (N := ["sets", "k", "rows", "best", "some", "many", "_"]) (sc := defScope s_most_covered_by) (by decide +kernel)) rfl (fun _ _ _ _ _ => (p_tup rfl (p_cons (p_name (i := 5) sc_most_covered_by.nd rfl (.inl rfl)) (p_cons (p_name (i := 4) sc_most_covered_by.nd rfl (.inl rfl)) p_nil)))) (fun _ _ _ _ _ => (ts_one (y_cmp (o_eq hr) (x_var (pv 5)) (x_var (pv 3)) (nomark _)))) (fun _ _ _ _ _ => (x_var (pv 4))))) x_nil)) x_nil)))))))))
/-! fewest_sets(sets): slots sets 0, every 1, rows 2, some 3 -/
def e_fewest_sets1 : EF := (eAp pTup (aCons (eAp pLen (aCons (eVar 3) aNil)) (aCons (eVar 3) aNil)))
def t_fewest_sets2 : TF := (tOf (eBin pEq (eCut (eAp pLenD (aCons (eAp m_covered (aCons (eVar 0) (aCons (eVar 3) aNil))) aNil))) (eVar 1)))
def b_fewest_sets : SF := (sSeq (sExpr (eAp m_check_sets (aCons (eVar 0) aNil))) (sSeq (sAsg (eCut (eAp pLenD (aCons (eAp m_covered (aCons (eVar 0) (aCons (eL (nRg1 (eAp pLen (aCons (eVar 0) aNil)))) aNil))) aNil))) (gNm 1)) (sSeq (sAsg (eL (nComp (itAny (eAp m_sets_of (aCons (eAp pLen (aCons (eVar 0) aNil)) aNil))) (.nm 3) [3] t_fewest_sets2 e_fewest_sets1)) (gNm 2)) (sRet (eBin pIdx (eAp pMin (aCons (eVar 2) aNil)) (eC (.int 1)))))))
def m_fewest_sets : Fn := bodyF 4 b_fewest_sets
theorem sc_fewest_sets : FnScope ["sets", "every", "rows", "some"] ["sets"] (defScope s_fewest_sets) := ⟨rfl, rfl, rfl, by decide +kernel, rfl, by decide +kernel, by decide +kernel⟩
theorem ok_fewest_sets (T : Txt K mg C) (B : Tb base mg C) : Okd (zt C) P w K mg base 5 "fewest_sets" ["sets"] m_fewest_sets := by
  refine okd (k := 4) T.d_fewest_sets sc_fewest_sets rfl fun f cdv A outer s H E hgd hr => ?_
  exact (z_cons (s_expr (x_callO (ok_check_sets T B) (hr.mono (by decide)) hgd rfl (x_cons (x_var (pv 0)) x_nil) (la_cons la_nil)))
    (z_cons (s_set (i := 1) sc_fewest_sets.nd rfl (.inr rfl) (x_cut (x_callB c_lenD rfl T.z_len bt_len (x_cons (x_callO (ok_covered T B) (hr.mono (by decide)) hgd rfl (x_cons (x_var (pv 0)) (x_cons (x_ofN (n_listRg1 rfl rfl T.z_list rfl T.z_range (x_callB c_len rfl T.z_len bt_len (x_cons (x_var (pv 0)) x_nil)))) x_nil)) (la_cons (la_cons la_nil))) x_nil))))
    (z_cons (s_setC (i := 2) (own := [("some", 3)]) rfl sc_fewest_sets.nd rfl rfl (sw_true rfl rfl rfl (by decide +kernel)) (i_any (x_callO (ok_sets_of T B) (hr.mono (by decide)) hgd rfl (x_cons (x_callB c_len rfl T.z_len bt_len (x_cons (x_var (pv 0)) x_nil)) x_nil) (la_cons la_nil))) (blkOk_by (N := ["sets", "every", "rows", "some"]) (sc := defScope s_fewest_sets) (by decide +kernel)) rfl (fun _ _ _ _ _ => (p_name (i := 3) sc_fewest_sets.nd rfl (.inl rfl))) (fun _ _ _ _ _ => (ts_one (y_cmp (o_eq hr) (x_cut (x_callB c_lenD rfl T.z_len bt_len (x_cons (x_callO (ok_covered T B) (hr.mono (by decide)) hgd rfl (x_cons (x_var (pv 0)) (x_cons (x_var (pv 3)) x_nil)) (la_cons (la_cons la_nil))) x_nil))) (x_var (pv 1)) (nomark _)))) (fun _ _ _ _ _ => (x_tup (x_cons (x_callB c_len rfl T.z_len bt_len (x_cons (x_var (pv 3)) x_nil)) (x_cons (x_var (pv 3)) x_nil)))))
    (z_one (s_ret (x_ix (x_callB (c_min rfl hr) rfl T.z_min bt_min (x_cons (x_var (pv 2)) x_nil)) x_int))))))
/-! _law_covering(box): slots box 0, sets 1, k 2, taken 3, turn 4, gains 5, small 6, top 7, high 8, low 9, again 10, whole 11, due 12, m 13, whole_of 14, parts 15, x 16, row 17, i 18 -/
def e__law_covering1 : EF := (eVar 16)
def t__law_covering2 : TF := (tOf (eBin pEq (eAp m__law_draw (aCons (eVar 0) (aCons (eC (.int 3)) aNil))) (eC (.int 0))))
def e__law_covering3 : EF := (eAp pTupleOf (aCons (eL (nComp (itRng1 (aCons (eC (.int 8)) aNil)) (.nm 16) [16] t__law_covering2 e__law_covering1)) aNil))
def e__law_covering4 : EF := (eBin pSub (eAp m__law_over (aCons (eVar 1) (aCons (eBin pPlus (eVar 3) (eL (nLst (aCons (eVar 18) aNil)))) aNil))) (eAp m__law_over (aCons (eVar 1) (aCons (eVar 3) aNil))))
def l__law_covering5 : SF := (sSeq (sAsg (eL (nComp (itRng1 (aCons (eAp pLen (aCons (eVar 1) aNil)) aNil)) (.nm 18) [18] tTrue e__law_covering4)) (gNm 5)) (sIf (tOf (eBin pGt (eAp pMax (aCons (eVar 5) aNil)) (eC (.int 0)))) (sExpr (eBM pAppend (eVar 3) (aCons (eBM pIndex (eVar 5) (aCons (eAp pMax (aCons (eVar 5) aNil)) aNil)) aNil))) sNext))
def e__law_covering6 : EF := (eVar 17)
def t__law_covering7 : TF := (tOf (eBin pLe (eAp pLen (aCons (eVar 17) aNil)) (eVar 2)))
def e__law_covering8 : EF := (eAp m__law_over (aCons (eVar 1) (aCons (eVar 17) aNil)))
def e__law_covering9 : EF := (eVar 17)
def t__law_covering10 : TF := (tOf (eBin pEq (eAp m__law_over (aCons (eVar 1) (aCons (eVar 17) aNil))) (eVar 7)))
def l__law_covering11 : SF := (sPar 8 9 (aCons (eBin pMul (eVar 8) (eVar 2)) (aCons (eBin pMul (eVar 9) (eBin pSub (eVar 2) (eC (.int 1)))) aNil)))
def e__law_covering12 : EF := (eVar 17)
def t__law_covering13 : TF := (tOf (eBin pEq (eAp m__law_over (aCons (eVar 1) (aCons (eVar 17) aNil))) (eVar 11)))
def e__law_covering14 : EF := (eAp pLen (aCons (eVar 17) aNil))
def l__law_covering15 : SF := (sAsg (eBin pMul (eVar 14) (eVar 16)) (gNm 14))
def l__law_covering16 : SF := (sAsg (eBin pPlus (eVar 15) (eBin pDiv (eVar 14) (eVar 16))) (gNm 15))
def q__law_covering_1 : SF := (sAsg (eAp pTupleOf (aCons (eL (nComp (itRng1 (aCons (eBin pPlus (eC (.int 1)) (eAp m__law_draw (aCons (eVar 0) (aCons (eC (.int 6)) aNil)))) aNil)) (.nm 18) [18] tTrue e__law_covering3)) aNil)) (gNm 1))
def q__law_covering_2 : SF := (sAsg (eBin pPlus (eC (.int 1)) (eAp m__law_draw (aCons (eVar 0) (aCons (eC (.int 5)) aNil)))) (gNm 2))
def q__law_covering_3 : SF := (sAsg (eNew (nLst aNil)) (gNm 3))
def q__law_covering_4 : SF := (sFor (itRng1 (aCons (eVar 2) aNil)) (gNm 4) l__law_covering5)
def q__law_covering_5 : SF := (sIf (tOf (eBin pNe (eAp pRepr (aCons (eAp m_greedily (aCons (eVar 1) (aCons (eVar 2) aNil))) aNil)) (eAp pRepr (aCons (eAp pTupleOf (aCons (eVar 3) aNil)) aNil)))) (sRet (eC (.bool false))) sNext)
def q__law_covering_6 : SF := (sAsg (eL (nComp (itAny (eAp m__law_sets (aCons (eAp pLen (aCons (eVar 1) aNil)) aNil))) (.nm 17) [17] t__law_covering7 e__law_covering6)) (gNm 6))
def q__law_covering_7 : SF := (sAsg (eAp pMax (aCons (eL (nComp (itAny (eVar 6)) (.nm 17) [17] tTrue e__law_covering8)) aNil)) (gNm 7))
def q__law_covering_8 : SF := (sIf (tOf (eBin pNe (eAp pRepr (aCons (eAp m_most_covered_by (aCons (eVar 1) (aCons (eVar 2) aNil))) aNil)) (eAp pRepr (aCons (eAp pTup (aCons (eVar 7) (aCons (eAp pMin (aCons (eL (nComp (itAny (eVar 6)) (.nm 17) [17] t__law_covering10 e__law_covering9)) aNil)) aNil))) aNil)))) (sRet (eC (.bool false))) sNext)
def q__law_covering_9 : SF := (sParG [8, 9] (aCons (eC (.int 1)) (aCons (eC (.int 1)) aNil)))
def q__law_covering_10 : SF := (sFor (itRng1 (aCons (eVar 2) aNil)) (gNm 10) l__law_covering11)
def q__law_covering_11 : SF := (sIf (tOf (eBin pLt (eBin pMul (eAp m__law_over (aCons (eVar 1) (aCons (eVar 3) aNil))) (eVar 8)) (eBin pMul (eBin pSub (eVar 8) (eVar 9)) (eVar 7)))) (sRet (eC (.bool false))) sNext)
def q__law_covering_12 : SF := (sAsg (eAp m__law_over (aCons (eVar 1) (aCons (eL (nRg1 (eAp pLen (aCons (eVar 1) aNil)))) aNil))) (gNm 11))
def q__law_covering_13 : SF := (sAsg (eBin pIdx (eL (nComp (itAny (eAp m__law_sets (aCons (eAp pLen (aCons (eVar 1) aNil)) aNil))) (.nm 17) [17] t__law_covering13 e__law_covering12)) (eC (.int 0))) (gNm 12))
def q__law_covering_14 : SF := (sIf (tOf (eBin pNe (eAp pRepr (aCons (eAp m_fewest_sets (aCons (eVar 1) aNil)) aNil)) (eAp pRepr (aCons (eVar 12) aNil)))) (sRet (eC (.bool false))) sNext)
def q__law_covering_15 : SF := (sAsg (eAp pMax (aCons (eL (nComp (itAny (eVar 1)) (.nm 17) [17] tTrue e__law_covering14)) aNil)) (gNm 13))
def q__law_covering_16 : SF := (sParG [14, 15] (aCons (eC (.int 1)) (aCons (eC (.int 0)) aNil)))
def q__law_covering_17 : SF := (sFor (itRng2 (aCons (eC (.int 1)) (aCons (eBin pPlus (eVar 13) (eC (.int 1))) aNil))) (gNm 16) l__law_covering15)
def q__law_covering_18 : SF := (sFor (itRng2 (aCons (eC (.int 1)) (aCons (eBin pPlus (eVar 13) (eC (.int 1))) aNil))) (gNm 16) l__law_covering16)
def q__law_covering_19 : SF := (sRet (eOf (tOrF (tOf (eBin pEq (eVar 13) (eC (.int 0)))) (tOf (eBin pLe (eBin pMul (eAp pLen (aCons (eAp m_greedily (aCons (eVar 1) (aCons (eAp pLen (aCons (eVar 1) aNil)) aNil))) aNil)) (eVar 14)) (eBin pMul (eVar 15) (eAp pLen (aCons (eVar 12) aNil))))))))
def z__law_covering_19 : SF := q__law_covering_19
def z__law_covering_18 : SF := sSeq q__law_covering_18 z__law_covering_19
def z__law_covering_17 : SF := sSeq q__law_covering_17 z__law_covering_18
def z__law_covering_16 : SF := sSeq q__law_covering_16 z__law_covering_17
def z__law_covering_15 : SF := sSeq q__law_covering_15 z__law_covering_16
def z__law_covering_14 : SF := sSeq q__law_covering_14 z__law_covering_15
def z__law_covering_13 : SF := sSeq q__law_covering_13 z__law_covering_14
def z__law_covering_12 : SF := sSeq q__law_covering_12 z__law_covering_13
def z__law_covering_11 : SF := sSeq q__law_covering_11 z__law_covering_12
def z__law_covering_10 : SF := sSeq q__law_covering_10 z__law_covering_11
def z__law_covering_9 : SF := sSeq q__law_covering_9 z__law_covering_10
def z__law_covering_8 : SF := sSeq q__law_covering_8 z__law_covering_9
def z__law_covering_7 : SF := sSeq q__law_covering_7 z__law_covering_8
def z__law_covering_6 : SF := sSeq q__law_covering_6 z__law_covering_7
def z__law_covering_5 : SF := sSeq q__law_covering_5 z__law_covering_6
def z__law_covering_4 : SF := sSeq q__law_covering_4 z__law_covering_5
def z__law_covering_3 : SF := sSeq q__law_covering_3 z__law_covering_4
def z__law_covering_2 : SF := sSeq q__law_covering_2 z__law_covering_3
def z__law_covering_1 : SF := sSeq q__law_covering_1 z__law_covering_2
def b__law_covering : SF := z__law_covering_1
def m__law_covering : Fn := bodyF 19 b__law_covering
theorem sc__law_covering : FnScope ["box", "sets", "k", "taken", "turn", "gains", "small", "top", "high", "low", "again", "whole", "due", "m", "whole_of", "parts", "x", "row", "i"] ["box"] (defScope s__law_covering) := ⟨rfl, rfl, rfl, by decide +kernel, rfl, by decide +kernel, by decide +kernel⟩
theorem ok__law_covering (T : Txt K mg C) (B : Tb base mg C) : Okd (zt C) P w K mg base 6 "_law_covering" ["box"] m__law_covering := by
  refine okd (k := 5) T.d__law_covering sc__law_covering rfl fun f cdv A outer s H E hgd hr => ?_
  exact (z_cons (s_set (i := 1) sc__law_covering.nd rfl (.inr rfl) (x_callTy c_tuple rfl T.z_tuple bt_tuple (x_cons (x_ofN (n_comp (own := [("i", 18)]) rfl sc__law_covering.nd (i_range1 rfl T.z_range (x_cons (x_bin o_plus x_int (x_callO (ok__law_draw T B) (hr.mono (by decide)) hgd rfl (x_cons (x_var (pv 0)) (x_cons x_int x_nil)) (la_cons (la_cons la_nil)))) x_nil)) (blkOk_by (N := ["box", "sets", "k", "taken", "turn", "gains", "small", "top", "high", "low", "again", "whole", "due", "m", "whole_of", "parts", "x", "row", "i"]) (sc := defScope s__law_covering) (by decide +kernel)) rfl (fun _ _ _ _ _ => (p_name (i := 18) sc__law_covering.nd rfl (.inl rfl))) (fun _ _ _ _ _ => ts_nil) (fun _ _ _ _ _ => (x_callTy c_tuple rfl T.z_tuple bt_tuple (x_cons (x_ofN (n_comp (own := [("x", 16)]) rfl sc__law_covering.nd (i_range1 rfl T.z_range (x_cons x_int x_nil)) (blkOk_by (by kernel_rfl)) rfl (fun _ _ _ _ _ => (p_name (i := 16) sc__law_covering.nd rfl (.inl rfl))) (fun _ _ _ _ _ => (ts_one (y_cmp (o_eq hr) (x_callO (ok__law_draw T B) (hr.mono (by decide)) hgd rfl (x_cons (x_var (pv 0)) (x_cons x_int x_nil)) (la_cons (la_cons la_nil))) x_int (nomark _)))) (fun _ _ _ _ _ => (x_var (pv 16))))) x_nil))))) x_nil)))
    (z_cons (s_set (i := 2) sc__law_covering.nd rfl (.inr rfl) (x_bin o_plus x_int (x_callO (ok__law_draw T B) (hr.mono (by decide)) hgd rfl (x_cons (x_var (pv 0)) (x_cons x_int x_nil)) (la_cons (la_cons la_nil)))))
    (z_cons (s_set (i := 3) sc__law_covering.nd rfl (.inr rfl) (x_new (n_lst x_nil)))
    (z_cons (s_for PassesOwn.never rfl (i_range1 rfl T.z_range (x_cons (x_var (pv 2)) x_nil)) (g_name (i := 4) sc__law_covering.nd rfl (.inl rfl))
      (z_cons (s_setC (i := 5) (own := [("i", 18)]) rfl sc__law_covering.nd rfl rfl (sw_true rfl rfl rfl (by decide +kernel)) (i_range1 rfl T.z_range (x_cons (x_callB c_len rfl T.z_len bt_len (x_cons (x_var (pv 1)) x_nil)) x_nil)) (blkOk_by (N := ["box", "sets", "k", "taken", "turn", "gains", "small", "top", "high", "low", "again", "whole", "due", "m", "whole_of", "parts", "x", "row", "i"]) (sc := defScope s__law_covering) (by decide +kernel)) rfl (fun _ _ _ _ _ => (p_name (i := 18) sc__law_covering.nd rfl (.inl rfl))) (fun _ _ _ _ _ => ts_nil) (fun _ _ _ _ _ => (x_bin o_sub (x_callO (ok__law_over T B) (hr.mono (by decide)) hgd rfl (x_cons (x_var (pv 1)) (x_cons (x_bin o_plus (x_var (pv 3)) (x_ofN (n_lst (x_cons (x_var (pv 18)) x_nil)))) x_nil)) (la_cons (la_cons la_nil))) (x_callO (ok__law_over T B) (hr.mono (by decide)) hgd rfl (x_cons (x_var (pv 1)) (x_cons (x_var (pv 3)) x_nil)) (la_cons (la_cons la_nil))))))
      (z_one (s_if (y_cmp o_gt (x_callB (c_max rfl hr) rfl T.z_max bt_max (x_cons (x_var (pv 5)) x_nil)) x_int (nomark _)) (z_one (s_expr (x_bm PySem.F.slot_list_append PySem.F.type_list_append m_append (x_var (pv 3)) (x_cons (x_bm PySem.F.slot_list_index PySem.F.type_list_index (m_index hr) (x_var (pv 5)) (x_cons (x_callB (c_max rfl hr) rfl T.z_max bt_max (x_cons (x_var (pv 5)) x_nil)) x_nil)) x_nil)))) z_nil))))
    (z_cons (s_if (y_cmp (o_ne hr) (x_callB (c_repr hgd hr) rfl T.z_repr bt_repr (x_cons (x_callO (ok_greedily T B) (hr.mono (by decide)) hgd rfl (x_cons (x_var (pv 1)) (x_cons (x_var (pv 2)) x_nil)) (la_cons (la_cons la_nil))) x_nil)) (x_callB (c_repr hgd hr) rfl T.z_repr bt_repr (x_cons (x_callTy c_tuple rfl T.z_tuple bt_tuple (x_cons (x_var (pv 3)) x_nil)) x_nil)) (nomark _)) (z_one (s_ret x_bl)) z_nil)
    (z_cons (s_setC (i := 6) (own := [("row", 17)]) rfl sc__law_covering.nd rfl rfl (sw_true rfl rfl rfl (by decide +kernel)) (i_any (x_callO (ok__law_sets T B) (hr.mono (by decide)) hgd rfl (x_cons (x_callB c_len rfl T.z_len bt_len (x_cons (x_var (pv 1)) x_nil)) x_nil) (la_cons la_nil))) (blkOk_by (N := ["box", "sets", "k", "taken", "turn", "gains", "small", "top", "high", "low", "again", "whole", "due", "m", "whole_of", "parts", "x", "row", "i"]) (sc := defScope s__law_covering) (by decide +kernel)) rfl (fun _ _ _ _ _ => (p_name (i := 17) sc__law_covering.nd rfl (.inl rfl))) (fun _ _ _ _ _ => (ts_one (y_cmp o_le (x_callB c_len rfl T.z_len bt_len (x_cons (x_var (pv 17)) x_nil)) (x_var (pv 2)) (nomark _)))) (fun _ _ _ _ _ => (x_var (pv 17))))
    (z_cons (s_set (i := 7) sc__law_covering.nd rfl (.inr rfl) (x_callB (c_max rfl hr) rfl T.z_max bt_max (x_cons (x_ofN (n_comp (own := [("row", 17)]) rfl sc__law_covering.nd (i_any (x_var (pv 6))) (blkOk_by (N := ["box", "sets", "k", "taken", "turn", "gains", "small", "top", "high", "low", "again", "whole", "due", "m", "whole_of", "parts", "x", "row", "i"]) (sc := defScope s__law_covering) (by decide +kernel)) rfl (fun _ _ _ _ _ => (p_name (i := 17) sc__law_covering.nd rfl (.inl rfl))) (fun _ _ _ _ _ => ts_nil) (fun _ _ _ _ _ => (x_callO (ok__law_over T B) (hr.mono (by decide)) hgd rfl (x_cons (x_var (pv 1)) (x_cons (x_var (pv 17)) x_nil)) (la_cons (la_cons la_nil)))))) x_nil)))
    (z_cons (s_if (y_cmp (o_ne hr) (x_callB (c_repr hgd hr) rfl T.z_repr bt_repr (x_cons (x_callO (ok_most_covered_by T B) (hr.mono (by decide)) hgd rfl (x_cons (x_var (pv 1)) (x_cons (x_var (pv 2)) x_nil)) (la_cons (la_cons la_nil))) x_nil)) (x_callB (c_repr hgd hr) rfl T.z_repr bt_repr (x_cons (x_tup (x_cons (x_var (pv 7)) (x_cons (x_callB (c_min rfl hr) rfl T.z_min bt_min (x_cons (x_ofN (n_comp (own := [("row", 17)]) rfl sc__law_covering.nd (i_any (x_var (pv 6))) (blkOk_by (N := ["box", "sets", "k", "taken", "turn", "gains", "small", "top", "high", "low", "again", "whole", "due", "m", "whole_of", "parts", "x", "row", "i"]) (sc := defScope s__law_covering) (by decide +kernel)) rfl (fun _ _ _ _ _ => (p_name (i := 17) sc__law_covering.nd rfl (.inl rfl))) (fun _ _ _ _ _ => (ts_one (y_cmp (o_eq hr) (x_callO (ok__law_over T B) (hr.mono (by decide)) hgd rfl (x_cons (x_var (pv 1)) (x_cons (x_var (pv 17)) x_nil)) (la_cons (la_cons la_nil))) (x_var (pv 7)) (nomark _)))) (fun _ _ _ _ _ => (x_var (pv 17))))) x_nil)) x_nil))) x_nil)) (nomark _)) (z_one (s_ret x_bl)) z_nil)
    (z_cons (s_parG rfl (x_cons x_int (x_cons x_int x_nil)) (gn_cons (i := 8) sc__law_covering.nd rfl (.inl rfl) (gn_cons (i := 9) sc__law_covering.nd rfl (.inl rfl) gn_nil)))
    (z_cons (s_for PassesOwn.never rfl (i_range1 rfl T.z_range (x_cons (x_var (pv 2)) x_nil)) (g_name (i := 10) sc__law_covering.nd rfl (.inl rfl))
      (z_one (s_par (i := 8) (j := 9) rfl sc__law_covering.nd rfl rfl (by decide) rfl rfl (x_cons (x_bin o_mul (x_var (pv 8)) (x_var (pv 2))) (x_cons (x_bin o_mul (x_var (pv 9)) (x_bin o_sub (x_var (pv 2)) x_int)) x_nil)) rfl)))
    (z_cons (s_if (y_cmp o_lt (x_bin o_mul (x_callO (ok__law_over T B) (hr.mono (by decide)) hgd rfl (x_cons (x_var (pv 1)) (x_cons (x_var (pv 3)) x_nil)) (la_cons (la_cons la_nil))) (x_var (pv 8))) (x_bin o_mul (x_bin o_sub (x_var (pv 8)) (x_var (pv 9))) (x_var (pv 7))) (nomark _)) (z_one (s_ret x_bl)) z_nil)
    (z_cons (s_set (i := 11) sc__law_covering.nd rfl (.inr rfl) (x_callO (ok__law_over T B) (hr.mono (by decide)) hgd rfl (x_cons (x_var (pv 1)) (x_cons (x_ofN (n_listRg1 rfl rfl T.z_list rfl T.z_range (x_callB c_len rfl T.z_len bt_len (x_cons (x_var (pv 1)) x_nil)))) x_nil)) (la_cons (la_cons la_nil))))
    (z_cons (s_set (i := 12) sc__law_covering.nd rfl (.inl rfl) (x_ix (x_ofN (n_comp (own := [("row", 17)]) rfl sc__law_covering.nd (i_any (x_callO (ok__law_sets T B) (hr.mono (by decide)) hgd rfl (x_cons (x_callB c_len rfl T.z_len bt_len (x_cons (x_var (pv 1)) x_nil)) x_nil) (la_cons la_nil))) (blkOk_by (N := ["box", "sets", "k", "taken", "turn", "gains", "small", "top", "high", "low", "again", "whole", "due", "m", "whole_of", "parts", "x", "row", "i"]) (sc := defScope s__law_covering) (by decide +kernel)) rfl (fun _ _ _ _ _ => (p_name (i := 17) sc__law_covering.nd rfl (.inl rfl))) (fun _ _ _ _ _ => (ts_one (y_cmp (o_eq hr) (x_callO (ok__law_over T B) (hr.mono (by decide)) hgd rfl (x_cons (x_var (pv 1)) (x_cons (x_var (pv 17)) x_nil)) (la_cons (la_cons la_nil))) (x_var (pv 11)) (nomark _)))) (fun _ _ _ _ _ => (x_var (pv 17))))) x_int))
    (z_cons (s_if (y_cmp (o_ne hr) (x_callB (c_repr hgd hr) rfl T.z_repr bt_repr (x_cons (x_callO (ok_fewest_sets T B) (hr.mono (by decide)) hgd rfl (x_cons (x_var (pv 1)) x_nil) (la_cons la_nil)) x_nil)) (x_callB (c_repr hgd hr) rfl T.z_repr bt_repr (x_cons (x_var (pv 12)) x_nil)) (nomark _)) (z_one (s_ret x_bl)) z_nil)
    (z_cons (s_set (i := 13) sc__law_covering.nd rfl (.inl rfl) (x_callB (c_max rfl hr) rfl T.z_max bt_max (x_cons (x_ofN (n_comp (own := [("row", 17)]) rfl sc__law_covering.nd (i_any (x_var (pv 1))) (blkOk_by (N := ["box", "sets", "k", "taken", "turn", "gains", "small", "top", "high", "low", "again", "whole", "due", "m", "whole_of", "parts", "x", "row", "i"]) (sc := defScope s__law_covering) (by decide +kernel)) rfl (fun _ _ _ _ _ => (p_name (i := 17) sc__law_covering.nd rfl (.inl rfl))) (fun _ _ _ _ _ => ts_nil) (fun _ _ _ _ _ => (x_callB c_len rfl T.z_len bt_len (x_cons (x_var (pv 17)) x_nil))))) x_nil)))
    (z_cons (s_parG rfl (x_cons x_int (x_cons x_int x_nil)) (gn_cons (i := 14) sc__law_covering.nd rfl (.inl rfl) (gn_cons (i := 15) sc__law_covering.nd rfl (.inl rfl) gn_nil)))
    (z_cons (s_for PassesOwn.never rfl (i_range2 rfl T.z_range (x_cons x_int (x_cons (x_bin o_plus (x_var (pv 13)) x_int) x_nil))) (g_name (i := 16) sc__law_covering.nd rfl (.inl rfl))
      (z_one (s_set (i := 14) sc__law_covering.nd rfl (.inl rfl) (x_bin o_mul (x_var (pv 14)) (x_var (pv 16))))))
    (z_cons (s_for PassesOwn.never rfl (i_range2 rfl T.z_range (x_cons x_int (x_cons (x_bin o_plus (x_var (pv 13)) x_int) x_nil))) (g_name (i := 16) sc__law_covering.nd rfl (.inl rfl))
      (z_one (s_set (i := 15) sc__law_covering.nd rfl (.inl rfl) (x_bin o_plus (x_var (pv 15)) (x_bin o_div (x_var (pv 14)) (x_var (pv 16)))))))
    (z_one (s_ret (x_or (x_eOf (x_cmp (o_eq hr) (x_var (pv 13)) x_int (nomark _))) (x_or1 (x_eOf (x_cmp o_le (x_bin o_mul (x_callB c_len rfl T.z_len bt_len (x_cons (x_callO (ok_greedily T B) (hr.mono (by decide)) hgd rfl (x_cons (x_var (pv 1)) (x_cons (x_callB c_len rfl T.z_len bt_len (x_cons (x_var (pv 1)) x_nil)) x_nil)) (la_cons (la_cons la_nil))) x_nil)) (x_var (pv 14))) (x_bin o_mul (x_var (pv 15)) (x_callB c_len rfl T.z_len bt_len (x_cons (x_var (pv 12)) x_nil))) (nomark _)))))))))))))))))))))))))
/-! law(script): slots script 0, box 1 -/
def b_law : SF := (sSeq (sAsg (eAp m__law_stream (aCons (eVar 0) (aCons (eC (.int 0)) aNil))) (gNm 1)) (sRet (eOf (tAndF (tOf (eAp m__law_votes (aCons (eVar 1) aNil))) (tOf (eAp m__law_covering (aCons (eVar 1) aNil)))))))
def m_law : Fn := bodyF 2 b_law
theorem sc_law : FnScope ["script", "box"] ["script"] (defScope s_law) := ⟨rfl, rfl, rfl, by decide +kernel, rfl, by decide +kernel, by decide +kernel⟩
theorem ok_law (T : Txt K mg C) (B : Tb base mg C) : Okd (zt C) P w K mg base 7 "law" ["script"] m_law := by
  refine okd (k := 6) T.d_law sc_law rfl fun f cdv A outer s H E hgd hr => ?_
  exact (z_cons (s_set (i := 1) sc_law.nd rfl (.inl rfl) (x_callO (ok__law_stream T B) (hr.mono (by decide)) hgd rfl (x_cons (x_var (pv 0)) (x_cons x_int x_nil)) (la_cons (la_cons la_nil))))
    (z_one (s_ret (x_and (x_eOf (x_callO (ok__law_votes T B) (hr.mono (by decide)) hgd rfl (x_cons (x_var (pv 1)) x_nil) (la_cons la_nil))) (x_and1 (x_eOf (x_callO (ok__law_covering T B) (hr.mono (by decide)) hgd rfl (x_cons (x_var (pv 1)) x_nil) (la_cons la_nil))))))))
end
theorem end_ {P : Program} {w : World} {K : PySem.W.Frag} {mg : Str → Option Value} {fa : Addr} {h : Heap} {C : Cd} (X : K.In h) (kt : KT K) (T : Txt K mg C) (TA : TabsAt K h (cst C)) (hmg : mg "law" = some (.ref fa)) :
    ∃ (K : PySem.W.Frag) (fd : FuncData) (cs : List (Addr × Addr × Str)), K.In h ∧ KT K ∧ TabsAt K h cs ∧ (∀ (s : Shared) (u : Value), BindsTo s fd ⟨[u], []⟩ [("script", u)]) ∧ ∀ base : Heap, K.In base → base.Ns mainGlobals mg → (∀ p ∈ cs, LamX.TabB base mg p.1 p.2.1) → FnG P w K mg base 7 fa fd ["script"] (spF (tabT cs) K 1 m_law) :=
  endO X kt T.d_law TA (fun base TB => ok_law (base := base) T ⟨TB (C.c__law_sets, C.P__law_sets, lq "_law_sets") (by simp [cst])⟩) hmg
theorem fin {P : Program} {w : World} {K0 : PySem.W.Frag} {mg : Str → Option Value} {fa : Addr} {h : Heap} {c__law_sets P__law_sets : Addr} {oc__law_sets : Value} {od__law_sets : Option Addr} {vs__law_sets : Array Value} {os__law_sets : Array (Option Value)} (X : K0.In h) (kt : tupB K0 = true) (hmg : mg "law" = some (.ref fa))
    (d__law_sets : HasCode (cutK K0 [P__law_sets]) mg "_law_sets" "_law_sets" s__law_sets ["count"] c__law_sets) (lc__law_sets : K0.lookup c__law_sets = some ⟨oc__law_sets, od__law_sets, .fields vs__law_sets, os__law_sets⟩) (hp__law_sets : (vs__law_sets[11]? : Option Value) = some (.ref P__law_sets)) (hd__law_sets : PySem.W.codeHdIn K0 c__law_sets P__law_sets = true) (tT__law_sets : h.get? P__law_sets = some { cls := .none, data := .fields #[] })
    (nd : ([P__law_sets] : List Addr).Nodup)
    (d__law_cell : HasDef (cutK K0 [P__law_sets]) mg "_law_cell" "_law_cell" s__law_cell ["script", "k"])
    (d__law_stream : HasDef (cutK K0 [P__law_sets]) mg "_law_stream" "_law_stream" s__law_stream ["script", "k"])
    (d__law_orders : HasDef (cutK K0 [P__law_sets]) mg "_law_orders" "_law_orders" s__law_orders ["n"])
    (d__law_apart : HasDef (cutK K0 [P__law_sets]) mg "_law_apart" "_law_apart" s__law_apart ["one", "two"])
    (d__law_nearest : HasDef (cutK K0 [P__law_sets]) mg "_law_nearest" "_law_nearest" s__law_nearest ["votes", "n"])
    (d__law_draw : HasDef (cutK K0 [P__law_sets]) mg "_law_draw" "_law_draw" s__law_draw ["box", "many"])
    (d__law_vote : HasDef (cutK K0 [P__law_sets]) mg "_law_vote" "_law_vote" s__law_vote ["box", "n"])
    (d_is_integer : HasDef (cutK K0 [P__law_sets]) mg "is_integer" "is_integer" s_is_integer ["thing"])
    (d_is_below : HasDef (cutK K0 [P__law_sets]) mg "is_below" "is_below" s_is_below ["thing", "bound"])
    (d_check_order : HasDef (cutK K0 [P__law_sets]) mg "check_order" "check_order" s_check_order ["order"])
    (d_far : HasDef (cutK K0 [P__law_sets]) mg "far" "far" s_far ["order", "other"])
    (d_distance : HasDef (cutK K0 [P__law_sets]) mg "distance" "distance" s_distance ["order", "other"])
    (d_check_votes : HasDef (cutK K0 [P__law_sets]) mg "check_votes" "check_votes" s_check_votes ["votes"])
    (d_nearest : HasDef (cutK K0 [P__law_sets]) mg "nearest" "nearest" s_nearest ["votes"])
    (d__law_votes : HasDef (cutK K0 [P__law_sets]) mg "_law_votes" "_law_votes" s__law_votes ["box"])
    (d__law_over : HasDef (cutK K0 [P__law_sets]) mg "_law_over" "_law_over" s__law_over ["sets", "some"])
    (d_is_set : HasDef (cutK K0 [P__law_sets]) mg "is_set" "is_set" s_is_set ["thing", "bound"])
    (d_check_sets : HasDef (cutK K0 [P__law_sets]) mg "check_sets" "check_sets" s_check_sets ["sets"])
    (d_is_between : HasDef (cutK K0 [P__law_sets]) mg "is_between" "is_between" s_is_between ["thing", "low", "high"])
    (d_check_most : HasDef (cutK K0 [P__law_sets]) mg "check_most" "check_most" s_check_most ["k"])
    (d_covered : HasDef (cutK K0 [P__law_sets]) mg "covered" "covered" s_covered ["sets", "some"])
    (d_greedily : HasDef (cutK K0 [P__law_sets]) mg "greedily" "greedily" s_greedily ["sets", "k"])
    (d_sets_of : HasDef (cutK K0 [P__law_sets]) mg "sets_of" "sets_of" s_sets_of ["many"])
    (d_most_covered_by : HasDef (cutK K0 [P__law_sets]) mg "most_covered_by" "most_covered_by" s_most_covered_by ["sets", "k"])
    (d_fewest_sets : HasDef (cutK K0 [P__law_sets]) mg "fewest_sets" "fewest_sets" s_fewest_sets ["sets"])
    (d__law_covering : HasDef (cutK K0 [P__law_sets]) mg "_law_covering" "_law_covering" s__law_covering ["box"])
    (d_law : HasDef (cutK K0 [P__law_sets]) mg "law" "law" s_law ["script"])
    (k_MOST_PLACES : ∃ t, mg "MOST_PLACES" = some (.int 16 t))
    (k_MOST_PLANS : ∃ t, mg "MOST_PLANS" = some (.int 5 t))
    (k_MOST_SETS : ∃ t, mg "MOST_SETS" = some (.int 10 t))
    (k_MOST_VOTES : ∃ t, mg "MOST_VOTES" = some (.int 12 t))
    (z_abs : mg "abs" = none)
    (z_all : mg "all" = none)
    (z_any : mg "any" = none)
    (z_bool : mg "bool" = none)
    (z_enumerate : mg "enumerate" = none)
    (z_int : mg "int" = none)
    (z_isinstance : mg "isinstance" = none)
    (z_len : mg "len" = none)
    (z_list : mg "list" = none)
    (z_max : mg "max" = none)
    (z_min : mg "min" = none)
    (z_range : mg "range" = none)
    (z_repr : mg "repr" = none)
    (z_sorted : mg "sorted" = none)
    (z_sum : mg "sum" = none)
    (z_tuple : mg "tuple" = none) :
    ∃ (K : PySem.W.Frag) (fd : FuncData) (cs : List (Addr × Addr × Str)), K.In h ∧ KT K ∧ TabsAt K h cs ∧ (∀ (s : Shared) (u : Value), BindsTo s fd ⟨[u], []⟩ [("script", u)]) ∧ ∀ base : Heap, K.In base → base.Ns mainGlobals mg → (∀ p ∈ cs, LamX.TabB base mg p.1 p.2.1) → FnG P w K mg base 7 fa fd ["script"] (spF (tabT cs) K 1 m_law) := by
  have nd2 : ((cst ⟨c__law_sets, P__law_sets⟩).map fun p => p.2.1).Nodup := nd
  refine end_ (C := ⟨c__law_sets, P__law_sets⟩) (cutK_In X) (kt_of (cut_tupB kt)) ⟨d__law_cell, d__law_stream, d__law_orders, d__law_apart, d__law_nearest, d__law_draw, d__law_vote, d_is_integer, d_is_below, d_check_order, d_far, d_distance, d_check_votes, d_nearest, d__law_votes, d__law_over, d_is_set, d_check_sets, d_is_between, d_check_most, d_covered, d_greedily, d__law_sets, (by simp [zt]), (tab_uniq (zt ⟨c__law_sets, P__law_sets⟩) nd (by simp [zt])), d_sets_of, d_most_covered_by, d_fewest_sets, d__law_covering, d_law, k_MOST_PLACES, k_MOST_PLANS, k_MOST_SETS, k_MOST_VOTES, z_abs, z_all, z_any, z_bool, z_enumerate, z_int, z_isinstance, z_len, z_list, z_max, z_min, z_range, z_repr, z_sorted, z_sum, z_tuple⟩ ⟨?_, ?_, ?_, nd2⟩ hmg
  · intro p hp; simp only [cst, List.mem_cons, List.not_mem_nil, or_false] at hp; rcases hp with rfl
    · exact tT__law_sets
  · intro p hp; refine cutK_none ?_; simp only [cst, List.mem_cons, List.not_mem_nil, or_false] at hp; rcases hp with rfl <;> simp
  · intro p hp; simp only [cst, List.mem_cons, List.not_mem_nil, or_false] at hp; rcases hp with rfl
    · exact PySem.W.codeHd_of_K X hd__law_sets
end L35

set_option Elab.async false
set_option linter.all false
set_option maxRecDepth 100000
namespace L35
open PySem PySem.Spec PyProof.Rows L2 Ev Nr
def Bx (rest : M) (m : M) : Prop := ∃ a b : Int, m = .lst [.int a, .int b] :: rest ∧ 0 ≤ a ∧ 0 ≤ b ∧ b < 4294967296
theorem draw {rest m : M} {k : Int} (h : Bx rest m) (hk : 0 < k) (hk2 : k < 1000000) : ∃ d m', m__law_draw [.ref 0, .val (.int k)] m = some (.val (.int d), m') ∧ 0 ≤ d ∧ d < k ∧ Bx rest m' := by
  obtain ⟨a, b, rfl, ha, hb, hb2⟩ := h
  have e1 : ∀ (x y : Int) (i : Int), pIdx (.ref 0) (.val (.int i)) (.lst [.int x, .int y] :: rest) = (atI [PyData.int x, .int y] i).bind fun d => some (.val d, .lst [.int x, .int y] :: rest) := fun x y i => pix_r rfl
  have e2 : ∀ (x y : Int) (i z : Int), pSet (.ref 0) (.val (.int i)) (.val (.int z)) (.lst [.int x, .int y] :: rest) = (ixN 2 i).bind fun j => some (.lst ([PyData.int x, .int y].set j (.int z)) :: rest) := fun x y i z => pset_r (m := .lst [.int x, .int y] :: rest) (k := 0) (ds := [.int x, .int y]) rfl
  by_cases h0 : 0 < a
  · refine ⟨a % k, .lst [.int (a / k), .int b] :: rest, ?_, Int.emod_nonneg _ (by omega), Int.emod_lt_of_pos _ hk, _, _, rfl, Int.ediv_nonneg ha (by omega), hb, hb2⟩
    simp [m__law_draw, bodyF, b__law_draw, e1, e2, h0, pmd_ii hk, pdv_ii hk (show k < 18446744073709551616 by omega), show ixN 2 (0 : Int) = some 0 from rfl, leave]
  · have hm : 0 ≤ (b * 48271 + 12345) % 2147483647 := Int.emod_nonneg _ (by decide)
    have hm2 : (b * 48271 + 12345) % 2147483647 < 2147483647 := Int.emod_lt_of_pos _ (by decide)
    refine ⟨((b * 48271 + 12345) % 2147483647) / 64 % k, .lst [.int a, .int ((b * 48271 + 12345) % 2147483647)] :: rest, ?_, Int.emod_nonneg _ (by omega), Int.emod_lt_of_pos _ hk, _, _, rfl, ha, hm, by omega⟩
    simp [m__law_draw, bodyF, b__law_draw, e1, e2, h0, pmd_ii hk, pmd_ii, pdv_ii, pm_ii (i := b) (j := 48271) (by omega) (by decide), show ixN 2 (1 : Int) = some 1 from rfl, leave]
/-- the same, natural -/
theorem drawN {rest m : M} {k : Nat} (h : Bx rest m) (hk : 0 < k) (hk2 : k < 1000000) : ∃ (d : Nat) (m' : M), m__law_draw [.ref 0, .val (.int (k : Int))] m = some (.val (.int (d : Int)), m') ∧ d < k ∧ Bx rest m' := by
  obtain ⟨d, m', h1, h2, h3, h4⟩ := draw h (k := (k : Int)) (by omega) (by omega)
  refine ⟨d.toNat, m', ?_, by omega, h4⟩
  rw [h1]
  have : ((d.toNat : Nat) : Int) = d := by omega
  rw [this]
section
variable {m : M}
@[simp] theorem is_int_i {i : Int} : m_is_integer [.val (.int i)] m = some (.val (.bool true), m) := by
  simp [m_is_integer, bodyF, b_is_integer, isA, leave]
@[simp] theorem is_bet_i {i lo hi : Int} : m_is_between [.val (.int i), .val (.int lo), .val (.int hi)] m = some (.val (.bool (decide (lo ≤ i ∧ i ≤ hi))), m) := by
  by_cases h : lo ≤ i <;> simp [m_is_between, bodyF, b_is_between, leave, h]
end
/-! the store's end -/
section
variable {m : M} {a b c : Ob} {l : M}
theorem g0 : (m ++ a :: l)[m.length]? = some a := by simp
theorem g1 : (m ++ a :: b :: l)[m.length + 1]? = some b := by
  rw [List.getElem?_append_right (by omega)]
  simp
theorem s0 {x : Ob} : (m ++ a :: l).set m.length x = m ++ x :: l := by
  induction m with
  | nil => rfl
  | cons y m ih => exact congrArg (y :: ·) ih
theorem s1 {x : Ob} : (m ++ a :: b :: l).set (m.length + 1) x = m ++ a :: x :: l := by
  induction m with
  | nil => rfl
  | cons y m ih => exact congrArg (y :: ·) ih
theorem l1 : (m ++ [a]).length = m.length + 1 := by simp
theorem tk {l : M} : (m ++ l).take m.length = m := by simp
end
theorem Bx.len {rest m m' : M} (h : Bx rest m) (h' : Bx rest m') : m'.take m.length = m' := by
  obtain ⟨a, b, rfl, _⟩ := h
  obtain ⟨c, d, rfl, _⟩ := h'
  simp
section
variable {m : M}
theorem is_below_i {i b : Int} : m_is_below [.val (.int i), .val (.int b)] m = some (.val (.bool (decide (0 ≤ i ∧ i < b))), m) := by
  by_cases h : 0 ≤ i <;> simp [m_is_below, bodyF, b_is_below, leave, h]
end
end L35

set_option Elab.async false
set_option linter.all false
set_option maxRecDepth 100000
namespace L35
open PySem PySem.Spec PyProof.Rows L2 Ev Nr
section
variable {m : M} {n : Nat} {o v : List Nat}
abbrev tru : Nat → D := fun _ => .bool true
theorem kF_nil {f : Nat → D} : kF nI f [] = [] := rfl
theorem tru_dict (h : o.Nodup) : puts false [] (o.map fun a => (nI a, tru a)) = kF nI tru o := by
  have := puts_n (f := tru) o []
  rw [insF_new (by simpa using h), List.nil_append] at this
  exact this
theorem isA_T {l : List Nat} : isA .tuple (.val (encT l)) = true := rfl
theorem check_order_ok (H : Ord n o) (h1 : 1 ≤ n) (h4 : n ≤ 4) : m_check_order [.val (encT o)] m = some (.val .none, m) := by
  have hl : o.length ≤ 16777216 := by rw [H.len]; omega
  have c1 : nComp (itAny (eVar 0)) (.nm 1) [1] tTrue e_check_order1 [some (.val (encT o)), none] m = some (o.map fun _ => .bool true, m) :=
    comp_all nI (fun _ => .bool true) o rfl hl fun a ha => ⟨_, rfl, by
      have hlt := H.lt a ha
      have hd : (0 : Int) ≤ (a : Int) ∧ (a : Int) < (o.length : Int) := by rw [H.len]; omega
      simp only [e_check_order1, wipeE, ev_asg, ev_par, ev_if, ev_ret, ev_retN, ev_expr, ev_bin, ev_un, ev_ap, ev_cons, ev_nil, ev_varS, ev_var0, ev_c, ob_some, ev_gNm, ev_tOf, ev_asB, ev_asI, ev_tNot, ev_tAnd, ev_tOr, ev_eOf, ev_eIf, ev_chain, List.set_cons_succ, List.set_cons_zero, ev_then_nx, ev_then_rt, ev_next, ev_pTup, ev_valsC, ev_vals0, ev_eL, ev_bm, ev_aug, pix_t, pix_l, pixq0, pixq1, atI_0, atI_1, atI_2, pp_ii, ps_ii, pa_ii, plt_ii, ple_ii, pgt_ii, pge_ii, peq_ii, pne_ii, pneg_i, List.length_cons, List.length_nil, Nat.reduceAdd, Nat.reduceSub, Nat.reduceLeDiff, sz, if_true, Bool.false_eq_true, if_false, Bool.not_true, Bool.not_false, leave_v, List.take_length, plen_t, plen_l, ptup_l, ptup_t, pint_i, pis_n, pis_i, pis_t, pisnt_n, pisnt_i, pisnt_t, Int.cast_ofNat_Int, ne_eq, not_true_eq_false, not_false_eq_true, decide_true, decide_false, plen_T, is_below_i, hd, and_self, decide_true]⟩
  have c2 : eDc (itAny (eVar 0)) (.nm 1) [1] tTrue e_check_order2 e_check_order3 [some (.val (encT o)), none] m = some (.ref m.length, m ++ [.dct false false (kF nI tru o)]) := by
    rw [← tru_dict H.nd]
    exact dcomp_all nI nI tru o rfl hl fun a ha => ⟨_, rfl, fun kvs => ⟨rfl, rfl, rfl⟩⟩
  have p1 := pall_l (m := m) o fun _ => true
  have p2 : pLenD [.ref m.length] (m ++ [.dct false false (kF nI tru o)]) = _ := dlen_n getN
  have a1 : (1 : Int) ≤ (o.length : Int) := by rw [H.len]; omega
  have a2 : (o.length : Int) ≤ 5 := by rw [H.len]; omega
  have a3 : (o.all fun _ => true) = true := List.all_eq_true.mpr fun _ _ => rfl
  simp only [m_check_order, bodyF, List.length_cons, List.length_nil, Nat.reduceAdd, Nat.reduceSub, List.map_cons, List.map_nil, List.replicate, List.cons_append, List.nil_append, List.append_nil, b_check_order, ev_seq, ev_asg, ev_par, ev_if, ev_ret, ev_retN, ev_expr, ev_bin, ev_un, ev_ap, ev_cons, ev_nil, ev_varS, ev_var0, ev_c, ob_some, ev_gNm, ev_tOf, ev_asB, ev_asI, ev_tNot, ev_tAnd, ev_tOr, ev_eOf, ev_eIf, ev_chain, List.set_cons_succ, List.set_cons_zero, ev_then_nx, ev_then_rt, ev_next, ev_pTup, ev_valsC, ev_vals0, ev_eL, ev_bm, ev_aug, pix_t, pix_l, pixq0, pixq1, atI_0, atI_1, atI_2, pp_ii, ps_ii, pa_ii, plt_ii, ple_ii, pgt_ii, pge_ii, peq_ii, pne_ii, pneg_i, List.length_cons, List.length_nil, Nat.reduceAdd, Nat.reduceSub, Nat.reduceLeDiff, sz, if_true, Bool.false_eq_true, if_false, Bool.not_true, Bool.not_false, leave_v, List.take_length, plen_t, plen_l, ptup_l, ptup_t, pint_i, pis_n, pis_i, pis_t, pisnt_n, pisnt_i, pisnt_t, Int.cast_ofNat_Int, ne_eq, not_true_eq_false, not_false_eq_true, decide_true, decide_false, ev_isA, isA_T, plen_T, a1, a2, c1, p1, a3, ev_cut, c2, p2, tk, Int.lt_irrefl]
theorem far_ok (H : Ord n o) (K : Ord n v) (h4 : n ≤ 4) : m_far [.val (encT o), .val (encT v)] m = some (.val (.int ((dist o v : Nat) : Int)), m) := by
  have hl : v.length ≤ 16777216 := by rw [K.len]; omega
  have c1 : eDc (itEnum (aCons (eVar 1) aNil)) (.tp (.cons (.nm 3) (.cons (.nm 4) .nil))) [3, 4] tTrue e_far1 e_far2 [some (.val (encT o)), some (.val (encT v)), none, none, none, none] m = some (.ref m.length, m ++ [.dct false false (kF nI (fun a => nI (v.idxOf a)) v)]) := by
    have e := dcomp_all (it := itEnum (aCons (eVar 1) aNil)) (p := .tp (.cons (.nm 3) (.cons (.nm 4) .nil))) (vs := [3, 4]) (tk := e_far1) (tv := e_far2) (env := [some (.val (encT o)), some (.val (encT v)), none, none, none, none]) (m := m) encE (fun p => nI p.1) (fun p => nI p.2) v.zipIdx (by rw [← enum_N]; rfl) (by rw [List.length_zipIdx]; exact hl) fun p hp => ⟨_, rfl, fun kvs => ⟨rfl, rfl, rfl⟩⟩
    rw [e, zip_idx (fun a b => (nI a, nI b)) v K.nd]
    have q := puts_n (f := fun a => nI (v.idxOf a)) v []
    rw [insF_new (by simpa using K.nd), List.nil_append] at q
    exact congrArg (fun z => some (R.ref m.length, m ++ [Ob.dct false false z])) q
  generalize hmd : m ++ [Ob.dct false false (kF nI (fun a => nI (v.idxOf a)) v)] = md at c1
  have hg : md[m.length]? = some (.dct false false (kF nI (fun a => nI (v.idxOf a)) v)) := by rw [← hmd]; exact getN
  have hsum := far_inv v.idxOf o
  have hlen : (o.zipIdx.flatMap fun p => ((o.take p.2).filter fun x => decide (v.idxOf p.1 < v.idxOf x)).map fun _ => PyData.int 1).length = dist o v := by
    rw [List.length_flatMap]
    unfold dist
    rw [← hsum]
    congr 1
    refine List.map_congr_left fun p _ => ?_
    rw [List.length_map, List.countP_eq_length_filter]
  have hsmall : dist o v ≤ 16777216 := by
    have : ∀ l : List Nat, inv v.idxOf l ≤ l.length * l.length := fun l => by
      induction l with
      | nil => simp [inv]
      | cons a l ih =>
        have := List.countP_le_length (p := fun b => decide (v.idxOf b < v.idxOf a)) (l := l)
        simp only [inv, List.length_cons, Nat.add_mul, Nat.mul_add]
        omega
    have h := this o
    unfold dist
    rw [H.len] at h
    have : n * n ≤ 4 * 4 := Nat.mul_le_mul h4 h4
    omega
  have c2 : nComp2 (itEnum (aCons (eVar 0) aNil)) (.tp (.cons (.nm 3) (.cons (.nm 4) .nil))) [3, 4, 5] tTrue i_far4 (.nm 5) [5] t_far5 e_far3 [some (.val (encT o)), some (.val (encT v)), some (.ref m.length), none, none, none] md =
      some (o.zipIdx.flatMap fun p => ((o.take p.2).filter fun x => decide (v.idxOf p.1 < v.idxOf x)).map fun _ => PyData.int 1, md) := by
    refine comp2_all encE (fun p => ((o.take p.2).filter fun x => decide (v.idxOf p.1 < v.idxOf x)).map fun _ => PyData.int 1) o.zipIdx (by rw [← enum_N]; rfl) (by rw [hlen]; exact hsmall) fun p hp => ⟨_, rfl, (o.take p.2).map nI, ?_, ?_⟩
    · show i_far4 [some (.val (encT o)), some (.val (encT v)), some (.ref m.length), some (.val (.int (p.2 : Int))), some (.val (.int (p.1 : Int))), none] md = _
      simp only [i_far4, it_an, ev_sl, ev_oNone, ev_oSome, ev_asg, ev_par, ev_if, ev_ret, ev_retN, ev_expr, ev_bin, ev_un, ev_ap, ev_cons, ev_nil, ev_varS, ev_var0, ev_c, ob_some, ev_gNm, ev_tOf, ev_asB, ev_asI, ev_tNot, ev_tAnd, ev_tOr, ev_eOf, ev_eIf, ev_chain, List.set_cons_succ, List.set_cons_zero, ev_then_nx, ev_then_rt, ev_next, ev_pTup, ev_valsC, ev_vals0, ev_eL, ev_bm, ev_aug, pix_t, pix_l, pixq0, pixq1, atI_0, atI_1, atI_2, pp_ii, ps_ii, pa_ii, plt_ii, ple_ii, pgt_ii, pge_ii, peq_ii, pne_ii, pneg_i, List.length_cons, List.length_nil, Nat.reduceAdd, Nat.reduceSub, Nat.reduceLeDiff, sz, if_true, Bool.false_eq_true, if_false, Bool.not_true, Bool.not_false, leave_v, List.take_length, plen_t, plen_l, ptup_l, ptup_t, pint_i, pis_n, pis_i, pis_t, pisnt_n, pisnt_i, pisnt_t, Int.cast_ofNat_Int, ne_eq, not_true_eq_false, not_false_eq_true, decide_true, decide_false, encT, sl1_t, cut_take, an1_t]
      rw [encI_take]
      rfl
    · have hp1 : p.1 ∈ v := by
        obtain ⟨x, i⟩ := p
        have hi := List.mem_zipIdx hp
        have : x ∈ o := by rw [hi.2.2]; exact List.getElem_mem _
        exact K.mem.mpr (H.mem.mp this)
      refine clpL_map nI (fun x => decide (v.idxOf p.1 < v.idxOf x)) (fun _ => PyData.int 1) (o.take p.2) fun x hx => ⟨_, rfl, ?_, fun _ => rfl⟩
      have hx1 : x ∈ v := K.mem.mpr (H.mem.mp (List.mem_of_mem_take hx))
      show t_far5 [some (.val (encT o)), some (.val (encT v)), some (.ref m.length), some (.val (.int (p.2 : Int))), some (.val (.int (p.1 : Int))), some (.val (.int (x : Int)))] md = _
      simp only [t_far5, ev_asg, ev_par, ev_if, ev_ret, ev_retN, ev_expr, ev_bin, ev_un, ev_ap, ev_cons, ev_nil, ev_varS, ev_var0, ev_c, ob_some, ev_gNm, ev_tOf, ev_asB, ev_asI, ev_tNot, ev_tAnd, ev_tOr, ev_eOf, ev_eIf, ev_chain, List.set_cons_succ, List.set_cons_zero, ev_then_nx, ev_then_rt, ev_next, ev_pTup, ev_valsC, ev_vals0, ev_eL, ev_bm, ev_aug, pix_t, pix_l, pixq0, pixq1, atI_0, atI_1, atI_2, pp_ii, ps_ii, pa_ii, plt_ii, ple_ii, pgt_ii, pge_ii, peq_ii, pne_ii, pneg_i, List.length_cons, List.length_nil, Nat.reduceAdd, Nat.reduceSub, Nat.reduceLeDiff, sz, if_true, Bool.false_eq_true, if_false, Bool.not_true, Bool.not_false, leave_v, List.take_length, plen_t, plen_l, ptup_l, ptup_t, pint_i, pis_n, pis_i, pis_t, pisnt_n, pisnt_i, pisnt_t, Int.cast_ofNat_Int, ne_eq, not_true_eq_false, not_false_eq_true, decide_true, decide_false, dget_n hg hp1, dget_n hg hx1, nI, Int.ofNat_lt]
  simp only [m_far, bodyF, List.length_cons, List.length_nil, Nat.reduceAdd, Nat.reduceSub, List.map_cons, List.map_nil, List.replicate, List.cons_append, List.nil_append, List.append_nil, b_far, ev_seq, ev_asg, ev_par, ev_if, ev_ret, ev_retN, ev_expr, ev_bin, ev_un, ev_ap, ev_cons, ev_nil, ev_varS, ev_var0, ev_c, ob_some, ev_gNm, ev_tOf, ev_asB, ev_asI, ev_tNot, ev_tAnd, ev_tOr, ev_eOf, ev_eIf, ev_chain, List.set_cons_succ, List.set_cons_zero, ev_then_nx, ev_then_rt, ev_next, ev_pTup, ev_valsC, ev_vals0, ev_eL, ev_bm, ev_aug, pix_t, pix_l, pixq0, pixq1, atI_0, atI_1, atI_2, pp_ii, ps_ii, pa_ii, plt_ii, ple_ii, pgt_ii, pge_ii, peq_ii, pne_ii, pneg_i, List.length_cons, List.length_nil, Nat.reduceAdd, Nat.reduceSub, Nat.reduceLeDiff, sz, if_true, Bool.false_eq_true, if_false, Bool.not_true, Bool.not_false, leave_v, List.take_length, plen_t, plen_l, ptup_l, ptup_t, pint_i, pis_n, pis_i, pis_t, pisnt_n, pisnt_i, pisnt_t, Int.cast_ofNat_Int, ne_eq, not_true_eq_false, not_false_eq_true, decide_true, decide_false, c1, c2, hlen]
  rw [← hmd]
  simp only [tk]
theorem distance_ok (H : Ord n o) (K : Ord n v) (h1 : 1 ≤ n) (h4 : n ≤ 4) : m_distance [.val (encT o), .val (encT v)] m = some (.val (.int ((dist o v : Nat) : Int)), m) := by
  simp only [m_distance, bodyF, List.length_cons, List.length_nil, Nat.reduceAdd, Nat.reduceSub, List.map_cons, List.map_nil, List.replicate, List.cons_append, List.nil_append, List.append_nil, b_distance, ev_seq, ev_asg, ev_par, ev_if, ev_ret, ev_retN, ev_expr, ev_bin, ev_un, ev_ap, ev_cons, ev_nil, ev_varS, ev_var0, ev_c, ob_some, ev_gNm, ev_tOf, ev_asB, ev_asI, ev_tNot, ev_tAnd, ev_tOr, ev_eOf, ev_eIf, ev_chain, List.set_cons_succ, List.set_cons_zero, ev_then_nx, ev_then_rt, ev_next, ev_pTup, ev_valsC, ev_vals0, ev_eL, ev_bm, ev_aug, pix_t, pix_l, pixq0, pixq1, atI_0, atI_1, atI_2, pp_ii, ps_ii, pa_ii, plt_ii, ple_ii, pgt_ii, pge_ii, peq_ii, pne_ii, pneg_i, List.length_cons, List.length_nil, Nat.reduceAdd, Nat.reduceSub, Nat.reduceLeDiff, sz, if_true, Bool.false_eq_true, if_false, Bool.not_true, Bool.not_false, leave_v, List.take_length, plen_t, plen_l, ptup_l, ptup_t, pint_i, pis_n, pis_i, pis_t, pisnt_n, pisnt_i, pisnt_t, Int.cast_ofNat_Int, ne_eq, not_true_eq_false, not_false_eq_true, decide_true, decide_false, check_order_ok H h1 h4, check_order_ok K h1 h4, plen_T, H.len, K.len, far_ok H K h4]
/-- the law's own -/
def ap1 (one two : List Nat) (a : Nat) : Nat := one.countP (fun b => decide (one.idxOf a < one.idxOf b) && decide (two.idxOf b < two.idxOf a))
theorem apart_ok (H : Ord n o) (K : Ord n v) (h4 : n ≤ 4) : m__law_apart [.val (encT o), .val (encT v)] m = some (.val (.int ((dist o v : Nat) : Int)), m) := by
  have hl : o.length ≤ 16777216 := by rw [H.len]; omega
  have lp := loop_fold (gf := gNm 3) (sf := l__law_apart3) nI (fun b : Nat × Option R => [some (.val (encT o)), some (.val (encT v)), some (.val (.int (b.1 : Int))), b.2, none]) (fun _ => m) (fun b a => (b.1 + ap1 o v a, some (.val (.int (a : Int))))) (fun _ => True) o (0, none) trivial fun a ha b _ => ⟨trivial, _, _, rfl, by
    have ha2 : a ∈ v := K.mem.mpr (H.mem.mp ha)
    have c1 : nComp (itAny (eVar 0)) (.nm 4) [4] t__law_apart2 e__law_apart1 [some (.val (encT o)), some (.val (encT v)), some (.val (.int (b.1 : Int))), some (.val (.int (a : Int))), none] m = some ((o.filter fun b => decide (o.idxOf a < o.idxOf b) && decide (v.idxOf b < v.idxOf a)).map fun _ => .int 1, m) :=
      comp_map nI (fun b => decide (o.idxOf a < o.idxOf b) && decide (v.idxOf b < v.idxOf a)) (fun _ => .int 1) o rfl hl fun b hb => ⟨_, rfl, by
        have hb2 : b ∈ v := K.mem.mpr (H.mem.mp hb)
        have i1 := pidxT_N (m := m) ha
        have i2 := pidxT_N (m := m) hb
        have i3 := pidxT_N (m := m) ha2
        have i4 := pidxT_N (m := m) hb2
        unfold encT at i1 i2 i3 i4
        simp only [t__law_apart2, wipeE, ev_asg, ev_par, ev_if, ev_ret, ev_retN, ev_expr, ev_bin, ev_un, ev_ap, ev_cons, ev_nil, ev_varS, ev_var0, ev_c, ob_some, ev_gNm, ev_tOf, ev_asB, ev_asI, ev_tNot, ev_tAnd, ev_tOr, ev_eOf, ev_eIf, ev_chain, List.set_cons_succ, List.set_cons_zero, ev_then_nx, ev_then_rt, ev_next, ev_pTup, ev_valsC, ev_vals0, ev_eL, ev_bm, ev_aug, pix_t, pix_l, pixq0, pixq1, atI_0, atI_1, atI_2, pp_ii, ps_ii, pa_ii, plt_ii, ple_ii, pgt_ii, pge_ii, peq_ii, pne_ii, pneg_i, List.length_cons, List.length_nil, Nat.reduceAdd, Nat.reduceSub, Nat.reduceLeDiff, sz, if_true, Bool.false_eq_true, if_false, Bool.not_true, Bool.not_false, leave_v, List.take_length, plen_t, plen_l, ptup_l, ptup_t, pint_i, pis_n, pis_i, pis_t, pisnt_n, pisnt_i, pisnt_t, Int.cast_ofNat_Int, ne_eq, not_true_eq_false, not_false_eq_true, decide_true, decide_false, ev_bmT, encT, i1, i2, i3, i4, Int.ofNat_lt]
        by_cases c : o.idxOf a < o.idxOf b <;> simp [c], fun _ => rfl⟩
    have e : (b.1 : Int) + (((o.filter fun b => decide (o.idxOf a < o.idxOf b) && decide (v.idxOf b < v.idxOf a)).length : Nat) : Int) = ((b.1 + ap1 o v a : Nat) : Int) := by
      unfold ap1
      rw [List.countP_eq_length_filter]
      push_cast
      rfl
    show l__law_apart3 [some (.val (encT o)), some (.val (encT v)), some (.val (.int (b.1 : Int))), some (.val (.int (a : Int))), none] m = _
    simp only [l__law_apart3, ev_asg, ev_par, ev_if, ev_ret, ev_retN, ev_expr, ev_bin, ev_un, ev_ap, ev_cons, ev_nil, ev_varS, ev_var0, ev_c, ob_some, ev_gNm, ev_tOf, ev_asB, ev_asI, ev_tNot, ev_tAnd, ev_tOr, ev_eOf, ev_eIf, ev_chain, List.set_cons_succ, List.set_cons_zero, ev_then_nx, ev_then_rt, ev_next, ev_pTup, ev_valsC, ev_vals0, ev_eL, ev_bm, ev_aug, pix_t, pix_l, pixq0, pixq1, atI_0, atI_1, atI_2, pp_ii, ps_ii, pa_ii, plt_ii, ple_ii, pgt_ii, pge_ii, peq_ii, pne_ii, pneg_i, List.length_cons, List.length_nil, Nat.reduceAdd, Nat.reduceSub, Nat.reduceLeDiff, sz, if_true, Bool.false_eq_true, if_false, Bool.not_true, Bool.not_false, leave_v, List.take_length, plen_t, plen_l, ptup_l, ptup_t, pint_i, pis_n, pis_i, pis_t, pisnt_n, pisnt_i, pisnt_t, Int.cast_ofNat_Int, ne_eq, not_true_eq_false, not_false_eq_true, decide_true, decide_false, c1, List.length_map, e]⟩
  have hf : ∀ (l : List Nat) (b : Nat × Option R), (l.foldl (fun b a => (b.1 + ap1 o v a, some (R.val (.int (a : Int))))) b).1 = b.1 + (l.map (ap1 o v)).sum := fun l => by
    induction l with
    | nil => intro b; simp
    | cons a l ih => intro b; rw [List.foldl_cons, ih]; simp; omega
  have hs : (o.map (ap1 o v)).sum = dist o v := ap_inv v.idxOf H.nd
  have lp1 := lp.1
  have e1 := hf o (0, none)
  rw [hs, Nat.zero_add] at e1
  have eo : encI o = o.map nI := rfl
  have e0 : ((0 : Nat) : Int) = 0 := rfl
  simp only [e0] at lp1
  simp only [m__law_apart, bodyF, List.length_cons, List.length_nil, Nat.reduceAdd, Nat.reduceSub, List.map_cons, List.map_nil, List.replicate, List.cons_append, List.nil_append, List.append_nil, b__law_apart, ev_seq, ev_asg, ev_par, ev_if, ev_ret, ev_retN, ev_expr, ev_bin, ev_un, ev_ap, ev_cons, ev_nil, ev_varS, ev_var0, ev_c, ob_some, ev_gNm, ev_tOf, ev_asB, ev_asI, ev_tNot, ev_tAnd, ev_tOr, ev_eOf, ev_eIf, ev_chain, List.set_cons_succ, List.set_cons_zero, ev_then_nx, ev_then_rt, ev_next, ev_pTup, ev_valsC, ev_vals0, ev_eL, ev_bm, ev_aug, pix_t, pix_l, pixq0, pixq1, atI_0, atI_1, atI_2, pp_ii, ps_ii, pa_ii, plt_ii, ple_ii, pgt_ii, pge_ii, peq_ii, pne_ii, pneg_i, List.length_cons, List.length_nil, Nat.reduceAdd, Nat.reduceSub, Nat.reduceLeDiff, sz, if_true, Bool.false_eq_true, if_false, Bool.not_true, Bool.not_false, leave_v, List.take_length, plen_t, plen_l, ptup_l, ptup_t, pint_i, pis_n, pis_i, pis_t, pisnt_n, pisnt_i, pisnt_t, Int.cast_ofNat_Int, ne_eq, not_true_eq_false, not_false_eq_true, decide_true, decide_false, ev_for, it_an]
  rw [show an1 (.val (encT o)) m = iL (encI o) m from rfl, run_iL, eo, lp1]
  simp only [ev_asg, ev_par, ev_if, ev_ret, ev_retN, ev_expr, ev_bin, ev_un, ev_ap, ev_cons, ev_nil, ev_varS, ev_var0, ev_c, ob_some, ev_gNm, ev_tOf, ev_asB, ev_asI, ev_tNot, ev_tAnd, ev_tOr, ev_eOf, ev_eIf, ev_chain, List.set_cons_succ, List.set_cons_zero, ev_then_nx, ev_then_rt, ev_next, ev_pTup, ev_valsC, ev_vals0, ev_eL, ev_bm, ev_aug, pix_t, pix_l, pixq0, pixq1, atI_0, atI_1, atI_2, pp_ii, ps_ii, pa_ii, plt_ii, ple_ii, pgt_ii, pge_ii, peq_ii, pne_ii, pneg_i, List.length_cons, List.length_nil, Nat.reduceAdd, Nat.reduceSub, Nat.reduceLeDiff, sz, if_true, Bool.false_eq_true, if_false, Bool.not_true, Bool.not_false, leave_v, List.take_length, plen_t, plen_l, ptup_l, ptup_t, pint_i, pis_n, pis_i, pis_t, pisnt_n, pisnt_i, pisnt_t, Int.cast_ofNat_Int, ne_eq, not_true_eq_false, not_false_eq_true, decide_true, decide_false, e1]
end
end L35

set_option Elab.async false
set_option linter.all false
set_option maxRecDepth 100000
namespace L35
open PySem PySem.Spec PyProof.Rows L2 Ev Nr
section
variable {m : M} {n : Nat} {o v : List Nat} {votes : List (List Nat)}
theorem rows_nil {n : Nat} (h : n ≤ 4) : ∀ j, rowsN n (5 + j) = []
  | 0 => by
    have : ∀ n, n < 5 → rowsN n 5 = [] := by decide +kernel
    exact this n (by omega)
  | j + 1 => by
    show grow n (rowsN n (5 + j)) = []
    rw [rows_nil h j]
    rfl
theorem rows_len {n k : Nat} (h : n ≤ 4) : (rowsN n k).length ≤ 24 := by
  by_cases c : k < 5
  · have : ∀ n, n < 5 → ∀ k, k < 5 → (rowsN n k).length ≤ 24 := by decide +kernel
    exact this n (by omega) k c
  · obtain ⟨j, rfl⟩ : ∃ j, k = 5 + j := ⟨k - 5, by omega⟩
    rw [rows_nil h]
    exact Nat.zero_le _
theorem rows_row {n k : Nat} (h : n ≤ 4) {row : List Nat} (hr : row ∈ rowsN n k) : row.length ≤ 4 := by
  obtain ⟨h1, h2, h3⟩ := mem_rows.mp hr
  have := List.Nodup.length_le_of_subset h1 (l₂ := List.range n) fun a ha => List.mem_range.mpr (h3 a ha)
  rw [List.length_range] at this
  omega
theorem rows_sorted {n : Nat} (h : n ≤ 4) : (rowsN n n).Pairwise (· < ·) := by
  have : ∀ n, n < 5 → (rowsN n n).Pairwise (· < ·) := by decide +kernel
  exact this n (by omega)
def ext (n : Nat) (row : List Nat) : List (List Nat) := ((List.range n).filter fun i => !decide (i ∈ row)).map fun i => row ++ [i]
theorem ext_len {n : Nat} (h : n ≤ 4) (row : List Nat) : (ext n row).length ≤ 4 := by
  unfold ext
  rw [List.length_map]
  have := List.length_filter_le (fun i => !decide (i ∈ row)) (List.range n)
  rw [List.length_range] at this
  omega
theorem fm_len {n : Nat} (h : n ≤ 4) : ∀ l : List (List Nat), (l.flatMap (ext n)).length ≤ 4 * l.length
  | [] => by simp
  | a :: l => by
    have := fm_len h l
    have := ext_len h a
    rw [List.flatMap_cons, List.length_append, List.length_cons]
    omega
/-- one more plan behind each row -/
theorem ext_eval {row : List Nat} {n : Nat} {mm : M} {e2 e3 : Option R} {rows : R} (hn : n ≤ 4) (hr : row.length ≤ 4) :
    nComp (itRng1 (aCons (eVar 0) aNil)) (.nm 5) [5] t__law_orders2 e__law_orders1 [some (.val (.int (n : Int))), some rows, e2, e3, some (.val (encT row)), none] mm = some ((ext n row).map encT, mm) := by
  have rg := rg1_nat (m := mm) (n := n) (by omega)
  have := comp_map (it := itRng1 (aCons (eVar 0) aNil)) (p := .nm 5) (vs := [5]) (tt := t__law_orders2) (te := e__law_orders1) (env := [some (.val (.int (n : Int))), some rows, e2, e3, some (.val (encT row)), none]) (m := mm) nI (fun i => !decide (i ∈ row)) (fun i => encT (row ++ [i])) (List.range n) (by simp only [it_rg1, ev_asg, ev_par, ev_if, ev_ret, ev_retN, ev_expr, ev_bin, ev_un, ev_ap, ev_cons, ev_nil, ev_varS, ev_var0, ev_c, ob_some, ev_gNm, ev_tOf, ev_asB, ev_asI, ev_tNot, ev_tAnd, ev_tOr, ev_eOf, ev_eIf, ev_chain, List.set_cons_succ, List.set_cons_zero, ev_then_nx, ev_then_rt, ev_next, ev_pTup, ev_valsC, ev_vals0, ev_eL, ev_bm, ev_aug, pix_t, pix_l, pixq0, pixq1, atI_0, atI_1, atI_2, pp_ii, ps_ii, pa_ii, plt_ii, ple_ii, pgt_ii, pge_ii, peq_ii, pne_ii, pneg_i, List.length_cons, List.length_nil, Nat.reduceAdd, Nat.reduceSub, Nat.reduceLeDiff, sz, if_true, Bool.false_eq_true, if_false, Bool.not_true, Bool.not_false, leave_v, List.take_length, plen_t, plen_l, ptup_l, ptup_t, pint_i, pis_n, pis_i, pis_t, pisnt_n, pisnt_i, pisnt_t, Int.cast_ofNat_Int, ne_eq, not_true_eq_false, not_false_eq_true, decide_true, decide_false, rg]) (by rw [List.length_range]; omega) fun i hi => ⟨_, rfl, by
      show t__law_orders2 [some (.val (.int (n : Int))), some rows, e2, e3, some (.val (encT row)), some (.val (.int (i : Int)))] mm = _
      simp only [t__law_orders2, ev_asg, ev_par, ev_if, ev_ret, ev_retN, ev_expr, ev_bin, ev_un, ev_ap, ev_cons, ev_nil, ev_varS, ev_var0, ev_c, ob_some, ev_gNm, ev_tOf, ev_asB, ev_asI, ev_tNot, ev_tAnd, ev_tOr, ev_eOf, ev_eIf, ev_chain, List.set_cons_succ, List.set_cons_zero, ev_then_nx, ev_then_rt, ev_next, ev_pTup, ev_valsC, ev_vals0, ev_eL, ev_bm, ev_aug, pix_t, pix_l, pixq0, pixq1, atI_0, atI_1, atI_2, pp_ii, ps_ii, pa_ii, plt_ii, ple_ii, pgt_ii, pge_ii, peq_ii, pne_ii, pneg_i, List.length_cons, List.length_nil, Nat.reduceAdd, Nat.reduceSub, Nat.reduceLeDiff, sz, if_true, Bool.false_eq_true, if_false, Bool.not_true, Bool.not_false, leave_v, List.take_length, plen_t, plen_l, ptup_l, ptup_t, pint_i, pis_n, pis_i, pis_t, pisnt_n, pisnt_i, pisnt_t, Int.cast_ofNat_Int, ne_eq, not_true_eq_false, not_false_eq_true, decide_true, decide_false, pnin_N asLT_T], fun _ => by
      show e__law_orders1 [some (.val (.int (n : Int))), some rows, e2, e3, some (.val (encT row)), some (.val (.int (i : Int)))] mm = _
      have := pp_TT (a := row) (b := [i]) (m := mm) (by rw [List.length_singleton]; omega)
      have e : PyData.tuple [.int (i : Int)] = encT [i] := rfl
      have z : (0 + 1 : Nat) ≤ 16777216 := by decide
      simp only [e__law_orders1, ev_asg, ev_par, ev_if, ev_ret, ev_retN, ev_expr, ev_bin, ev_un, ev_ap, ev_cons, ev_nil, ev_varS, ev_var0, ev_c, ob_some, ev_gNm, ev_tOf, ev_asB, ev_asI, ev_tNot, ev_tAnd, ev_tOr, ev_eOf, ev_eIf, ev_chain, List.set_cons_succ, List.set_cons_zero, ev_then_nx, ev_then_rt, ev_next, ev_pTup, ev_valsC, ev_vals0, ev_eL, ev_bm, ev_aug, pix_t, pix_l, pixq0, pixq1, atI_0, atI_1, atI_2, pp_ii, ps_ii, pa_ii, plt_ii, ple_ii, pgt_ii, pge_ii, peq_ii, pne_ii, pneg_i, List.length_cons, List.length_nil, Nat.reduceAdd, Nat.reduceSub, Nat.reduceLeDiff, sz, if_true, Bool.false_eq_true, if_false, Bool.not_true, Bool.not_false, leave_v, List.take_length, plen_t, plen_l, ptup_l, ptup_t, pint_i, pis_n, pis_i, pis_t, pisnt_n, pisnt_i, pisnt_t, Int.cast_ofNat_Int, ne_eq, not_true_eq_false, not_false_eq_true, decide_true, decide_false, z, e, this]⟩
  rw [this]
  unfold ext
  rw [List.map_map]
  rfl
theorem orders_ok (h1 : 1 ≤ n) (h4 : n ≤ 4) : m__law_orders [.val (.int (n : Int))] m = some (.val (.list ((rowsN n n).map encT)), m) := by
  have inner : ∀ (rows : List (List Nat)) (e2 : Option R), rows.length ≤ 24 → (∀ r ∈ rows, r.length ≤ 4) → ∀ e4, ∃ e4', loopL (gNm 4) l__law_orders3 (rows.map encT) [some (.val (.int (n : Int))), some (.val (.list (rows.map encT))), e2, some (.val (.list [])), e4, none] m = some (.nx [some (.val (.int (n : Int))), some (.val (.list (rows.map encT))), e2, some (.val (.list ((grow n rows).map encT))), e4', none] m) := fun rows e2 hl hr e4 => by
    obtain ⟨e', m', h, e4', rfl, rfl⟩ := loop_inv (gf := gNm 4) (sf := l__law_orders3) encT (fun j env mm => ∃ e4, env = [some (.val (.int (n : Int))), some (.val (.list (rows.map encT))), e2, some (.val (.list (((rows.take j).flatMap (ext n)).map encT))), e4, none] ∧ mm = m) rows
      [some (.val (.int (n : Int))), some (.val (.list (rows.map encT))), e2, some (.val (.list [])), e4, none] m ⟨e4, rfl, rfl⟩ fun j row hj env mm ⟨e4, he, hm⟩ => by
      subst he hm
      have hrow := hr row (List.mem_of_getElem? hj)
      have hj2 := (List.getElem?_eq_some_iff.mp hj).1
      have he := ext_len h4 row
      have hf := fm_len h4 (rows.take j)
      rw [List.length_take] at hf
      have pl := pp_ll (m := mm) (ds := ((rows.take j).flatMap (ext n)).map encT) (es := (ext n row).map encT) (by simp only [List.length_map]; omega)
      have et : rows.take (j + 1) = rows.take j ++ [row] := by rw [List.take_add_one, hj]; rfl
      refine ⟨_, _, _, _, rfl, ?_, some (.val (encT row)), rfl, rfl⟩
      show l__law_orders3 [some (.val (.int (n : Int))), some (.val (.list (rows.map encT))), e2, some (.val (.list (((rows.take j).flatMap (ext n)).map encT))), some (.val (encT row)), none] mm = _
      rw [et]
      simp only [l__law_orders3, ev_asg, ev_par, ev_if, ev_ret, ev_retN, ev_expr, ev_bin, ev_un, ev_ap, ev_cons, ev_nil, ev_varS, ev_var0, ev_c, ob_some, ev_gNm, ev_tOf, ev_asB, ev_asI, ev_tNot, ev_tAnd, ev_tOr, ev_eOf, ev_eIf, ev_chain, List.set_cons_succ, List.set_cons_zero, ev_then_nx, ev_then_rt, ev_next, ev_pTup, ev_valsC, ev_vals0, ev_eL, ev_bm, ev_aug, pix_t, pix_l, pixq0, pixq1, atI_0, atI_1, atI_2, pp_ii, ps_ii, pa_ii, plt_ii, ple_ii, pgt_ii, pge_ii, peq_ii, pne_ii, pneg_i, List.length_cons, List.length_nil, Nat.reduceAdd, Nat.reduceSub, Nat.reduceLeDiff, sz, if_true, Bool.false_eq_true, if_false, Bool.not_true, Bool.not_false, leave_v, List.take_length, plen_t, plen_l, ptup_l, ptup_t, pint_i, pis_n, pis_i, pis_t, pisnt_n, pisnt_i, pisnt_t, Int.cast_ofNat_Int, ne_eq, not_true_eq_false, not_false_eq_true, decide_true, decide_false, ext_eval h4 hrow, pl, List.map_append, List.flatMap_append, List.flatMap_cons, List.flatMap_nil, List.append_nil]
    refine ⟨e4', ?_⟩
    rw [h, List.take_length]
    rfl
  obtain ⟨e', m', h, e2, e3, e4, rfl, rfl⟩ := loop_inv (gf := gNm 2) (sf := l__law_orders4) nI (fun j env mm => ∃ e2 e3 e4, env = [some (.val (.int (n : Int))), some (.val (.list ((rowsN n j).map encT))), e2, e3, e4, none] ∧ mm = m) (List.range n)
    [some (.val (.int (n : Int))), some (.val (.list [encT []])), none, none, none, none] m ⟨none, none, none, rfl, rfl⟩ fun j a hj env mm ⟨e2, e3, e4, he, hm⟩ => by
    subst he hm
    obtain ⟨e4', hi⟩ := inner (rowsN n j) (some (.val (.int (a : Int)))) (rows_len h4) (fun r hr => rows_row h4 hr) e4
    refine ⟨_, _, _, _, rfl, ?_, some (.val (.int (a : Int))), some (.val (.list ((rowsN n (j + 1)).map encT))), e4', rfl, rfl⟩
    show l__law_orders4 [some (.val (.int (n : Int))), some (.val (.list ((rowsN n j).map encT))), some (.val (.int (a : Int))), e3, e4, none] mm = _
    have z : (0 : Nat) ≤ 16777216 := by decide
    simp only [l__law_orders4, ev_seq, ev_asg, ev_par, ev_if, ev_ret, ev_retN, ev_expr, ev_bin, ev_un, ev_ap, ev_cons, ev_nil, ev_varS, ev_var0, ev_c, ob_some, ev_gNm, ev_tOf, ev_asB, ev_asI, ev_tNot, ev_tAnd, ev_tOr, ev_eOf, ev_eIf, ev_chain, List.set_cons_succ, List.set_cons_zero, ev_then_nx, ev_then_rt, ev_next, ev_pTup, ev_valsC, ev_vals0, ev_eL, ev_bm, ev_aug, pix_t, pix_l, pixq0, pixq1, atI_0, atI_1, atI_2, pp_ii, ps_ii, pa_ii, plt_ii, ple_ii, pgt_ii, pge_ii, peq_ii, pne_ii, pneg_i, List.length_cons, List.length_nil, Nat.reduceAdd, Nat.reduceSub, Nat.reduceLeDiff, sz, if_true, Bool.false_eq_true, if_false, Bool.not_true, Bool.not_false, leave_v, List.take_length, plen_t, plen_l, ptup_l, ptup_t, pint_i, pis_n, pis_i, pis_t, pisnt_n, pisnt_i, pisnt_t, Int.cast_ofNat_Int, ne_eq, not_true_eq_false, not_false_eq_true, decide_true, decide_false, ev_nLst, z, ev_for, it_an, an1_l, run_iL, hi]
    rfl
  have rg := rg1_nat (m := m') (n := n) (by omega)
  have hs := psort_sorted (m := m') (rows_sorted h4) (fun u hu z => by
    have := (mem_rows.mp hu).2.1
    rw [z] at this
    simp at this
    omega) (by have := rows_len (k := n) h4; omega)
  have z : (0 + 1 : Nat) ≤ 16777216 := by decide
  have z0 : (0 : Nat) ≤ 16777216 := by decide
  have ee : PyData.tuple [] = encT [] := rfl
  rw [List.length_range] at h
  have er : ((List.range n).map fun j : Nat => PyData.int j) = (List.range n).map nI := rfl
  simp only [m__law_orders, bodyF, List.length_cons, List.length_nil, Nat.reduceAdd, Nat.reduceSub, List.map_cons, List.map_nil, List.replicate, List.cons_append, List.nil_append, List.append_nil, b__law_orders, ev_seq, ev_asg, ev_par, ev_if, ev_ret, ev_retN, ev_expr, ev_bin, ev_un, ev_ap, ev_cons, ev_nil, ev_varS, ev_var0, ev_c, ob_some, ev_gNm, ev_tOf, ev_asB, ev_asI, ev_tNot, ev_tAnd, ev_tOr, ev_eOf, ev_eIf, ev_chain, List.set_cons_succ, List.set_cons_zero, ev_then_nx, ev_then_rt, ev_next, ev_pTup, ev_valsC, ev_vals0, ev_eL, ev_bm, ev_aug, pix_t, pix_l, pixq0, pixq1, atI_0, atI_1, atI_2, pp_ii, ps_ii, pa_ii, plt_ii, ple_ii, pgt_ii, pge_ii, peq_ii, pne_ii, pneg_i, List.length_cons, List.length_nil, Nat.reduceAdd, Nat.reduceSub, Nat.reduceLeDiff, sz, if_true, Bool.false_eq_true, if_false, Bool.not_true, Bool.not_false, leave_v, List.take_length, plen_t, plen_l, ptup_l, ptup_t, pint_i, pis_n, pis_i, pis_t, pisnt_n, pisnt_i, pisnt_t, Int.cast_ofNat_Int, ne_eq, not_true_eq_false, not_false_eq_true, decide_true, decide_false, ev_nLst, z, z0, ee, ev_for, it_rg1, rg, run_iL, er, h, hs]
end
end L35

set_option Elab.async false
set_option linter.all false
set_option maxRecDepth 100000
namespace L35
open PySem PySem.Spec PyProof.Rows L2 Ev Nr
/-- the votes -/
structure Vs (n : Nat) (votes : List (List Nat)) : Prop where
  n1 : 1 ≤ n
  n4 : n ≤ 4
  v1 : 1 ≤ votes.length
  v5 : votes.length ≤ 5
  ord : ∀ v ∈ votes, Ord n v
section
variable {m : M} {n : Nat} {o v : List Nat} {votes : List (List Nat)}
theorem nearest2 (V : Vs n votes) (H : Ord n o) {e2 : Option R} : e__law_nearest2 [some (.val (.tuple (votes.map encT))), some (.val (.int (n : Int))), e2, some (.val (encT o)), none, none] m = some (.val (encP (tot votes o, o)), m) := by
  have hl : votes.length ≤ 16777216 := by have := V.v5; omega
  have c1 : nComp (itAny (eVar 0)) (.nm 5) [5] tTrue e__law_nearest1 [some (.val (.tuple (votes.map encT))), some (.val (.int (n : Int))), e2, some (.val (encT o)), none, none] m = some (votes.map fun v => .int ((dist o v : Nat) : Int), m) :=
    comp_all encT (fun v => .int ((dist o v : Nat) : Int)) votes rfl hl fun v hv => ⟨_, rfl, by
      show e__law_nearest1 [some (.val (.tuple (votes.map encT))), some (.val (.int (n : Int))), e2, some (.val (encT o)), none, some (.val (encT v))] m = _
      simp only [e__law_nearest1, ev_asg, ev_par, ev_if, ev_ret, ev_retN, ev_expr, ev_bin, ev_un, ev_ap, ev_cons, ev_nil, ev_varS, ev_var0, ev_c, ob_some, ev_gNm, ev_tOf, ev_asB, ev_asI, ev_tNot, ev_tAnd, ev_tOr, ev_eOf, ev_eIf, ev_chain, List.set_cons_succ, List.set_cons_zero, ev_then_nx, ev_then_rt, ev_next, ev_pTup, ev_valsC, ev_vals0, ev_eL, ev_bm, ev_aug, pix_t, pix_l, pixq0, pixq1, atI_0, atI_1, atI_2, pp_ii, ps_ii, pa_ii, plt_ii, ple_ii, pgt_ii, pge_ii, peq_ii, pne_ii, pneg_i, List.length_cons, List.length_nil, Nat.reduceAdd, Nat.reduceSub, Nat.reduceLeDiff, sz, if_true, Bool.false_eq_true, if_false, Bool.not_true, Bool.not_false, leave_v, List.take_length, plen_t, plen_l, ptup_l, ptup_t, pint_i, pis_n, pis_i, pis_t, pisnt_n, pisnt_i, pisnt_t, Int.cast_ofNat_Int, ne_eq, not_true_eq_false, not_false_eq_true, decide_true, decide_false, apart_ok H (V.ord v hv) V.n4]⟩
  have p := psum_L (m := m) votes (dist o)
  have z : (0 + 1 + 1 : Nat) ≤ 16777216 := by decide
  simp only [e__law_nearest2, ev_asg, ev_par, ev_if, ev_ret, ev_retN, ev_expr, ev_bin, ev_un, ev_ap, ev_cons, ev_nil, ev_varS, ev_var0, ev_c, ob_some, ev_gNm, ev_tOf, ev_asB, ev_asI, ev_tNot, ev_tAnd, ev_tOr, ev_eOf, ev_eIf, ev_chain, List.set_cons_succ, List.set_cons_zero, ev_then_nx, ev_then_rt, ev_next, ev_pTup, ev_valsC, ev_vals0, ev_eL, ev_bm, ev_aug, pix_t, pix_l, pixq0, pixq1, atI_0, atI_1, atI_2, pp_ii, ps_ii, pa_ii, plt_ii, ple_ii, pgt_ii, pge_ii, peq_ii, pne_ii, pneg_i, List.length_cons, List.length_nil, Nat.reduceAdd, Nat.reduceSub, Nat.reduceLeDiff, sz, if_true, Bool.false_eq_true, if_false, Bool.not_true, Bool.not_false, leave_v, List.take_length, plen_t, plen_l, ptup_l, ptup_t, pint_i, pis_n, pis_i, pis_t, pisnt_n, pisnt_i, pisnt_t, Int.cast_ofNat_Int, ne_eq, not_true_eq_false, not_false_eq_true, decide_true, decide_false, c1, p, z]
  rfl
def bestN (votes : List (List Nat)) (n : Nat) (r : Nat × List Nat) : List (Nat × List Nat) := ((rowsN n n).map fun o => (tot votes o, o)).filter fun p => decide (p.1 = r.1)
theorem rows_ne (h1 : 1 ≤ n) (h4 : n ≤ 4) : rowsN n n ≠ [] := by
  have : ∀ n, n < 5 → rowsN n n ≠ [] := by decide +kernel
  exact this n (by omega)
/-- the least sum -/
structure Least (votes : List (List Nat)) (n mn : Nat) : Prop where
  some_ : ∃ o ∈ rowsN n n, tot votes o = mn
  le : ∀ o ∈ rowsN n n, mn ≤ tot votes o
theorem law_nearest_ok {r : R} (V : Vs n votes) (hr : r = .val (.tuple (votes.map encT))) : ∃ mn, Least votes n mn ∧ m__law_nearest [r, .val (.int (n : Int))] m = some (.val (.list (((rowsN n n).filter fun o => decide (tot votes o = mn)).map fun o => encP (tot votes o, o))), m) := by
  subst hr
  have hl : (rowsN n n).length ≤ 16777216 := by have := rows_len (k := n) V.n4; omega
  have ok := orders_ok (m := m) V.n1 V.n4
  have c1 : nComp (itAny (eAp m__law_orders (aCons (eVar 1) aNil))) (.nm 3) [3] tTrue e__law_nearest2 [some (.val (.tuple (votes.map encT))), some (.val (.int (n : Int))), none, none, none, none] m = some ((rowsN n n).map fun o => encP (tot votes o, o), m) :=
    comp_all encT (fun o => encP (tot votes o, o)) (rowsN n n) (by simp only [it_an, ev_asg, ev_par, ev_if, ev_ret, ev_retN, ev_expr, ev_bin, ev_un, ev_ap, ev_cons, ev_nil, ev_varS, ev_var0, ev_c, ob_some, ev_gNm, ev_tOf, ev_asB, ev_asI, ev_tNot, ev_tAnd, ev_tOr, ev_eOf, ev_eIf, ev_chain, List.set_cons_succ, List.set_cons_zero, ev_then_nx, ev_then_rt, ev_next, ev_pTup, ev_valsC, ev_vals0, ev_eL, ev_bm, ev_aug, pix_t, pix_l, pixq0, pixq1, atI_0, atI_1, atI_2, pp_ii, ps_ii, pa_ii, plt_ii, ple_ii, pgt_ii, pge_ii, peq_ii, pne_ii, pneg_i, List.length_cons, List.length_nil, Nat.reduceAdd, Nat.reduceSub, Nat.reduceLeDiff, sz, if_true, Bool.false_eq_true, if_false, Bool.not_true, Bool.not_false, leave_v, List.take_length, plen_t, plen_l, ptup_l, ptup_t, pint_i, pis_n, pis_i, pis_t, pisnt_n, pisnt_i, pisnt_t, Int.cast_ofNat_Int, ne_eq, not_true_eq_false, not_false_eq_true, decide_true, decide_false, ok, an1_l]) hl fun o ho => ⟨_, rfl, nearest2 V (ord_rows.mp ho)⟩
  have e1 : ((rowsN n n).map fun o => encP (tot votes o, o)) = ((rowsN n n).map fun o => (tot votes o, o)).map encP := by rw [List.map_map]; rfl
  obtain ⟨r, p1, p2, p3⟩ := pmin_P (l := (rowsN n n).map fun o => (tot votes o, o)) (m := m) (fun z => rows_ne V.n1 V.n4 (List.map_eq_nil_iff.mp z))
  obtain ⟨o, ho, rfl⟩ := List.mem_map.mp p2
  refine ⟨tot votes o, ⟨⟨o, ho, rfl⟩, fun x hx => ?_⟩, ?_⟩
  · have := p3 _ (List.mem_map.mpr ⟨x, hx, rfl⟩)
    unfold ltP at this
    simp only at this
    omega
  · have c2 : nComp (itAny (eVar 2)) (.nm 4) [4] t__law_nearest4 e__law_nearest3 [some (.val (.tuple (votes.map encT))), some (.val (.int (n : Int))), some (.val (.list ((rowsN n n).map fun o => encP (tot votes o, o)))), none, none, none] m = some (((rowsN n n).filter fun x => decide (tot votes x = tot votes o)).map fun o => encP (tot votes o, o), m) := by
      refine comp_map (fun o => encP (tot votes o, o)) (fun x => decide (tot votes x = tot votes o)) (fun o => encP (tot votes o, o)) (rowsN n n) rfl hl fun x hx => ⟨_, rfl, ?_, fun _ => rfl⟩
      show t__law_nearest4 [some (.val (.tuple (votes.map encT))), some (.val (.int (n : Int))), some (.val (.list ((rowsN n n).map fun o => encP (tot votes o, o)))), none, some (.val (encP (tot votes x, x))), none] m = _
      simp only [t__law_nearest4, ev_asg, ev_par, ev_if, ev_ret, ev_retN, ev_expr, ev_bin, ev_un, ev_ap, ev_cons, ev_nil, ev_varS, ev_var0, ev_c, ob_some, ev_gNm, ev_tOf, ev_asB, ev_asI, ev_tNot, ev_tAnd, ev_tOr, ev_eOf, ev_eIf, ev_chain, List.set_cons_succ, List.set_cons_zero, ev_then_nx, ev_then_rt, ev_next, ev_pTup, ev_valsC, ev_vals0, ev_eL, ev_bm, ev_aug, pix_t, pix_l, pixq0, pixq1, atI_0, atI_1, atI_2, pp_ii, ps_ii, pa_ii, plt_ii, ple_ii, pgt_ii, pge_ii, peq_ii, pne_ii, pneg_i, List.length_cons, List.length_nil, Nat.reduceAdd, Nat.reduceSub, Nat.reduceLeDiff, sz, if_true, Bool.false_eq_true, if_false, Bool.not_true, Bool.not_false, leave_v, List.take_length, plen_t, plen_l, ptup_l, ptup_t, pint_i, pis_n, pis_i, pis_t, pisnt_n, pisnt_i, pisnt_t, Int.cast_ofNat_Int, ne_eq, not_true_eq_false, not_false_eq_true, decide_true, decide_false, pixP0, e1, p1, Int.ofNat_inj]
    simp only [m__law_nearest, bodyF, List.length_cons, List.length_nil, Nat.reduceAdd, Nat.reduceSub, List.map_cons, List.map_nil, List.replicate, List.cons_append, List.nil_append, List.append_nil, b__law_nearest, ev_seq, ev_asg, ev_par, ev_if, ev_ret, ev_retN, ev_expr, ev_bin, ev_un, ev_ap, ev_cons, ev_nil, ev_varS, ev_var0, ev_c, ob_some, ev_gNm, ev_tOf, ev_asB, ev_asI, ev_tNot, ev_tAnd, ev_tOr, ev_eOf, ev_eIf, ev_chain, List.set_cons_succ, List.set_cons_zero, ev_then_nx, ev_then_rt, ev_next, ev_pTup, ev_valsC, ev_vals0, ev_eL, ev_bm, ev_aug, pix_t, pix_l, pixq0, pixq1, atI_0, atI_1, atI_2, pp_ii, ps_ii, pa_ii, plt_ii, ple_ii, pgt_ii, pge_ii, peq_ii, pne_ii, pneg_i, List.length_cons, List.length_nil, Nat.reduceAdd, Nat.reduceSub, Nat.reduceLeDiff, sz, if_true, Bool.false_eq_true, if_false, Bool.not_true, Bool.not_false, leave_v, List.take_length, plen_t, plen_l, ptup_l, ptup_t, pint_i, pis_n, pis_i, pis_t, pisnt_n, pisnt_i, pisnt_t, Int.cast_ofNat_Int, ne_eq, not_true_eq_false, not_false_eq_true, decide_true, decide_false, c1, c2]
theorem check_votes_ok {r : R} (hr : r = .val (.tuple (votes.map encT))) (V : Vs n votes) : m_check_votes [r] m = some (.val .none, m) := by
  subst hr
  have h1 := V.n1
  have h4 := V.n4
  have a1 : (1 : Int) ≤ (votes.length : Int) := by have := V.v1; omega
  have a2 : (votes.length : Int) ≤ 12 := by have := V.v5; omega
  obtain ⟨v0, rest, ev⟩ : ∃ v0 rest, votes = v0 :: rest := by
    cases e : votes with
    | nil => have := V.v1; rw [e] at this; simp at this
    | cons a l => exact ⟨a, l, rfl⟩
  have at0 : atI (votes.map encT) 0 = some (encT v0) := by rw [ev]; exact atI_0
  have l0 : v0.length = n := (V.ord v0 (by rw [ev]; simp)).len
  obtain ⟨e', m', h, e1, rfl, rfl⟩ := loop_inv (gf := gNm 1) (sf := l_check_votes4) encT (fun j env mm => ∃ e1, env = [some (.val (.tuple (votes.map encT))), e1, none] ∧ mm = m) votes [some (.val (.tuple (votes.map encT))), none, none] m ⟨none, rfl, rfl⟩ fun j v hj env mm ⟨e1, he, hm⟩ => by
    subst he hm
    have H := V.ord v (List.mem_of_getElem? hj)
    have hl : v.length ≤ 16777216 := by rw [H.len]; omega
    have c1 : nComp (itAny (eVar 1)) (.nm 2) [2] tTrue e_check_votes1 [some (.val (.tuple (votes.map encT))), some (.val (encT v)), none] mm = some (v.map fun _ => .bool true, mm) :=
      comp_all nI (fun _ => .bool true) v rfl hl fun a ha => ⟨_, rfl, by
        have hlt := H.lt a ha
        have hd : (0 : Int) ≤ (a : Int) ∧ (a : Int) < (v.length : Int) := by rw [H.len]; omega
        show e_check_votes1 [some (.val (.tuple (votes.map encT))), some (.val (encT v)), some (.val (.int (a : Int)))] mm = _
        simp only [e_check_votes1, ev_asg, ev_par, ev_if, ev_ret, ev_retN, ev_expr, ev_bin, ev_un, ev_ap, ev_cons, ev_nil, ev_varS, ev_var0, ev_c, ob_some, ev_gNm, ev_tOf, ev_asB, ev_asI, ev_tNot, ev_tAnd, ev_tOr, ev_eOf, ev_eIf, ev_chain, List.set_cons_succ, List.set_cons_zero, ev_then_nx, ev_then_rt, ev_next, ev_pTup, ev_valsC, ev_vals0, ev_eL, ev_bm, ev_aug, pix_t, pix_l, pixq0, pixq1, atI_0, atI_1, atI_2, pp_ii, ps_ii, pa_ii, plt_ii, ple_ii, pgt_ii, pge_ii, peq_ii, pne_ii, pneg_i, List.length_cons, List.length_nil, Nat.reduceAdd, Nat.reduceSub, Nat.reduceLeDiff, sz, if_true, Bool.false_eq_true, if_false, Bool.not_true, Bool.not_false, leave_v, List.take_length, plen_t, plen_l, ptup_l, ptup_t, pint_i, pis_n, pis_i, pis_t, pisnt_n, pisnt_i, pisnt_t, Int.cast_ofNat_Int, ne_eq, not_true_eq_false, not_false_eq_true, decide_true, decide_false, plen_T, is_below_i, hd, and_self, decide_true]⟩
    have c2 : eDc (itAny (eVar 1)) (.nm 2) [2] tTrue e_check_votes2 e_check_votes3 [some (.val (.tuple (votes.map encT))), some (.val (encT v)), none] mm = some (.ref mm.length, mm ++ [.dct false false (kF nI tru v)]) := by
      rw [← tru_dict H.nd]
      exact dcomp_all nI nI tru v rfl hl fun a ha => ⟨_, rfl, fun kvs => ⟨rfl, rfl, rfl⟩⟩
    have p1 := pall_l (m := mm) v fun _ => true
    have p2 : pLenD [.ref mm.length] (mm ++ [.dct false false (kF nI tru v)]) = _ := dlen_n getN
    have b1 : (1 : Int) ≤ (n : Int) := by omega
    have b2 : (n : Int) ≤ 5 := by omega
    have b3 : (v.all fun _ => true) = true := List.all_eq_true.mpr fun _ _ => rfl
    refine ⟨_, _, _, _, rfl, ?_, some (.val (encT v)), rfl, rfl⟩
    show l_check_votes4 [some (.val (.tuple (votes.map encT))), some (.val (encT v)), none] mm = _
    simp only [l_check_votes4, ev_seq, ev_asg, ev_par, ev_if, ev_ret, ev_retN, ev_expr, ev_bin, ev_un, ev_ap, ev_cons, ev_nil, ev_varS, ev_var0, ev_c, ob_some, ev_gNm, ev_tOf, ev_asB, ev_asI, ev_tNot, ev_tAnd, ev_tOr, ev_eOf, ev_eIf, ev_chain, List.set_cons_succ, List.set_cons_zero, ev_then_nx, ev_then_rt, ev_next, ev_pTup, ev_valsC, ev_vals0, ev_eL, ev_bm, ev_aug, pix_t, pix_l, pixq0, pixq1, atI_0, atI_1, atI_2, pp_ii, ps_ii, pa_ii, plt_ii, ple_ii, pgt_ii, pge_ii, peq_ii, pne_ii, pneg_i, List.length_cons, List.length_nil, Nat.reduceAdd, Nat.reduceSub, Nat.reduceLeDiff, sz, if_true, Bool.false_eq_true, if_false, Bool.not_true, Bool.not_false, leave_v, List.take_length, plen_t, plen_l, ptup_l, ptup_t, pint_i, pis_n, pis_i, pis_t, pisnt_n, pisnt_i, pisnt_t, Int.cast_ofNat_Int, ne_eq, not_true_eq_false, not_false_eq_true, decide_true, decide_false, ev_isA, isA_T, plen_T, H.len, l0, b1, b2, at0, c1, p1, b3, ev_cut, c2, p2, tk, Int.lt_irrefl]
  have it1 : isA .tuple (.val (.tuple (votes.map encT))) = true := rfl
  simp only [m_check_votes, bodyF, List.length_cons, List.length_nil, Nat.reduceAdd, Nat.reduceSub, List.map_cons, List.map_nil, List.replicate, List.cons_append, List.nil_append, List.append_nil, b_check_votes, ev_seq, ev_asg, ev_par, ev_if, ev_ret, ev_retN, ev_expr, ev_bin, ev_un, ev_ap, ev_cons, ev_nil, ev_varS, ev_var0, ev_c, ob_some, ev_gNm, ev_tOf, ev_asB, ev_asI, ev_tNot, ev_tAnd, ev_tOr, ev_eOf, ev_eIf, ev_chain, List.set_cons_succ, List.set_cons_zero, ev_then_nx, ev_then_rt, ev_next, ev_pTup, ev_valsC, ev_vals0, ev_eL, ev_bm, ev_aug, pix_t, pix_l, pixq0, pixq1, atI_0, atI_1, atI_2, pp_ii, ps_ii, pa_ii, plt_ii, ple_ii, pgt_ii, pge_ii, peq_ii, pne_ii, pneg_i, List.length_cons, List.length_nil, Nat.reduceAdd, Nat.reduceSub, Nat.reduceLeDiff, sz, if_true, Bool.false_eq_true, if_false, Bool.not_true, Bool.not_false, leave_v, List.take_length, plen_t, plen_l, ptup_l, ptup_t, pint_i, pis_n, pis_i, pis_t, pisnt_n, pisnt_i, pisnt_t, Int.cast_ofNat_Int, ne_eq, not_true_eq_false, not_false_eq_true, decide_true, decide_false, ev_isA, it1, plen_t, List.length_map, a1, a2, ev_for, it_an, an1_t, run_iL, h]
end
end L35

set_option Elab.async false
set_option linter.all false
set_option maxRecDepth 100000
namespace L35
open PySem PySem.Spec PyProof.Rows L2 Ev Nr
section
variable {m : M} {n : Nat} {o v : List Nat} {votes : List (List Nat)}
def bestD : Option (Nat × List Nat) → D
  | none => .none
  | some p => encP p
theorem pis_P {p : Nat × List Nat} : pIsN (.val (encP p)) (.val .none) m = some (.val (.bool false), m) := rfl
theorem grow_map (n : Nat) (rows : List (List Nat)) : rows.flatMap (fun row => (ext n row).map encT) = (grow n rows).map encT := by
  unfold grow
  rw [List.map_flatMap]
  rfl
theorem best_step (V : Vs n votes) (H : Ord n o) (b : Option (Nat × List Nat)) {e1 e2 e5 : Option R} : ∃ e5', l_nearest6 [some (.val (.tuple (votes.map encT))), e1, e2, some (.val (bestD b)), some (.val (encT o)), e5, none, none] m =
    some (.nx [some (.val (.tuple (votes.map encT))), e1, e2, some (.val (bestD (stepB (tot votes) b o))), some (.val (encT o)), e5', none, none] m) := by
  have hl : votes.length ≤ 16777216 := by have := V.v5; omega
  have c1 : nComp (itAny (eVar 0)) (.nm 7) [7] tTrue e_nearest5 [some (.val (.tuple (votes.map encT))), e1, e2, some (.val (bestD b)), some (.val (encT o)), e5, none, none] m = some (votes.map fun v => .int ((dist o v : Nat) : Int), m) :=
    comp_all encT (fun v => .int ((dist o v : Nat) : Int)) votes rfl hl fun v hv => ⟨_, rfl, by
      show e_nearest5 [some (.val (.tuple (votes.map encT))), e1, e2, some (.val (bestD b)), some (.val (encT o)), e5, none, some (.val (encT v))] m = _
      simp only [e_nearest5, ev_asg, ev_par, ev_if, ev_ret, ev_retN, ev_expr, ev_bin, ev_un, ev_ap, ev_cons, ev_nil, ev_varS, ev_var0, ev_c, ob_some, ev_gNm, ev_tOf, ev_asB, ev_asI, ev_tNot, ev_tAnd, ev_tOr, ev_eOf, ev_eIf, ev_chain, List.set_cons_succ, List.set_cons_zero, ev_then_nx, ev_then_rt, ev_next, ev_pTup, ev_valsC, ev_vals0, ev_eL, ev_bm, ev_aug, pix_t, pix_l, pixq0, pixq1, atI_0, atI_1, atI_2, pp_ii, ps_ii, pa_ii, plt_ii, ple_ii, pgt_ii, pge_ii, peq_ii, pne_ii, pneg_i, List.length_cons, List.length_nil, Nat.reduceAdd, Nat.reduceSub, Nat.reduceLeDiff, sz, if_true, Bool.false_eq_true, if_false, Bool.not_true, Bool.not_false, leave_v, List.take_length, plen_t, plen_l, ptup_l, ptup_t, pint_i, pis_n, pis_i, pis_t, pisnt_n, pisnt_i, pisnt_t, Int.cast_ofNat_Int, ne_eq, not_true_eq_false, not_false_eq_true, decide_true, decide_false, far_ok H (V.ord v hv) V.n4]⟩
  have p := psum_L (m := m) votes (dist o)
  have z : (0 + 1 + 1 : Nat) ≤ 16777216 := by decide
  refine ⟨some (.val (.int ((tot votes o : Nat) : Int))), ?_⟩
  have ht : (votes.map (dist o)).sum = tot votes o := rfl
  cases b with
  | none =>
    simp only [bestD] at c1
    simp only [l_nearest6, ev_seq, ev_asg, ev_par, ev_if, ev_ret, ev_retN, ev_expr, ev_bin, ev_un, ev_ap, ev_cons, ev_nil, ev_varS, ev_var0, ev_c, ob_some, ev_gNm, ev_tOf, ev_asB, ev_asI, ev_tNot, ev_tAnd, ev_tOr, ev_eOf, ev_eIf, ev_chain, List.set_cons_succ, List.set_cons_zero, ev_then_nx, ev_then_rt, ev_next, ev_pTup, ev_valsC, ev_vals0, ev_eL, ev_bm, ev_aug, pix_t, pix_l, pixq0, pixq1, atI_0, atI_1, atI_2, pp_ii, ps_ii, pa_ii, plt_ii, ple_ii, pgt_ii, pge_ii, peq_ii, pne_ii, pneg_i, List.length_cons, List.length_nil, Nat.reduceAdd, Nat.reduceSub, Nat.reduceLeDiff, sz, if_true, Bool.false_eq_true, if_false, Bool.not_true, Bool.not_false, leave_v, List.take_length, plen_t, plen_l, ptup_l, ptup_t, pint_i, pis_n, pis_i, pis_t, pisnt_n, pisnt_i, pisnt_t, Int.cast_ofNat_Int, ne_eq, not_true_eq_false, not_false_eq_true, decide_true, decide_false, c1, p, ht, bestD, z, stepB]
    rfl
  | some q =>
    simp only [bestD] at c1
    by_cases c : tot votes o < q.1
    · have c' : ((tot votes o : Nat) : Int) < (q.1 : Int) := by omega
      simp only [l_nearest6, ev_seq, ev_asg, ev_par, ev_if, ev_ret, ev_retN, ev_expr, ev_bin, ev_un, ev_ap, ev_cons, ev_nil, ev_varS, ev_var0, ev_c, ob_some, ev_gNm, ev_tOf, ev_asB, ev_asI, ev_tNot, ev_tAnd, ev_tOr, ev_eOf, ev_eIf, ev_chain, List.set_cons_succ, List.set_cons_zero, ev_then_nx, ev_then_rt, ev_next, ev_pTup, ev_valsC, ev_vals0, ev_eL, ev_bm, ev_aug, pix_t, pix_l, pixq0, pixq1, atI_0, atI_1, atI_2, pp_ii, ps_ii, pa_ii, plt_ii, ple_ii, pgt_ii, pge_ii, peq_ii, pne_ii, pneg_i, List.length_cons, List.length_nil, Nat.reduceAdd, Nat.reduceSub, Nat.reduceLeDiff, sz, if_true, Bool.false_eq_true, if_false, Bool.not_true, Bool.not_false, leave_v, List.take_length, plen_t, plen_l, ptup_l, ptup_t, pint_i, pis_n, pis_i, pis_t, pisnt_n, pisnt_i, pisnt_t, Int.cast_ofNat_Int, ne_eq, not_true_eq_false, not_false_eq_true, decide_true, decide_false, c1, p, ht, bestD, pis_P, pixP0, c', z, stepB, c]
      rfl
    · have c' : ¬ ((tot votes o : Nat) : Int) < (q.1 : Int) := by omega
      simp only [l_nearest6, ev_seq, ev_asg, ev_par, ev_if, ev_ret, ev_retN, ev_expr, ev_bin, ev_un, ev_ap, ev_cons, ev_nil, ev_varS, ev_var0, ev_c, ob_some, ev_gNm, ev_tOf, ev_asB, ev_asI, ev_tNot, ev_tAnd, ev_tOr, ev_eOf, ev_eIf, ev_chain, List.set_cons_succ, List.set_cons_zero, ev_then_nx, ev_then_rt, ev_next, ev_pTup, ev_valsC, ev_vals0, ev_eL, ev_bm, ev_aug, pix_t, pix_l, pixq0, pixq1, atI_0, atI_1, atI_2, pp_ii, ps_ii, pa_ii, plt_ii, ple_ii, pgt_ii, pge_ii, peq_ii, pne_ii, pneg_i, List.length_cons, List.length_nil, Nat.reduceAdd, Nat.reduceSub, Nat.reduceLeDiff, sz, if_true, Bool.false_eq_true, if_false, Bool.not_true, Bool.not_false, leave_v, List.take_length, plen_t, plen_l, ptup_l, ptup_t, pint_i, pis_n, pis_i, pis_t, pisnt_n, pisnt_i, pisnt_t, Int.cast_ofNat_Int, ne_eq, not_true_eq_false, not_false_eq_true, decide_true, decide_false, c1, p, ht, bestD, pis_P, pixP0, c', z, stepB, c]
theorem nearest_ok {r0 : R} (hr : r0 = .val (.tuple (votes.map encT))) (V : Vs n votes) : ∃ r, m_nearest [r0] m = some (.val (encP (tot votes r, r)), m) ∧ r ∈ rowsN n n ∧ (∀ x ∈ rowsN n n, tot votes r ≤ tot votes x) ∧ ((rowsN n n).filter fun x => decide (tot votes x = tot votes r)).head? = some r := by
  have h1 := V.n1
  have h4 := V.n4
  obtain ⟨v0, rest, ev⟩ : ∃ v0 rest, votes = v0 :: rest := by
    cases e : votes with
    | nil => have := V.v1; rw [e] at this; simp at this
    | cons a l => exact ⟨a, l, rfl⟩
  have at0 : atI (votes.map encT) 0 = some (encT v0) := by rw [ev]; exact atI_0
  have H0 := V.ord v0 (by rw [ev]; simp)
  have ck := check_votes_ok (m := m) hr V
  subst hr
  obtain ⟨e', m', h, e2, rfl, rfl⟩ := loop_inv (gf := gNm 2) (sf := l_nearest4) nI (fun j env mm => ∃ e2, env = [some (.val (.tuple (votes.map encT))), some (.val (.list ((rowsN n j).map encT))), e2, none, none, none, none, none] ∧ mm = m) v0
    [some (.val (.tuple (votes.map encT))), some (.val (.list [encT []])), none, none, none, none, none, none] m ⟨none, rfl, rfl⟩ fun j a hj env mm ⟨e2, he, hm⟩ => by
    subst he hm
    have rg := rg1_nat (m := mm) (n := n) (by omega)
    have c := comp2_all (it := itAny (eVar 1)) (p := .nm 4) (vs := [4, 6]) (it1 := i_nearest2) (p1 := .nm 6) (vs1 := [6]) (tt1 := t_nearest3) (te := e_nearest1) (env := [some (.val (.tuple (votes.map encT))), some (.val (.list ((rowsN n j).map encT))), some (.val (.int (a : Int))), none, none, none, none, none]) (m := mm) encT (fun row => (ext n row).map encT) (rowsN n j) rfl (by
      rw [grow_map, List.length_map]
      exact Nat.le_trans (rows_len (k := j + 1) h4) (by decide)) fun row hrow => ⟨_, rfl, (List.range n).map nI, by
        show i_nearest2 [some (.val (.tuple (votes.map encT))), some (.val (.list ((rowsN n j).map encT))), some (.val (.int (a : Int))), none, some (.val (encT row)), none, none, none] mm = _
        simp only [i_nearest2, it_rg1, ev_asg, ev_par, ev_if, ev_ret, ev_retN, ev_expr, ev_bin, ev_un, ev_ap, ev_cons, ev_nil, ev_varS, ev_var0, ev_c, ob_some, ev_gNm, ev_tOf, ev_asB, ev_asI, ev_tNot, ev_tAnd, ev_tOr, ev_eOf, ev_eIf, ev_chain, List.set_cons_succ, List.set_cons_zero, ev_then_nx, ev_then_rt, ev_next, ev_pTup, ev_valsC, ev_vals0, ev_eL, ev_bm, ev_aug, pix_t, pix_l, pixq0, pixq1, atI_0, atI_1, atI_2, pp_ii, ps_ii, pa_ii, plt_ii, ple_ii, pgt_ii, pge_ii, peq_ii, pne_ii, pneg_i, List.length_cons, List.length_nil, Nat.reduceAdd, Nat.reduceSub, Nat.reduceLeDiff, sz, if_true, Bool.false_eq_true, if_false, Bool.not_true, Bool.not_false, leave_v, List.take_length, plen_t, plen_l, ptup_l, ptup_t, pint_i, pis_n, pis_i, pis_t, pisnt_n, pisnt_i, pisnt_t, Int.cast_ofNat_Int, ne_eq, not_true_eq_false, not_false_eq_true, decide_true, decide_false, at0, plen_T, H0.len, rg], by
        have hr4 := rows_row h4 hrow
        have := clpL_map (p := .nm 6) (tt := t_nearest3) (te := e_nearest1) (env := wipeE [some (.val (.tuple (votes.map encT))), some (.val (.list ((rowsN n j).map encT))), some (.val (.int (a : Int))), none, some (.val (encT row)), none, none, none] [6]) (m := mm) nI (fun i => !decide (i ∈ row)) (fun i => encT (row ++ [i])) (List.range n) fun i hi => ⟨_, rfl, by
          show t_nearest3 [some (.val (.tuple (votes.map encT))), some (.val (.list ((rowsN n j).map encT))), some (.val (.int (a : Int))), none, some (.val (encT row)), none, some (.val (.int (i : Int))), none] mm = _
          simp only [t_nearest3, ev_asg, ev_par, ev_if, ev_ret, ev_retN, ev_expr, ev_bin, ev_un, ev_ap, ev_cons, ev_nil, ev_varS, ev_var0, ev_c, ob_some, ev_gNm, ev_tOf, ev_asB, ev_asI, ev_tNot, ev_tAnd, ev_tOr, ev_eOf, ev_eIf, ev_chain, List.set_cons_succ, List.set_cons_zero, ev_then_nx, ev_then_rt, ev_next, ev_pTup, ev_valsC, ev_vals0, ev_eL, ev_bm, ev_aug, pix_t, pix_l, pixq0, pixq1, atI_0, atI_1, atI_2, pp_ii, ps_ii, pa_ii, plt_ii, ple_ii, pgt_ii, pge_ii, peq_ii, pne_ii, pneg_i, List.length_cons, List.length_nil, Nat.reduceAdd, Nat.reduceSub, Nat.reduceLeDiff, sz, if_true, Bool.false_eq_true, if_false, Bool.not_true, Bool.not_false, leave_v, List.take_length, plen_t, plen_l, ptup_l, ptup_t, pint_i, pis_n, pis_i, pis_t, pisnt_n, pisnt_i, pisnt_t, Int.cast_ofNat_Int, ne_eq, not_true_eq_false, not_false_eq_true, decide_true, decide_false, pnin_N asLT_T], fun _ => by
          show e_nearest1 [some (.val (.tuple (votes.map encT))), some (.val (.list ((rowsN n j).map encT))), some (.val (.int (a : Int))), none, some (.val (encT row)), none, some (.val (.int (i : Int))), none] mm = _
          have := pp_TT (a := row) (b := [i]) (m := mm) (by rw [List.length_singleton]; omega)
          have e : PyData.tuple [.int (i : Int)] = encT [i] := rfl
          have z : (0 + 1 : Nat) ≤ 16777216 := by decide
          simp only [e_nearest1, ev_asg, ev_par, ev_if, ev_ret, ev_retN, ev_expr, ev_bin, ev_un, ev_ap, ev_cons, ev_nil, ev_varS, ev_var0, ev_c, ob_some, ev_gNm, ev_tOf, ev_asB, ev_asI, ev_tNot, ev_tAnd, ev_tOr, ev_eOf, ev_eIf, ev_chain, List.set_cons_succ, List.set_cons_zero, ev_then_nx, ev_then_rt, ev_next, ev_pTup, ev_valsC, ev_vals0, ev_eL, ev_bm, ev_aug, pix_t, pix_l, pixq0, pixq1, atI_0, atI_1, atI_2, pp_ii, ps_ii, pa_ii, plt_ii, ple_ii, pgt_ii, pge_ii, peq_ii, pne_ii, pneg_i, List.length_cons, List.length_nil, Nat.reduceAdd, Nat.reduceSub, Nat.reduceLeDiff, sz, if_true, Bool.false_eq_true, if_false, Bool.not_true, Bool.not_false, leave_v, List.take_length, plen_t, plen_l, ptup_l, ptup_t, pint_i, pis_n, pis_i, pis_t, pisnt_n, pisnt_i, pisnt_t, Int.cast_ofNat_Int, ne_eq, not_true_eq_false, not_false_eq_true, decide_true, decide_false, z, e, this]⟩
        refine Eq.trans this ?_
        unfold ext
        rw [List.map_map]
        rfl⟩
    refine ⟨_, _, _, _, rfl, ?_, some (.val (.int (a : Int))), rfl, rfl⟩
    show l_nearest4 [some (.val (.tuple (votes.map encT))), some (.val (.list ((rowsN n j).map encT))), some (.val (.int (a : Int))), none, none, none, none, none] mm = _
    simp only [l_nearest4, ev_asg, ev_par, ev_if, ev_ret, ev_retN, ev_expr, ev_bin, ev_un, ev_ap, ev_cons, ev_nil, ev_varS, ev_var0, ev_c, ob_some, ev_gNm, ev_tOf, ev_asB, ev_asI, ev_tNot, ev_tAnd, ev_tOr, ev_eOf, ev_eIf, ev_chain, List.set_cons_succ, List.set_cons_zero, ev_then_nx, ev_then_rt, ev_next, ev_pTup, ev_valsC, ev_vals0, ev_eL, ev_bm, ev_aug, pix_t, pix_l, pixq0, pixq1, atI_0, atI_1, atI_2, pp_ii, ps_ii, pa_ii, plt_ii, ple_ii, pgt_ii, pge_ii, peq_ii, pne_ii, pneg_i, List.length_cons, List.length_nil, Nat.reduceAdd, Nat.reduceSub, Nat.reduceLeDiff, sz, if_true, Bool.false_eq_true, if_false, Bool.not_true, Bool.not_false, leave_v, List.take_length, plen_t, plen_l, ptup_l, ptup_t, pint_i, pis_n, pis_i, pis_t, pisnt_n, pisnt_i, pisnt_t, Int.cast_ofNat_Int, ne_eq, not_true_eq_false, not_false_eq_true, decide_true, decide_false, c, grow_map]
    rfl
  rw [H0.len] at h
  obtain ⟨e', m'', k, e4, e5, rfl, rfl⟩ := loop_inv (gf := gNm 4) (sf := l_nearest6) encT (fun j env mm => ∃ e4 e5, env = [some (.val (.tuple (votes.map encT))), some (.val (.list ((rowsN n n).map encT))), e2, some (.val (bestD (((rowsN n n).take j).foldl (stepB (tot votes)) none))), e4, e5, none, none] ∧ mm = m') (rowsN n n)
    [some (.val (.tuple (votes.map encT))), some (.val (.list ((rowsN n n).map encT))), e2, some (.val .none), none, none, none, none] m' ⟨none, none, rfl, rfl⟩ fun j o hj env mm ⟨e4, e5, he, hm⟩ => by
    subst he hm
    obtain ⟨e5', hs⟩ := best_step (m := mm) V (ord_rows.mp (List.mem_of_getElem? hj)) (((rowsN n n).take j).foldl (stepB (tot votes)) none) (e1 := some (.val (.list ((rowsN n n).map encT)))) (e2 := e2) (e5 := e5)
    refine ⟨_, _, _, _, rfl, hs, some (.val (encT o)), e5', ?_, rfl⟩
    have et : (rowsN n n).take (j + 1) = (rowsN n n).take j ++ [o] := by rw [List.take_add_one, hj]; rfl
    rw [et, List.foldl_append]
    rfl
  rw [List.take_length] at k
  obtain ⟨r, f1, f2, f3, f4⟩ := first_best (tot votes) (rows_ne h1 h4)
  refine ⟨r, ?_, f2, f3, f4⟩
  have z : (0 + 1 : Nat) ≤ 16777216 := by decide
  have z0 : (0 : Nat) ≤ 16777216 := by decide
  have ee : PyData.tuple [] = encT [] := rfl
  have ei : an1 (.val (encT v0)) m'' = iL (v0.map nI) m'' := rfl
  simp only [m_nearest, bodyF, List.length_cons, List.length_nil, Nat.reduceAdd, Nat.reduceSub, List.map_cons, List.map_nil, List.replicate, List.cons_append, List.nil_append, List.append_nil, b_nearest, ev_seq, ev_asg, ev_par, ev_if, ev_ret, ev_retN, ev_expr, ev_bin, ev_un, ev_ap, ev_cons, ev_nil, ev_varS, ev_var0, ev_c, ob_some, ev_gNm, ev_tOf, ev_asB, ev_asI, ev_tNot, ev_tAnd, ev_tOr, ev_eOf, ev_eIf, ev_chain, List.set_cons_succ, List.set_cons_zero, ev_then_nx, ev_then_rt, ev_next, ev_pTup, ev_valsC, ev_vals0, ev_eL, ev_bm, ev_aug, pix_t, pix_l, pixq0, pixq1, atI_0, atI_1, atI_2, pp_ii, ps_ii, pa_ii, plt_ii, ple_ii, pgt_ii, pge_ii, peq_ii, pne_ii, pneg_i, List.length_cons, List.length_nil, Nat.reduceAdd, Nat.reduceSub, Nat.reduceLeDiff, sz, if_true, Bool.false_eq_true, if_false, Bool.not_true, Bool.not_false, leave_v, List.take_length, plen_t, plen_l, ptup_l, ptup_t, pint_i, pis_n, pis_i, pis_t, pisnt_n, pisnt_i, pisnt_t, Int.cast_ofNat_Int, ne_eq, not_true_eq_false, not_false_eq_true, decide_true, decide_false, ck, ev_nLst, z, z0, ee, ev_for, it_an, at0, ei, run_iL, h, an1_l, k, f1, bestD]
end
end L35

set_option Elab.async false
set_option linter.all false
set_option maxRecDepth 100000
namespace L35
open PySem PySem.Spec PyProof.Rows L2 Ev Nr
section
variable {m rest : M} {n : Nat}
theorem bx_app {rest m : M} (h : Bx rest m) (t : M) : Bx (rest ++ t) (m ++ t) := by
  obtain ⟨a, b, rfl, h⟩ := h
  exact ⟨a, b, rfl, h⟩
theorem bx_cut {rest t m : M} (h : Bx (rest ++ t) m) : ∃ m', m = m' ++ t ∧ Bx rest m' := by
  obtain ⟨a, b, rfl, h⟩ := h
  exact ⟨.lst [.int a, .int b] :: rest, rfl, a, b, rfl, h⟩
theorem bx_len {rest m : M} (h : Bx rest m) : m.length = rest.length + 1 := by
  obtain ⟨a, b, rfl, h⟩ := h
  rfl
theorem vote_ok (h : Bx rest m) (h4 : n ≤ 4) : ∃ v m', m__law_vote [.ref 0, .val (.int (n : Int))] m = some (.val (encT v), m') ∧ Ord n v ∧ Bx rest m' := by
  obtain ⟨e', mm, hl, e3, l, m1, rfl, rfl, hO, hB⟩ := loop_inv (gf := gNm 3) (sf := l__law_vote1) nI (fun j env mm => ∃ e3 l m1, env = [some (.ref 0), some (.val (.int (n : Int))), some (.ref m.length), e3] ∧ mm = m1 ++ [.lst (encI l)] ∧ Ord j l ∧ Bx rest m1) (List.range n)
    [some (.ref 0), some (.val (.int (n : Int))), some (.ref m.length), none] (m ++ [.lst []]) ⟨none, [], m, rfl, rfl, ⟨.nil, rfl, fun a ha => (by cases ha)⟩, h⟩ fun j a hj env mm ⟨e3, l, m1, he, hm, hO, hB⟩ => by
    subst he hm
    obtain ⟨rfl, hjn⟩ : a = j ∧ j < n := by
      obtain ⟨h1, h2⟩ := List.getElem?_eq_some_iff.mp hj
      rw [List.length_range] at h1
      rw [List.getElem_range] at h2
      exact ⟨h2.symm, h1⟩
    obtain ⟨d, m2, d1, d2, d3⟩ := drawN (bx_app hB [.lst (encI l)]) (k := a + 1) (by omega) (by omega)
    obtain ⟨m3, rfl, d4⟩ := bx_cut d3
    have hm3 : m3.length = m.length := by rw [bx_len d4, bx_len h]
    have g : (m3 ++ [Ob.lst (encI l)])[m.length]? = some (.lst (encI l)) := by rw [← hm3]; exact getN
    have ins := pins_N (a := a) (i := d) g (by rw [hO.len]; omega) (by omega)
    have st : (m3 ++ [Ob.lst (encI l)]).set m.length (.lst (encI (l.take d ++ [a] ++ l.drop d))) = m3 ++ [.lst (encI (l.take d ++ [a] ++ l.drop d))] := by rw [← hm3]; exact setN
    rw [st] at ins
    have g1 : (m1 ++ [Ob.lst (encI l)])[m.length]? = some (.lst (encI l)) := by
      have : m1.length = m.length := by rw [bx_len hB, bx_len h]
      rw [← this]; exact getN
    have e1 : (a : Int) + 1 = ((a + 1 : Nat) : Int) := by omega
    refine ⟨_, _, _, _, rfl, ?_, some (.val (.int (a : Int))), l.take d ++ [a] ++ l.drop d, m3, rfl, rfl, hO.insert d, d4⟩
    show l__law_vote1 [some (.ref 0), some (.val (.int (n : Int))), some (.ref m.length), some (.val (.int (a : Int)))] (m1 ++ [.lst (encI l)]) = _
    simp only [l__law_vote1, ev_asg, ev_par, ev_if, ev_ret, ev_retN, ev_expr, ev_bin, ev_un, ev_ap, ev_cons, ev_nil, ev_varS, ev_var0, ev_c, ob_some, ev_gNm, ev_tOf, ev_asB, ev_asI, ev_tNot, ev_tAnd, ev_tOr, ev_eOf, ev_eIf, ev_chain, List.set_cons_succ, List.set_cons_zero, ev_then_nx, ev_then_rt, ev_next, ev_pTup, ev_valsC, ev_vals0, ev_eL, ev_bm, ev_aug, pix_t, pix_l, pixq0, pixq1, atI_0, atI_1, atI_2, pp_ii, ps_ii, pa_ii, plt_ii, ple_ii, pgt_ii, pge_ii, peq_ii, pne_ii, pneg_i, List.length_cons, List.length_nil, Nat.reduceAdd, Nat.reduceSub, Nat.reduceLeDiff, sz, if_true, Bool.false_eq_true, if_false, Bool.not_true, Bool.not_false, leave_v, List.take_length, plen_t, plen_l, ptup_l, ptup_t, pint_i, pis_n, pis_i, pis_t, pisnt_n, pisnt_i, pisnt_t, Int.cast_ofNat_Int, ne_eq, not_true_eq_false, not_false_eq_true, decide_true, decide_false, asL_r g1, e1, d1, ins]
  have hm1 : m1.length = m.length := by rw [bx_len hB, bx_len h]
  have rg := rg1_nat (m := m ++ [.lst []]) (n := n) (by omega)
  have er : ((List.range n).map fun j : Nat => PyData.int j) = (List.range n).map nI := rfl
  have g : (m1 ++ [Ob.lst (encI l)])[m.length]? = some (.lst (encI l)) := by rw [← hm1]; exact getN
  have p := ptup_r g
  have tk2 : (m1 ++ [Ob.lst (encI l)]).take m.length = m1 := by rw [← hm1]; exact tk
  have z : (0 : Nat) ≤ 16777216 := by decide
  rw [List.length_range] at hO
  refine ⟨l, m1, ?_, hO, hB⟩
  simp only [m__law_vote, bodyF, List.length_cons, List.length_nil, Nat.reduceAdd, Nat.reduceSub, List.map_cons, List.map_nil, List.replicate, List.cons_append, List.nil_append, List.append_nil, b__law_vote, ev_seq, ev_asg, ev_par, ev_if, ev_ret, ev_retN, ev_expr, ev_bin, ev_un, ev_ap, ev_cons, ev_nil, ev_varS, ev_var0, ev_c, ob_some, ev_gNm, ev_tOf, ev_asB, ev_asI, ev_tNot, ev_tAnd, ev_tOr, ev_eOf, ev_eIf, ev_chain, List.set_cons_succ, List.set_cons_zero, ev_then_nx, ev_then_rt, ev_next, ev_pTup, ev_valsC, ev_vals0, ev_eL, ev_bm, ev_aug, pix_t, pix_l, pixq0, pixq1, atI_0, atI_1, atI_2, pp_ii, ps_ii, pa_ii, plt_ii, ple_ii, pgt_ii, pge_ii, peq_ii, pne_ii, pneg_i, List.length_cons, List.length_nil, Nat.reduceAdd, Nat.reduceSub, Nat.reduceLeDiff, sz, if_true, Bool.false_eq_true, if_false, Bool.not_true, Bool.not_false, leave_v, List.take_length, plen_t, plen_l, ptup_l, ptup_t, pint_i, pis_n, pis_i, pis_t, pisnt_n, pisnt_i, pisnt_t, Int.cast_ofNat_Int, ne_eq, not_true_eq_false, not_false_eq_true, decide_true, decide_false, ev_eNew, ev_nLst, z, ev_for, it_rg1, rg, er, run_iL, hl, p, tk2]
  rfl
/-- several votes -/
theorem votes_drawn (h : Bx rest m) (h4 : n ≤ 4) (k : Nat) {e2 e3 e4 e5 e6 e7 e9 e10 e11 e12 e13 e14 e15 e16 : Option R} : ∃ (votes : List (List Nat)) (m' : M), clpL (.nm 8) tTrue e__law_votes1 [some (.ref 0), some (.val (.int (n : Int))), e2, e3, e4, e5, e6, e7, none, e9, e10, e11, e12, e13, e14, e15, e16] ((List.range k).map nI) m = some (votes.map encT, m') ∧ votes.length = k ∧ (∀ v ∈ votes, Ord n v) ∧ Bx rest m' := by
  obtain ⟨ds, m', h1, h2, h3, h5⟩ := clpL_inv (p := .nm 8) (te := e__law_votes1) (env := [some (.ref 0), some (.val (.int (n : Int))), e2, e3, e4, e5, e6, e7, none, e9, e10, e11, e12, e13, e14, e15, e16]) (Bx rest) (fun d => ∃ v, d = encT v ∧ Ord n v) ((List.range k).map nI) m h fun d hd mm hB => by
    obtain ⟨v, m2, v1, v2, v3⟩ := vote_ok hB h4
    refine ⟨_, encT v, m2, rfl, ?_, ⟨v, rfl, v2⟩, v3⟩
    show e__law_votes1 [some (.ref 0), some (.val (.int (n : Int))), e2, e3, e4, e5, e6, e7, some (.val d), e9, e10, e11, e12, e13, e14, e15, e16] mm = _
    simp only [e__law_votes1, ev_asg, ev_par, ev_if, ev_ret, ev_retN, ev_expr, ev_bin, ev_un, ev_ap, ev_cons, ev_nil, ev_varS, ev_var0, ev_c, ob_some, ev_gNm, ev_tOf, ev_asB, ev_asI, ev_tNot, ev_tAnd, ev_tOr, ev_eOf, ev_eIf, ev_chain, List.set_cons_succ, List.set_cons_zero, ev_then_nx, ev_then_rt, ev_next, ev_pTup, ev_valsC, ev_vals0, ev_eL, ev_bm, ev_aug, pix_t, pix_l, pixq0, pixq1, atI_0, atI_1, atI_2, pp_ii, ps_ii, pa_ii, plt_ii, ple_ii, pgt_ii, pge_ii, peq_ii, pne_ii, pneg_i, List.length_cons, List.length_nil, Nat.reduceAdd, Nat.reduceSub, Nat.reduceLeDiff, sz, if_true, Bool.false_eq_true, if_false, Bool.not_true, Bool.not_false, leave_v, List.take_length, plen_t, plen_l, ptup_l, ptup_t, pint_i, pis_n, pis_i, pis_t, pisnt_n, pisnt_i, pisnt_t, Int.cast_ofNat_Int, ne_eq, not_true_eq_false, not_false_eq_true, decide_true, decide_false, v1]
  obtain ⟨votes, rfl, hv⟩ := unmap h3
  rw [List.length_map, List.length_map, List.length_range] at h2
  exact ⟨votes, m', h1, h2, hv, h5⟩
end
end L35

set_option Elab.async false
set_option linter.all false
set_option maxRecDepth 100000
namespace L35
open PySem PySem.Spec PyProof.Rows L2 Ev Nr
section
variable {m rest : M} {n mn : Nat} {o1 o2 o3 : List Nat} {votes : List (List Nat)} {e0 e1 e2 e3 e4 e5 e6 e7 e8 e9 e10 e11 e12 e13 e14 e15 e16 : Option R}
abbrev encV (votes : List (List Nat)) : D := .tuple (votes.map encT)
abbrev bst (n : Nat) (votes : List (List Nat)) (mn : Nat) : List (List Nat) := (rowsN n n).filter fun o => decide (tot votes o = mn)
abbrev encB (n : Nat) (votes : List (List Nat)) (mn : Nat) : D := .list ((bst n votes mn).map fun o => encP (tot votes o, o))
theorem q4_ok (h1 : 1 ≤ n) (h4 : n ≤ 4) (H1 : Ord n o1) (H2 : Ord n o2) (H3 : Ord n o3) : q__law_votes_4 [e0, e1, e2, some (.val (encT o1)), some (.val (encT o2)), some (.val (encT o3)), e6, e7, e8, e9, e10, e11, e12, e13, e14, e15, e16] m =
    some (.nx [e0, e1, e2, some (.val (encT o1)), some (.val (encT o2)), some (.val (encT o3)), e6, e7, e8, e9, e10, e11, e12, e13, e14, e15, e16] m) := by
  have t1 : ¬ (((dist o1 o2 : Nat) : Int) + ((dist o2 o3 : Nat) : Int) < ((dist o1 o3 : Nat) : Int)) := by
    have := dist_tri (w := o3) H1 H2
    omega
  have t2 : dist o2 o1 = dist o1 o2 := dist_comm H2 H1
  simp only [q__law_votes_4, ev_asg, ev_par, ev_if, ev_ret, ev_retN, ev_expr, ev_bin, ev_un, ev_ap, ev_cons, ev_nil, ev_varS, ev_var0, ev_c, ob_some, ev_gNm, ev_tOf, ev_asB, ev_asI, ev_tNot, ev_tAnd, ev_tOr, ev_eOf, ev_eIf, ev_chain, List.set_cons_succ, List.set_cons_zero, ev_then_nx, ev_then_rt, ev_next, ev_pTup, ev_valsC, ev_vals0, ev_eL, ev_bm, ev_aug, pix_t, pix_l, pixq0, pixq1, atI_0, atI_1, atI_2, pp_ii, ps_ii, pa_ii, plt_ii, ple_ii, pgt_ii, pge_ii, peq_ii, pne_ii, pneg_i, List.length_cons, List.length_nil, Nat.reduceAdd, Nat.reduceSub, Nat.reduceLeDiff, sz, if_true, Bool.false_eq_true, if_false, Bool.not_true, Bool.not_false, leave_v, List.take_length, plen_t, plen_l, ptup_l, ptup_t, pint_i, pis_n, pis_i, pis_t, pisnt_n, pisnt_i, pisnt_t, Int.cast_ofNat_Int, ne_eq, not_true_eq_false, not_false_eq_true, decide_true, decide_false, distance_ok H1 H2 h1 h4, distance_ok H1 H3 h1 h4, distance_ok H2 H3 h1 h4, distance_ok H2 H1 h1 h4, apart_ok H1 H2 h4, t1, t2]
theorem tot_small (V : Vs n votes) {o : List Nat} (H : Ord n o) : tot votes o ≤ 100 := by
  have h4 := V.n4
  have d : ∀ v, dist o v ≤ 16 := fun v => by
    have : ∀ l : List Nat, inv v.idxOf l ≤ l.length * l.length := fun l => by
      induction l with
      | nil => simp [inv]
      | cons a l ih =>
        have := List.countP_le_length (p := fun b => decide (v.idxOf b < v.idxOf a)) (l := l)
        simp only [inv, List.length_cons, Nat.add_mul, Nat.mul_add]
        omega
    have h := this o
    unfold dist
    rw [H.len] at h
    have : n * n ≤ 4 * 4 := Nat.mul_le_mul h4 h4
    omega
  have s : ∀ l : List (List Nat), (l.map (dist o)).sum ≤ 16 * l.length := fun l => by
    induction l with
    | nil => simp
    | cons a l ih =>
      have := d a
      simp only [List.map_cons, List.sum_cons, List.length_cons]
      omega
  have := s votes
  have := V.v5
  unfold tot
  omega
theorem q6_ok (V : Vs n votes) (L : Least votes n mn) : q__law_votes_6 [e0, e1, some (.val (encV votes)), e3, e4, e5, some (.val (encB n votes mn)), e7, e8, e9, e10, e11, e12, e13, e14, e15, e16] m =
    some (.nx [e0, e1, some (.val (encV votes)), e3, e4, e5, some (.val (encB n votes mn)), e7, e8, e9, e10, e11, e12, e13, e14, e15, e16] m) := by
  obtain ⟨r, n1, n2, n3, n4⟩ := nearest_ok (m := m) (r0 := .val (encV votes)) rfl V
  obtain ⟨o, ho, eo⟩ := L.some_
  have e : tot votes r = mn := by
    have a1 := n3 o ho
    have a2 := L.le r n2
    omega
  rw [e] at n4
  obtain ⟨ys, hy⟩ := List.head?_eq_some_iff.mp n4
  have at0 : atI ((bst n votes mn).map fun o => encP (tot votes o, o)) 0 = some (encP (tot votes r, r)) := by
    rw [show bst n votes mn = r :: ys from hy]
    exact atI_0
  have hr := ord_rows.mp n2
  have s := sh_P (p := (tot votes r, r)) (by have := tot_small V hr; simp only; omega) (fun a ha => by have := hr.lt a ha; have := V.n4; omega) (by have := V.n4; simp only [hr.len]; omega)
  have z1 := s.repr (m := m) (by decide) (by decide)
  have z2 := pNe_shown (m := m) s.sm
  simp only [q__law_votes_6, ev_asg, ev_par, ev_if, ev_ret, ev_retN, ev_expr, ev_bin, ev_un, ev_ap, ev_cons, ev_nil, ev_varS, ev_var0, ev_c, ob_some, ev_gNm, ev_tOf, ev_asB, ev_asI, ev_tNot, ev_tAnd, ev_tOr, ev_eOf, ev_eIf, ev_chain, List.set_cons_succ, List.set_cons_zero, ev_then_nx, ev_then_rt, ev_next, ev_pTup, ev_valsC, ev_vals0, ev_eL, ev_bm, ev_aug, pix_t, pix_l, pixq0, pixq1, atI_0, atI_1, atI_2, pp_ii, ps_ii, pa_ii, plt_ii, ple_ii, pgt_ii, pge_ii, peq_ii, pne_ii, pneg_i, List.length_cons, List.length_nil, Nat.reduceAdd, Nat.reduceSub, Nat.reduceLeDiff, sz, if_true, Bool.false_eq_true, if_false, Bool.not_true, Bool.not_false, leave_v, List.take_length, plen_t, plen_l, ptup_l, ptup_t, pint_i, pis_n, pis_i, pis_t, pisnt_n, pisnt_i, pisnt_t, Int.cast_ofNat_Int, ne_eq, not_true_eq_false, not_false_eq_true, decide_true, decide_false, n1, at0, z1, z2]
/-- the plain winners -/
def wins (votes : List (List Nat)) (n a : Nat) : Bool := (List.range n).all fun b => decide (a = b) || decide (votes.length < 2 * votes.countP fun v => decide (v.idxOf a < v.idxOf b))
theorem plain_e (V : Vs n votes) {a b : Nat} (ha : a < n) (hb : b < n) : e__law_votes4 [e0, e1, some (.val (encV votes)), e3, e4, e5, e6, e7, e8, e9, e10, e11, some (.val (.int (a : Int))), e13, e14, some (.val (.int (b : Int))), none] m =
    some (.val (.bool (decide (a = b) || decide (votes.length < 2 * votes.countP fun v => decide (v.idxOf a < v.idxOf b)))), m) := by
  have hl : votes.length ≤ 16777216 := by have := V.v5; omega
  have c : nComp (itAny (eVar 2)) (.nm 16) [16] t__law_votes3 e__law_votes2 [e0, e1, some (.val (encV votes)), e3, e4, e5, e6, e7, e8, e9, e10, e11, some (.val (.int (a : Int))), e13, e14, some (.val (.int (b : Int))), none] m = some ((votes.filter fun v => decide (v.idxOf a < v.idxOf b)).map fun _ => .int 1, m) :=
    comp_map encT (fun v => decide (v.idxOf a < v.idxOf b)) (fun _ => .int 1) votes rfl hl fun v hv => ⟨_, rfl, by
      have H := V.ord v hv
      have i1 := pidxT_N (m := m) (H.mem.mpr ha)
      have i2 := pidxT_N (m := m) (H.mem.mpr hb)
      show t__law_votes3 [e0, e1, some (.val (encV votes)), e3, e4, e5, e6, e7, e8, e9, e10, e11, some (.val (.int (a : Int))), e13, e14, some (.val (.int (b : Int))), some (.val (encT v))] m = _
      unfold encT at i1 i2 ⊢
      simp only [t__law_votes3, ev_asg, ev_par, ev_if, ev_ret, ev_retN, ev_expr, ev_bin, ev_un, ev_ap, ev_cons, ev_nil, ev_varS, ev_var0, ev_c, ob_some, ev_gNm, ev_tOf, ev_asB, ev_asI, ev_tNot, ev_tAnd, ev_tOr, ev_eOf, ev_eIf, ev_chain, List.set_cons_succ, List.set_cons_zero, ev_then_nx, ev_then_rt, ev_next, ev_pTup, ev_valsC, ev_vals0, ev_eL, ev_bm, ev_aug, pix_t, pix_l, pixq0, pixq1, atI_0, atI_1, atI_2, pp_ii, ps_ii, pa_ii, plt_ii, ple_ii, pgt_ii, pge_ii, peq_ii, pne_ii, pneg_i, List.length_cons, List.length_nil, Nat.reduceAdd, Nat.reduceSub, Nat.reduceLeDiff, sz, if_true, Bool.false_eq_true, if_false, Bool.not_true, Bool.not_false, leave_v, List.take_length, plen_t, plen_l, ptup_l, ptup_t, pint_i, pis_n, pis_i, pis_t, pisnt_n, pisnt_i, pisnt_t, Int.cast_ofNat_Int, ne_eq, not_true_eq_false, not_false_eq_true, decide_true, decide_false, ev_bmT, i1, i2, Int.ofNat_lt], fun _ => rfl⟩
  have hc : (votes.filter fun v => decide (v.idxOf a < v.idxOf b)).length = votes.countP fun v => decide (v.idxOf a < v.idxOf b) := List.countP_eq_length_filter.symm
  have hcl : (votes.countP fun v => decide (v.idxOf a < v.idxOf b)) ≤ votes.length := List.countP_le_length
  have pm : pMul (.val (.int 2)) (.val (.int (((votes.countP fun v => decide (v.idxOf a < v.idxOf b) : Nat)) : Int))) m = some (.val (.int (2 * (((votes.countP fun v => decide (v.idxOf a < v.idxOf b) : Nat)) : Int))), m) := pm_ii (by decide) (by omega)
  have e1' : decide (((votes.length : Nat) : Int) < 2 * (((votes.countP fun v => decide (v.idxOf a < v.idxOf b) : Nat)) : Int)) = decide (votes.length < 2 * votes.countP fun v => decide (v.idxOf a < v.idxOf b)) := by
    by_cases h : votes.length < 2 * votes.countP fun v => decide (v.idxOf a < v.idxOf b)
    · rw [decide_eq_true h, decide_eq_true (by omega)]
    · rw [decide_eq_false h, decide_eq_false (by omega)]
  by_cases h : a = b
  · subst h
    simp only [e__law_votes4, ev_asg, ev_par, ev_if, ev_ret, ev_retN, ev_expr, ev_bin, ev_un, ev_ap, ev_cons, ev_nil, ev_varS, ev_var0, ev_c, ob_some, ev_gNm, ev_tOf, ev_asB, ev_asI, ev_tNot, ev_tAnd, ev_tOr, ev_eOf, ev_eIf, ev_chain, List.set_cons_succ, List.set_cons_zero, ev_then_nx, ev_then_rt, ev_next, ev_pTup, ev_valsC, ev_vals0, ev_eL, ev_bm, ev_aug, pix_t, pix_l, pixq0, pixq1, atI_0, atI_1, atI_2, pp_ii, ps_ii, pa_ii, plt_ii, ple_ii, pgt_ii, pge_ii, peq_ii, pne_ii, pneg_i, List.length_cons, List.length_nil, Nat.reduceAdd, Nat.reduceSub, Nat.reduceLeDiff, sz, if_true, Bool.false_eq_true, if_false, Bool.not_true, Bool.not_false, leave_v, List.take_length, plen_t, plen_l, ptup_l, ptup_t, pint_i, pis_n, pis_i, pis_t, pisnt_n, pisnt_i, pisnt_t, Int.cast_ofNat_Int, ne_eq, not_true_eq_false, not_false_eq_true, decide_true, decide_false]
    simp
  · have h' : ¬ ((a : Int) = (b : Int)) := by omega
    simp only [e__law_votes4, ev_asg, ev_par, ev_if, ev_ret, ev_retN, ev_expr, ev_bin, ev_un, ev_ap, ev_cons, ev_nil, ev_varS, ev_var0, ev_c, ob_some, ev_gNm, ev_tOf, ev_asB, ev_asI, ev_tNot, ev_tAnd, ev_tOr, ev_eOf, ev_eIf, ev_chain, List.set_cons_succ, List.set_cons_zero, ev_then_nx, ev_then_rt, ev_next, ev_pTup, ev_valsC, ev_vals0, ev_eL, ev_bm, ev_aug, pix_t, pix_l, pixq0, pixq1, atI_0, atI_1, atI_2, pp_ii, ps_ii, pa_ii, plt_ii, ple_ii, pgt_ii, pge_ii, peq_ii, pne_ii, pneg_i, List.length_cons, List.length_nil, Nat.reduceAdd, Nat.reduceSub, Nat.reduceLeDiff, sz, if_true, Bool.false_eq_true, if_false, Bool.not_true, Bool.not_false, leave_v, List.take_length, plen_t, plen_l, ptup_l, ptup_t, pint_i, pis_n, pis_i, pis_t, pisnt_n, pisnt_i, pisnt_t, Int.cast_ofNat_Int, ne_eq, not_true_eq_false, not_false_eq_true, decide_true, decide_false, h', c, List.length_map, hc, pm, e1', h]
    simp
theorem q7_ok (V : Vs n votes) : q__law_votes_7 [e0, some (.val (.int (n : Int))), some (.val (encV votes)), e3, e4, e5, e6, e7, e8, e9, e10, e11, none, e13, e14, none, none] m =
    some (.nx [e0, some (.val (.int (n : Int))), some (.val (encV votes)), e3, e4, e5, e6, some (.val (.list (encI ((List.range n).filter (wins votes n))))), e8, e9, e10, e11, none, e13, e14, none, none] m) := by
  have h4 := V.n4
  have rg := rg1_nat (m := m) (n := n) (by omega)
  have hl : (List.range n).length ≤ 16777216 := by rw [List.length_range]; omega
  have c : nComp (itRng1 (aCons (eVar 1) aNil)) (.nm 12) [12] t__law_votes6 e__law_votes5 [e0, some (.val (.int (n : Int))), some (.val (encV votes)), e3, e4, e5, e6, e7, e8, e9, e10, e11, none, e13, e14, none, none] m = some (encI ((List.range n).filter (wins votes n)), m) :=
    comp_map nI (wins votes n) nI (List.range n) (by simp only [it_rg1, ev_asg, ev_par, ev_if, ev_ret, ev_retN, ev_expr, ev_bin, ev_un, ev_ap, ev_cons, ev_nil, ev_varS, ev_var0, ev_c, ob_some, ev_gNm, ev_tOf, ev_asB, ev_asI, ev_tNot, ev_tAnd, ev_tOr, ev_eOf, ev_eIf, ev_chain, List.set_cons_succ, List.set_cons_zero, ev_then_nx, ev_then_rt, ev_next, ev_pTup, ev_valsC, ev_vals0, ev_eL, ev_bm, ev_aug, pix_t, pix_l, pixq0, pixq1, atI_0, atI_1, atI_2, pp_ii, ps_ii, pa_ii, plt_ii, ple_ii, pgt_ii, pge_ii, peq_ii, pne_ii, pneg_i, List.length_cons, List.length_nil, Nat.reduceAdd, Nat.reduceSub, Nat.reduceLeDiff, sz, if_true, Bool.false_eq_true, if_false, Bool.not_true, Bool.not_false, leave_v, List.take_length, plen_t, plen_l, ptup_l, ptup_t, pint_i, pis_n, pis_i, pis_t, pisnt_n, pisnt_i, pisnt_t, Int.cast_ofNat_Int, ne_eq, not_true_eq_false, not_false_eq_true, decide_true, decide_false, rg]) hl fun a ha => ⟨_, rfl, by
      have ha' := List.mem_range.mp ha
      have c2 : nComp (itRng1 (aCons (eVar 1) aNil)) (.nm 15) [15] tTrue e__law_votes4 [e0, some (.val (.int (n : Int))), some (.val (encV votes)), e3, e4, e5, e6, e7, e8, e9, e10, e11, some (.val (.int (a : Int))), e13, e14, none, none] m = some ((List.range n).map fun b => .bool (decide (a = b) || decide (votes.length < 2 * votes.countP fun v => decide (v.idxOf a < v.idxOf b))), m) :=
        comp_all nI (fun b => .bool (decide (a = b) || decide (votes.length < 2 * votes.countP fun v => decide (v.idxOf a < v.idxOf b)))) (List.range n) (by simp only [it_rg1, ev_asg, ev_par, ev_if, ev_ret, ev_retN, ev_expr, ev_bin, ev_un, ev_ap, ev_cons, ev_nil, ev_varS, ev_var0, ev_c, ob_some, ev_gNm, ev_tOf, ev_asB, ev_asI, ev_tNot, ev_tAnd, ev_tOr, ev_eOf, ev_eIf, ev_chain, List.set_cons_succ, List.set_cons_zero, ev_then_nx, ev_then_rt, ev_next, ev_pTup, ev_valsC, ev_vals0, ev_eL, ev_bm, ev_aug, pix_t, pix_l, pixq0, pixq1, atI_0, atI_1, atI_2, pp_ii, ps_ii, pa_ii, plt_ii, ple_ii, pgt_ii, pge_ii, peq_ii, pne_ii, pneg_i, List.length_cons, List.length_nil, Nat.reduceAdd, Nat.reduceSub, Nat.reduceLeDiff, sz, if_true, Bool.false_eq_true, if_false, Bool.not_true, Bool.not_false, leave_v, List.take_length, plen_t, plen_l, ptup_l, ptup_t, pint_i, pis_n, pis_i, pis_t, pisnt_n, pisnt_i, pisnt_t, Int.cast_ofNat_Int, ne_eq, not_true_eq_false, not_false_eq_true, decide_true, decide_false, rg]) hl fun b hb => ⟨_, rfl, plain_e V ha' (List.mem_range.mp hb)⟩
      have p := pall_l (m := m) (List.range n) fun b => decide (a = b) || decide (votes.length < 2 * votes.countP fun v => decide (v.idxOf a < v.idxOf b))
      show t__law_votes6 [e0, some (.val (.int (n : Int))), some (.val (encV votes)), e3, e4, e5, e6, e7, e8, e9, e10, e11, some (.val (.int (a : Int))), e13, e14, none, none] m = _
      simp only [t__law_votes6, ev_asg, ev_par, ev_if, ev_ret, ev_retN, ev_expr, ev_bin, ev_un, ev_ap, ev_cons, ev_nil, ev_varS, ev_var0, ev_c, ob_some, ev_gNm, ev_tOf, ev_asB, ev_asI, ev_tNot, ev_tAnd, ev_tOr, ev_eOf, ev_eIf, ev_chain, List.set_cons_succ, List.set_cons_zero, ev_then_nx, ev_then_rt, ev_next, ev_pTup, ev_valsC, ev_vals0, ev_eL, ev_bm, ev_aug, pix_t, pix_l, pixq0, pixq1, atI_0, atI_1, atI_2, pp_ii, ps_ii, pa_ii, plt_ii, ple_ii, pgt_ii, pge_ii, peq_ii, pne_ii, pneg_i, List.length_cons, List.length_nil, Nat.reduceAdd, Nat.reduceSub, Nat.reduceLeDiff, sz, if_true, Bool.false_eq_true, if_false, Bool.not_true, Bool.not_false, leave_v, List.take_length, plen_t, plen_l, ptup_l, ptup_t, pint_i, pis_n, pis_i, pis_t, pisnt_n, pisnt_i, pisnt_t, Int.cast_ofNat_Int, ne_eq, not_true_eq_false, not_false_eq_true, decide_true, decide_false, c2, p]
      rfl, fun _ => rfl⟩
  simp only [q__law_votes_7, ev_asg, ev_par, ev_if, ev_ret, ev_retN, ev_expr, ev_bin, ev_un, ev_ap, ev_cons, ev_nil, ev_varS, ev_var0, ev_c, ob_some, ev_gNm, ev_tOf, ev_asB, ev_asI, ev_tNot, ev_tAnd, ev_tOr, ev_eOf, ev_eIf, ev_chain, List.set_cons_succ, List.set_cons_zero, ev_then_nx, ev_then_rt, ev_next, ev_pTup, ev_valsC, ev_vals0, ev_eL, ev_bm, ev_aug, pix_t, pix_l, pixq0, pixq1, atI_0, atI_1, atI_2, pp_ii, ps_ii, pa_ii, plt_ii, ple_ii, pgt_ii, pge_ii, peq_ii, pne_ii, pneg_i, List.length_cons, List.length_nil, Nat.reduceAdd, Nat.reduceSub, Nat.reduceLeDiff, sz, if_true, Bool.false_eq_true, if_false, Bool.not_true, Bool.not_false, leave_v, List.take_length, plen_t, plen_l, ptup_l, ptup_t, pint_i, pis_n, pis_i, pis_t, pisnt_n, pisnt_i, pisnt_t, Int.cast_ofNat_Int, ne_eq, not_true_eq_false, not_false_eq_true, decide_true, decide_false, c]
theorem wins_first (V : Vs n votes) (L : Least votes n mn) {a : Nat} (ha : a < n) (hw : wins votes n a = true) {o : List Nat} (ho : o ∈ bst n votes mn) : o.head? = some a := by
  obtain ⟨h1, h2⟩ := List.mem_filter.mp ho
  have h3 := of_decide_eq_true h2
  refine winner V.ord (ord_rows.mp h1) ha (fun b hb hne => ?_) fun x hx => ?_
  · have := List.all_eq_true.mp hw b (List.mem_range.mpr hb)
    rw [decide_eq_false (fun z => hne z.symm), Bool.false_or] at this
    exact of_decide_eq_true this
  · rw [h3]
    exact L.le x (ord_rows.mpr hx)
theorem q8_ok (V : Vs n votes) (L : Least votes n mn) : q__law_votes_8 [e0, e1, e2, e3, e4, e5, some (.val (encB n votes mn)), some (.val (.list (encI ((List.range n).filter (wins votes n))))), e8, e9, e10, e11, e12, none, none, e15, e16] m =
    some (.nx [e0, e1, e2, e3, e4, e5, some (.val (encB n votes mn)), some (.val (.list (encI ((List.range n).filter (wins votes n))))), e8, e9, e10, e11, e12, none, none, e15, e16] m) := by
  have z : (0 : Nat) ≤ 16777216 := by decide
  have ee : PyData.list [] = .list (encI []) := rfl
  have sh : ∀ l : List Nat, SeqAt.shaped (.list (encI l)) = true := lay_ints
  have ne := pne_dd (m := m) (sh ((List.range n).filter (wins votes n))) (sh [])
  rw [eqv_LN] at ne
  by_cases hp : (List.range n).filter (wins votes n) = []
  · rw [hp] at ne ⊢
    have e : decide (([] : List Nat) = []) = true := by decide
    rw [e] at ne
    simp only [q__law_votes_8, ev_asg, ev_par, ev_if, ev_ret, ev_retN, ev_expr, ev_bin, ev_un, ev_ap, ev_cons, ev_nil, ev_varS, ev_var0, ev_c, ob_some, ev_gNm, ev_tOf, ev_asB, ev_asI, ev_tNot, ev_tAnd, ev_tOr, ev_eOf, ev_eIf, ev_chain, List.set_cons_succ, List.set_cons_zero, ev_then_nx, ev_then_rt, ev_next, ev_pTup, ev_valsC, ev_vals0, ev_eL, ev_bm, ev_aug, pix_t, pix_l, pixq0, pixq1, atI_0, atI_1, atI_2, pp_ii, ps_ii, pa_ii, plt_ii, ple_ii, pgt_ii, pge_ii, peq_ii, pne_ii, pneg_i, List.length_cons, List.length_nil, Nat.reduceAdd, Nat.reduceSub, Nat.reduceLeDiff, sz, if_true, Bool.false_eq_true, if_false, Bool.not_true, Bool.not_false, leave_v, List.take_length, plen_t, plen_l, ptup_l, ptup_t, pint_i, pis_n, pis_i, pis_t, pisnt_n, pisnt_i, pisnt_t, Int.cast_ofNat_Int, ne_eq, not_true_eq_false, not_false_eq_true, decide_true, decide_false, ev_nLst, z, ee, ne]
  · obtain ⟨c, ps, hc⟩ := List.exists_cons_of_ne_nil hp
    have hmem : c ∈ (List.range n).filter (wins votes n) := by rw [hc]; simp
    obtain ⟨m1, m2⟩ := List.mem_filter.mp hmem
    have hl : (bst n votes mn).length ≤ 16777216 := Nat.le_trans (List.length_filter_le _ _) (Nat.le_trans (rows_len V.n4) (by decide))
    have at0 : atI (encI ((List.range n).filter (wins votes n))) 0 = some (.int (c : Int)) := by rw [hc]; exact atI_0
    have c1 : nComp (itAny (eVar 6)) (.tp (.cons (.nm 14) (.cons (.nm 13) .nil))) [14, 13] tTrue e__law_votes7 [e0, e1, e2, e3, e4, e5, some (.val (encB n votes mn)), some (.val (.list (encI ((List.range n).filter (wins votes n))))), e8, e9, e10, e11, e12, none, none, e15, e16] m = some ((bst n votes mn).map fun _ => .bool false, m) :=
      comp_all (fun o => encP (tot votes o, o)) (fun _ => .bool false) (bst n votes mn) rfl hl fun o ho => ⟨_, rfl, by
        have hf := wins_first V L (List.mem_range.mp m1) m2 ho
        obtain ⟨ys, rfl⟩ := List.head?_eq_some_iff.mp hf
        have p0 : pIdx (.val (encT (c :: ys))) (.val (.int 0)) m = some (.val (.int (c : Int)), m) := pix_T0 rfl
        show e__law_votes7 [e0, e1, e2, e3, e4, e5, some (.val (encB n votes mn)), some (.val (.list (encI ((List.range n).filter (wins votes n))))), e8, e9, e10, e11, e12, some (.val (encT (c :: ys))), some (.val (.int ((tot votes (c :: ys) : Nat) : Int))), e15, e16] m = _
        simp only [e__law_votes7, ev_asg, ev_par, ev_if, ev_ret, ev_retN, ev_expr, ev_bin, ev_un, ev_ap, ev_cons, ev_nil, ev_varS, ev_var0, ev_c, ob_some, ev_gNm, ev_tOf, ev_asB, ev_asI, ev_tNot, ev_tAnd, ev_tOr, ev_eOf, ev_eIf, ev_chain, List.set_cons_succ, List.set_cons_zero, ev_then_nx, ev_then_rt, ev_next, ev_pTup, ev_valsC, ev_vals0, ev_eL, ev_bm, ev_aug, pix_t, pix_l, pixq0, pixq1, atI_0, atI_1, atI_2, pp_ii, ps_ii, pa_ii, plt_ii, ple_ii, pgt_ii, pge_ii, peq_ii, pne_ii, pneg_i, List.length_cons, List.length_nil, Nat.reduceAdd, Nat.reduceSub, Nat.reduceLeDiff, sz, if_true, Bool.false_eq_true, if_false, Bool.not_true, Bool.not_false, leave_v, List.take_length, plen_t, plen_l, ptup_l, ptup_t, pint_i, pis_n, pis_i, pis_t, pisnt_n, pisnt_i, pisnt_t, Int.cast_ofNat_Int, ne_eq, not_true_eq_false, not_false_eq_true, decide_true, decide_false, p0, at0]⟩
    have p := pany_l (m := m) (bst n votes mn) fun _ => false
    have pf : ((bst n votes mn).any fun _ => false) = false := by simp
    rw [decide_eq_false hp] at ne
    simp only [q__law_votes_8, ev_asg, ev_par, ev_if, ev_ret, ev_retN, ev_expr, ev_bin, ev_un, ev_ap, ev_cons, ev_nil, ev_varS, ev_var0, ev_c, ob_some, ev_gNm, ev_tOf, ev_asB, ev_asI, ev_tNot, ev_tAnd, ev_tOr, ev_eOf, ev_eIf, ev_chain, List.set_cons_succ, List.set_cons_zero, ev_then_nx, ev_then_rt, ev_next, ev_pTup, ev_valsC, ev_vals0, ev_eL, ev_bm, ev_aug, pix_t, pix_l, pixq0, pixq1, atI_0, atI_1, atI_2, pp_ii, ps_ii, pa_ii, plt_ii, ple_ii, pgt_ii, pge_ii, peq_ii, pne_ii, pneg_i, List.length_cons, List.length_nil, Nat.reduceAdd, Nat.reduceSub, Nat.reduceLeDiff, sz, if_true, Bool.false_eq_true, if_false, Bool.not_true, Bool.not_false, leave_v, List.take_length, plen_t, plen_l, ptup_l, ptup_t, pint_i, pis_n, pis_i, pis_t, pisnt_n, pisnt_i, pisnt_t, Int.cast_ofNat_Int, ne_eq, not_true_eq_false, not_false_eq_true, decide_true, decide_false, ev_nLst, z, ee, ne, c1, p, pf]
theorem q9_ok (h1 : 1 ≤ n) (h4 : n ≤ 4) (H : Ord n o1) : q__law_votes_9 [e0, e1, e2, some (.val (encT o1)), e4, e5, e6, e7, e8, e9, e10, e11, e12, e13, e14, e15, e16] m =
    some (.nx [e0, e1, e2, some (.val (encT o1)), e4, e5, e6, e7, e8, e9, e10, e11, e12, e13, e14, e15, e16] m) := by
  have V1 : Vs n [o1] := ⟨h1, h4, by simp, by simp, fun v hv => by rw [List.mem_singleton.mp hv]; exact H⟩
  have V2 : Vs n [o1, o1] := ⟨h1, h4, by simp, by simp, fun v hv => by simp at hv; rw [hv]; exact H⟩
  have d0 := dist_self o1 H.nd
  obtain ⟨r1, a1, a2, a3, _⟩ := nearest_ok (m := m) (r0 := .val (encV [o1])) rfl V1
  obtain ⟨r2, b1, b2, b3, _⟩ := nearest_ok (m := m) (r0 := .val (encV [o1, o1])) rfl V2
  have c1 : r1 = o1 := by
    have := a3 o1 (ord_rows.mpr H)
    simp [tot, d0] at this
    exact dist_zero (ord_rows.mp a2) H (by omega)
  have c2 : r2 = o1 := by
    have := b3 o1 (ord_rows.mpr H)
    simp [tot, d0] at this
    exact dist_zero (ord_rows.mp b2) H (by omega)
  subst c1
  subst c2
  have t1 : tot [r2] r2 = 0 := by simp [tot, d0]
  rw [t1] at a1
  have z2 : (0 + 1 + 1 : Nat) ≤ 16777216 := by decide
  have z1 : (0 + 1 : Nat) ≤ 16777216 := by decide
  have s1 : encV [r2] = .tuple [encT r2] := rfl
  have s2 : encV [r2, r2] = .tuple [encT r2, encT r2] := rfl
  rw [s1] at a1
  rw [s2] at b1
  have s3 : PyData.tuple [.int 0, encT r2] = encP (0, r2) := rfl
  have p1 := pne_dd (m := m) (shT r2) (shT r2)
  have p2 := pne_dd (m := m) (shP (0, r2)) (shP (0, r2))
  rw [eqv_T] at p1
  rw [eqv_P] at p2
  simp only [q__law_votes_9, ev_asg, ev_par, ev_if, ev_ret, ev_retN, ev_expr, ev_bin, ev_un, ev_ap, ev_cons, ev_nil, ev_varS, ev_var0, ev_c, ob_some, ev_gNm, ev_tOf, ev_asB, ev_asI, ev_tNot, ev_tAnd, ev_tOr, ev_eOf, ev_eIf, ev_chain, List.set_cons_succ, List.set_cons_zero, ev_then_nx, ev_then_rt, ev_next, ev_pTup, ev_valsC, ev_vals0, ev_eL, ev_bm, ev_aug, pix_t, pix_l, pixq0, pixq1, atI_0, atI_1, atI_2, pp_ii, ps_ii, pa_ii, plt_ii, ple_ii, pgt_ii, pge_ii, peq_ii, pne_ii, pneg_i, List.length_cons, List.length_nil, Nat.reduceAdd, Nat.reduceSub, Nat.reduceLeDiff, sz, if_true, Bool.false_eq_true, if_false, Bool.not_true, Bool.not_false, leave_v, List.take_length, plen_t, plen_l, ptup_l, ptup_t, pint_i, pis_n, pis_i, pis_t, pisnt_n, pisnt_i, pisnt_t, Int.cast_ofNat_Int, ne_eq, not_true_eq_false, not_false_eq_true, decide_true, decide_false, z1, z2, a1, b1, pixP1, p1, s3, p2]
theorem q11_ok (V : Vs n votes) (L : Least votes n mn) {k : Nat} (hk : k < votes.length) : ∃ f9 f10 f11, q__law_votes_11 [e0, some (.val (.int (n : Int))), some (.val (encV votes)), e3, e4, e5, some (.val (encB n votes mn)), e7, some (.val (.int (k : Int))), e9, e10, e11, e12, none, none, e15, e16] m =
    some (.nx [e0, some (.val (.int (n : Int))), some (.val (encV votes)), e3, e4, e5, some (.val (encB n votes mn)), e7, some (.val (.int (k : Int))), f9, f10, f11, e12, none, none, e15, e16] m) := by
  by_cases h0 : k = 0
  · subst h0
    refine ⟨e9, e10, e11, ?_⟩
    simp only [q__law_votes_11, ev_asg, ev_par, ev_if, ev_ret, ev_retN, ev_expr, ev_bin, ev_un, ev_ap, ev_cons, ev_nil, ev_varS, ev_var0, ev_c, ob_some, ev_gNm, ev_tOf, ev_asB, ev_asI, ev_tNot, ev_tAnd, ev_tOr, ev_eOf, ev_eIf, ev_chain, List.set_cons_succ, List.set_cons_zero, ev_then_nx, ev_then_rt, ev_next, ev_pTup, ev_valsC, ev_vals0, ev_eL, ev_bm, ev_aug, pix_t, pix_l, pixq0, pixq1, atI_0, atI_1, atI_2, pp_ii, ps_ii, pa_ii, plt_ii, ple_ii, pgt_ii, pge_ii, peq_ii, pne_ii, pneg_i, List.length_cons, List.length_nil, Nat.reduceAdd, Nat.reduceSub, Nat.reduceLeDiff, sz, if_true, Bool.false_eq_true, if_false, Bool.not_true, Bool.not_false, leave_v, List.take_length, plen_t, plen_l, ptup_l, ptup_t, pint_i, pis_n, pis_i, pis_t, pisnt_n, pisnt_i, pisnt_t, Int.cast_ofNat_Int, ne_eq, not_true_eq_false, not_false_eq_true, decide_true, decide_false, Int.ofNat_zero, Int.lt_irrefl]
  · have hk0 : (0 : Int) < (k : Int) := by omega
    have Va : Vs n (votes.take k) := ⟨V.n1, V.n4, by rw [List.length_take]; omega, by rw [List.length_take]; have := V.v5; omega, fun v hv => V.ord v (List.mem_of_mem_take hv)⟩
    have Vb : Vs n (votes.drop k) := ⟨V.n1, V.n4, by rw [List.length_drop]; omega, by rw [List.length_drop]; have := V.v5; omega, fun v hv => V.ord v (List.mem_of_mem_drop hv)⟩
    obtain ⟨ma, La, ea⟩ := law_nearest_ok (m := m) (r := .val (.tuple ((votes.map encT).take k))) Va (by rw [List.map_take])
    obtain ⟨mb, Lb, eb⟩ := law_nearest_ok (m := m) (r := .val (.tuple ((votes.map encT).drop k))) Vb (by rw [List.map_drop])
    have hle : ∀ (P : List Nat → Bool), ((rowsN n n).filter P).length ≤ 16777216 := fun P => by
      have := rows_len (k := n) V.n4
      have := List.length_filter_le P (rowsN n n)
      omega
    generalize hA : (rowsN n n).filter (fun o => decide (tot (votes.take k) o = ma)) = A at ea
    generalize hB : (rowsN n n).filter (fun o => decide (tot (votes.drop k) o = mb)) = B at eb
    have lA : A.length ≤ 16777216 := by rw [← hA]; exact hle _
    have lB : B.length ≤ 16777216 := by rw [← hB]; exact hle _
    have cA : ∀ {e9 e10 e11 : Option R}, nComp (itAny (eAp m__law_nearest (aCons (eSl (eVar 2) oNone (oSome (eVar 8))) (aCons (eVar 1) aNil)))) (.tp (.cons (.nm 14) (.cons (.nm 13) .nil))) [14, 13] tTrue e__law_votes9 [e0, some (.val (.int (n : Int))), some (.val (encV votes)), e3, e4, e5, some (.val (encB n votes mn)), e7, some (.val (.int (k : Int))), e9, e10, e11, e12, none, none, e15, e16] m = some (A.map encT, m) := fun {e9 e10 e11} =>
      comp_all (fun o => encP (tot (votes.take k) o, o)) encT A (by simp only [it_an, ev_asg, ev_par, ev_if, ev_ret, ev_retN, ev_expr, ev_bin, ev_un, ev_ap, ev_cons, ev_nil, ev_varS, ev_var0, ev_c, ob_some, ev_gNm, ev_tOf, ev_asB, ev_asI, ev_tNot, ev_tAnd, ev_tOr, ev_eOf, ev_eIf, ev_chain, List.set_cons_succ, List.set_cons_zero, ev_then_nx, ev_then_rt, ev_next, ev_pTup, ev_valsC, ev_vals0, ev_eL, ev_bm, ev_aug, pix_t, pix_l, pixq0, pixq1, atI_0, atI_1, atI_2, pp_ii, ps_ii, pa_ii, plt_ii, ple_ii, pgt_ii, pge_ii, peq_ii, pne_ii, pneg_i, List.length_cons, List.length_nil, Nat.reduceAdd, Nat.reduceSub, Nat.reduceLeDiff, sz, if_true, Bool.false_eq_true, if_false, Bool.not_true, Bool.not_false, leave_v, List.take_length, plen_t, plen_l, ptup_l, ptup_t, pint_i, pis_n, pis_i, pis_t, pisnt_n, pisnt_i, pisnt_t, Int.cast_ofNat_Int, ne_eq, not_true_eq_false, not_false_eq_true, decide_true, decide_false, ev_sl, ev_oNone, ev_oSome, sl1_t, cut_take, ea, an1_l]) lA fun o ho => ⟨_, rfl, rfl⟩
    have cB : ∀ {e9 e10 e11 : Option R}, nComp (itAny (eAp m__law_nearest (aCons (eSl (eVar 2) (oSome (eVar 8)) oNone) (aCons (eVar 1) aNil)))) (.tp (.cons (.nm 14) (.cons (.nm 13) .nil))) [14, 13] tTrue e__law_votes8 [e0, some (.val (.int (n : Int))), some (.val (encV votes)), e3, e4, e5, some (.val (encB n votes mn)), e7, some (.val (.int (k : Int))), e9, e10, e11, e12, none, none, e15, e16] m = some (B.map encT, m) := fun {e9 e10 e11} =>
      comp_all (fun o => encP (tot (votes.drop k) o, o)) encT B (by simp only [it_an, ev_asg, ev_par, ev_if, ev_ret, ev_retN, ev_expr, ev_bin, ev_un, ev_ap, ev_cons, ev_nil, ev_varS, ev_var0, ev_c, ob_some, ev_gNm, ev_tOf, ev_asB, ev_asI, ev_tNot, ev_tAnd, ev_tOr, ev_eOf, ev_eIf, ev_chain, List.set_cons_succ, List.set_cons_zero, ev_then_nx, ev_then_rt, ev_next, ev_pTup, ev_valsC, ev_vals0, ev_eL, ev_bm, ev_aug, pix_t, pix_l, pixq0, pixq1, atI_0, atI_1, atI_2, pp_ii, ps_ii, pa_ii, plt_ii, ple_ii, pgt_ii, pge_ii, peq_ii, pne_ii, pneg_i, List.length_cons, List.length_nil, Nat.reduceAdd, Nat.reduceSub, Nat.reduceLeDiff, sz, if_true, Bool.false_eq_true, if_false, Bool.not_true, Bool.not_false, leave_v, List.take_length, plen_t, plen_l, ptup_l, ptup_t, pint_i, pis_n, pis_i, pis_t, pisnt_n, pisnt_i, pisnt_t, Int.cast_ofNat_Int, ne_eq, not_true_eq_false, not_false_eq_true, decide_true, decide_false, ev_sl, ev_oNone, ev_oSome, sl1_t, cut_drop, eb, an1_l]) lB fun o ho => ⟨_, rfl, rfl⟩
    have cC : nComp (itAny (eVar 9)) (.nm 13) [13] t__law_votes11 e__law_votes10 [e0, some (.val (.int (n : Int))), some (.val (encV votes)), e3, e4, e5, some (.val (encB n votes mn)), e7, some (.val (.int (k : Int))), some (.val (.list (A.map encT))), some (.val (.list (B.map encT))), e11, e12, none, none, e15, e16] m = some ((A.filter fun o => decide (o ∈ B)).map encT, m) :=
      comp_map encT (fun o => decide (o ∈ B)) encT A rfl lA fun o ho => ⟨_, rfl, by
        have p := pin_TT (m := m) (a := o) (l := B) (r := .val (.list (B.map encT))) rfl
        show t__law_votes11 [e0, some (.val (.int (n : Int))), some (.val (encV votes)), e3, e4, e5, some (.val (encB n votes mn)), e7, some (.val (.int (k : Int))), some (.val (.list (A.map encT))), some (.val (.list (B.map encT))), e11, e12, some (.val (encT o)), none, e15, e16] m = _
        simp only [t__law_votes11, ev_asg, ev_par, ev_if, ev_ret, ev_retN, ev_expr, ev_bin, ev_un, ev_ap, ev_cons, ev_nil, ev_varS, ev_var0, ev_c, ob_some, ev_gNm, ev_tOf, ev_asB, ev_asI, ev_tNot, ev_tAnd, ev_tOr, ev_eOf, ev_eIf, ev_chain, List.set_cons_succ, List.set_cons_zero, ev_then_nx, ev_then_rt, ev_next, ev_pTup, ev_valsC, ev_vals0, ev_eL, ev_bm, ev_aug, pix_t, pix_l, pixq0, pixq1, atI_0, atI_1, atI_2, pp_ii, ps_ii, pa_ii, plt_ii, ple_ii, pgt_ii, pge_ii, peq_ii, pne_ii, pneg_i, List.length_cons, List.length_nil, Nat.reduceAdd, Nat.reduceSub, Nat.reduceLeDiff, sz, if_true, Bool.false_eq_true, if_false, Bool.not_true, Bool.not_false, leave_v, List.take_length, plen_t, plen_l, ptup_l, ptup_t, pint_i, pis_n, pis_i, pis_t, pisnt_n, pisnt_i, pisnt_t, Int.cast_ofNat_Int, ne_eq, not_true_eq_false, not_false_eq_true, decide_true, decide_false, p], fun _ => rfl⟩
    have cD : ∀ {e9 e10 e11 : Option R}, nComp (itAny (eVar 6)) (.tp (.cons (.nm 14) (.cons (.nm 13) .nil))) [14, 13] tTrue e__law_votes12 [e0, some (.val (.int (n : Int))), some (.val (encV votes)), e3, e4, e5, some (.val (encB n votes mn)), e7, some (.val (.int (k : Int))), e9, e10, e11, e12, none, none, e15, e16] m = some ((bst n votes mn).map encT, m) := fun {e9 e10 e11} =>
      comp_all (fun o => encP (tot votes o, o)) encT (bst n votes mn) rfl (hle _) fun o ho => ⟨_, rfl, rfl⟩
    have eC : (A.filter fun o => decide (o ∈ B)) = (rowsN n n).filter fun x => decide (tot (votes.take k) x = ma) && decide (tot (votes.drop k) x = mb) := by
      rw [← hA, List.filter_filter]
      refine List.filter_congr fun x hx => ?_
      have hm : x ∈ B ↔ tot (votes.drop k) x = mb := by
        rw [← hB, List.mem_filter, decide_eq_true_eq]
        exact ⟨fun z => z.2, fun z => ⟨hx, z⟩⟩
      have e : decide (x ∈ B) = decide (tot (votes.drop k) x = mb) := decide_eq_decide.mpr hm
      rw [e, Bool.and_comm]
    have ht : ∀ x, tot votes x = tot (votes.take k) x + tot (votes.drop k) x := fun x => by rw [← tot_app, List.take_append_drop]
    have srt : ∀ P : List Nat → Bool, pSortedA [.val (.list (((rowsN n n).filter P).map encT))] m = some (.val (.list (((rowsN n n).filter P).map encT)), m) := fun P => psort_sorted ((rows_sorted V.n4).filter P) (fun u hu z => by
      have q := (mem_rows.mp (List.mem_filter.mp hu).1).2.1
      rw [z] at q
      have := V.n1
      rw [List.length_nil] at q
      omega) (hle P)
    have z0 : (0 : Nat) ≤ 16777216 := by decide
    have z2 : (0 + 1 + 1 : Nat) ≤ 16777216 := by decide
    have ee : PyData.list [] = .list (([] : List (List Nat)).map encT) := rfl
    have ne := pne_dd (m := m) (shLT (A.filter fun o => decide (o ∈ B))) (shLT [])
    rw [eqv_LT] at ne
    have sg : ∀ (a b : R) (env : Sl), setAll [9, 10] [a, b] env = some ((env.set 9 (some a)).set 10 (some b)) := fun _ _ _ => rfl
    refine ⟨some (.val (.list (A.map encT))), some (.val (.list (B.map encT))), some (.val (.list ((A.filter fun o => decide (o ∈ B)).map encT))), ?_⟩
    by_cases hb : (A.filter fun o => decide (o ∈ B)) = []
    · rw [hb] at ne cC ⊢
      have e : decide (([] : List (List Nat)) = []) = true := by decide
      rw [e] at ne
      simp only [q__law_votes_11, ev_seq, ev_asg, ev_par, ev_if, ev_ret, ev_retN, ev_expr, ev_bin, ev_un, ev_ap, ev_cons, ev_nil, ev_varS, ev_var0, ev_c, ob_some, ev_gNm, ev_tOf, ev_asB, ev_asI, ev_tNot, ev_tAnd, ev_tOr, ev_eOf, ev_eIf, ev_chain, List.set_cons_succ, List.set_cons_zero, ev_then_nx, ev_then_rt, ev_next, ev_pTup, ev_valsC, ev_vals0, ev_eL, ev_bm, ev_aug, pix_t, pix_l, pixq0, pixq1, atI_0, atI_1, atI_2, pp_ii, ps_ii, pa_ii, plt_ii, ple_ii, pgt_ii, pge_ii, peq_ii, pne_ii, pneg_i, List.length_cons, List.length_nil, Nat.reduceAdd, Nat.reduceSub, Nat.reduceLeDiff, sz, if_true, Bool.false_eq_true, if_false, Bool.not_true, Bool.not_false, leave_v, List.take_length, plen_t, plen_l, ptup_l, ptup_t, pint_i, pis_n, pis_i, pis_t, pisnt_n, pisnt_i, pisnt_t, Int.cast_ofNat_Int, ne_eq, not_true_eq_false, not_false_eq_true, decide_true, decide_false, hk0, ev_parG, cA, cB, z2, sg, cC, ev_nLst, z0, ee, ne]
    · have pt : bst n votes mn = (A.filter fun o => decide (o ∈ B)) := by
        rw [eC] at hb ⊢
        obtain ⟨x, ys, hx⟩ := List.exists_cons_of_ne_nil hb
        have hm : x ∈ (rowsN n n).filter fun x => decide (tot (votes.take k) x = ma) && decide (tot (votes.drop k) x = mb) := by rw [hx]; simp
        obtain ⟨m1, m2⟩ := List.mem_filter.mp hm
        simp only [Bool.and_eq_true, decide_eq_true_eq] at m2
        obtain ⟨y, hy, ey⟩ := L.some_
        have := parts (rows := rowsN n n) (f := tot (votes.take k)) (g := tot (votes.drop k)) (mf := ma) (mg := mb) (mh := mn) La.le Lb.le (fun x hx => by rw [← ht]; exact L.le x hx) ⟨y, hy, by rw [← ht]; exact ey⟩ ⟨x, m1, m2⟩
        rw [← this]
        refine List.filter_congr fun x _ => ?_
        rw [ht]
      have s1 := srt fun x => decide (tot (votes.take k) x = ma) && decide (tot (votes.drop k) x = mb)
      rw [← eC] at s1
      have sm := pne_dd (m := m) (shLT (A.filter fun o => decide (o ∈ B))) (shLT (A.filter fun o => decide (o ∈ B)))
      rw [eqv_LT, decide_eq_true rfl] at sm
      rw [decide_eq_false hb] at ne
      rw [pt] at cD
      simp only [encB] at cD ⊢
      simp only [q__law_votes_11, ev_seq, ev_asg, ev_par, ev_if, ev_ret, ev_retN, ev_expr, ev_bin, ev_un, ev_ap, ev_cons, ev_nil, ev_varS, ev_var0, ev_c, ob_some, ev_gNm, ev_tOf, ev_asB, ev_asI, ev_tNot, ev_tAnd, ev_tOr, ev_eOf, ev_eIf, ev_chain, List.set_cons_succ, List.set_cons_zero, ev_then_nx, ev_then_rt, ev_next, ev_pTup, ev_valsC, ev_vals0, ev_eL, ev_bm, ev_aug, pix_t, pix_l, pixq0, pixq1, atI_0, atI_1, atI_2, pp_ii, ps_ii, pa_ii, plt_ii, ple_ii, pgt_ii, pge_ii, peq_ii, pne_ii, pneg_i, List.length_cons, List.length_nil, Nat.reduceAdd, Nat.reduceSub, Nat.reduceLeDiff, sz, if_true, Bool.false_eq_true, if_false, Bool.not_true, Bool.not_false, leave_v, List.take_length, plen_t, plen_l, ptup_l, ptup_t, pint_i, pis_n, pis_i, pis_t, pisnt_n, pisnt_i, pisnt_t, Int.cast_ofNat_Int, ne_eq, not_true_eq_false, not_false_eq_true, decide_true, decide_false, hk0, ev_parG, cA, cB, z2, sg, cC, ev_nLst, z0, ee, ne, s1, cD, sm]
end
end L35

set_option Elab.async false
set_option linter.all false
set_option maxRecDepth 100000
namespace L35
open PySem PySem.Spec PyProof.Rows L2 Ev Nr
section
variable {m rest : M}
theorem votes_true (h : Bx rest m) : ∃ m', m__law_votes [.ref 0] m = some (.val (.bool true), m') ∧ Bx rest m' := by
  obtain ⟨d, m1, a1, a2, a3⟩ := drawN h (k := 4) (by decide) (by decide)
  have a1' : m__law_draw [.ref 0, .val (.int 4)] m = some (.val (.int (d : Int)), m1) := a1
  have n1 : 1 ≤ d + 1 := by omega
  have n4 : d + 1 ≤ 4 := by omega
  obtain ⟨k, m2, b1, b2, b3⟩ := drawN a3 (k := 5) (by decide) (by decide)
  have b1' : m__law_draw [.ref 0, .val (.int 5)] m1 = some (.val (.int (k : Int)), m2) := b1
  have e1 : (1 : Int) + (d : Int) = ((d + 1 : Nat) : Int) := by omega
  have e2 : (1 : Int) + (k : Int) = ((k + 1 : Nat) : Int) := by omega
  have rg := rg1_nat (m := m2) (n := k + 1) (by omega)
  obtain ⟨votes, m3, c1, c2, c3, c4⟩ := votes_drawn (n := d + 1) b3 n4 (k + 1) (e2 := none) (e3 := none) (e4 := none) (e5 := none) (e6 := none) (e7 := none) (e9 := none) (e10 := none) (e11 := none) (e12 := none) (e13 := none) (e14 := none) (e15 := none) (e16 := none)
  have V : Vs (d + 1) votes := ⟨n1, n4, by omega, by omega, c3⟩
  obtain ⟨o1, m4, d1, d2, d3⟩ := vote_ok c4 n4
  obtain ⟨o2, m5, f1, f2, f3⟩ := vote_ok d3 n4
  obtain ⟨o3, m6, g1, g2, g3⟩ := vote_ok f3 n4
  obtain ⟨mn, L, ln⟩ := law_nearest_ok (m := m6) (r := .val (encV votes)) V rfl
  obtain ⟨j, m7, j1, j2, j3⟩ := drawN g3 (k := votes.length) (by omega) (by omega)
  have hl : ((List.range (k + 1)).map nI).length ≤ 16777216 := by simp; omega
  obtain ⟨f9, f10, f11, z⟩ := q11_ok (m := m7) V L j2 (e0 := some (.ref 0)) (e3 := some (.val (encT o1))) (e4 := some (.val (encT o2))) (e5 := some (.val (encT o3))) (e7 := some (.val (.list (encI ((List.range (d + 1)).filter (wins votes (d + 1))))))) (e9 := none) (e10 := none) (e11 := none) (e12 := none) (e15 := none) (e16 := none)
  have cc : nComp (itRng1 (aCons (eBin pPlus (eC (.int 1)) (eAp m__law_draw (aCons (eVar 0) (aCons (eC (.int 5)) aNil)))) aNil)) (.nm 8) [8] tTrue e__law_votes1 [some (.ref 0), some (.val (.int ((d + 1 : Nat) : Int))), none, none, none, none, none, none, none, none, none, none, none, none, none, none, none] m1 = some (votes.map encT, m3) := by
    rw [nComp_L (ds := (List.range (k + 1)).map nI) (m' := m2) (by simp only [it_rg1, ev_asg, ev_par, ev_if, ev_ret, ev_retN, ev_expr, ev_bin, ev_un, ev_ap, ev_cons, ev_nil, ev_varS, ev_var0, ev_c, ob_some, ev_gNm, ev_tOf, ev_asB, ev_asI, ev_tNot, ev_tAnd, ev_tOr, ev_eOf, ev_eIf, ev_chain, List.set_cons_succ, List.set_cons_zero, ev_then_nx, ev_then_rt, ev_next, ev_pTup, ev_valsC, ev_vals0, ev_eL, ev_bm, ev_aug, pix_t, pix_l, pixq0, pixq1, atI_0, atI_1, atI_2, pp_ii, ps_ii, pa_ii, plt_ii, ple_ii, pgt_ii, pge_ii, peq_ii, pne_ii, pneg_i, List.length_cons, List.length_nil, Nat.reduceAdd, Nat.reduceSub, Nat.reduceLeDiff, sz, if_true, Bool.false_eq_true, if_false, Bool.not_true, Bool.not_false, leave_v, List.take_length, plen_t, plen_l, ptup_l, ptup_t, pint_i, pis_n, pis_i, pis_t, pisnt_n, pisnt_i, pisnt_t, Int.cast_ofNat_Int, ne_eq, not_true_eq_false, not_false_eq_true, decide_true, decide_false, b1', e2, rg]) (by rw [sz]; exact hl)]
    exact c1
  refine ⟨m7, ?_, j3⟩
  simp only [m__law_votes, bodyF, List.length_cons, List.length_nil, Nat.reduceAdd, Nat.reduceSub, List.map_cons, List.map_nil, List.replicate, List.cons_append, List.nil_append, List.append_nil, b__law_votes, z__law_votes_1, z__law_votes_2, z__law_votes_3, z__law_votes_4, z__law_votes_5, z__law_votes_6, z__law_votes_7, z__law_votes_8, z__law_votes_9, z__law_votes_10, z__law_votes_11, z__law_votes_12, ev_seq, q__law_votes_1, q__law_votes_2, q__law_votes_3, ev_asg, ev_par, ev_if, ev_ret, ev_retN, ev_expr, ev_bin, ev_un, ev_ap, ev_cons, ev_nil, ev_varS, ev_var0, ev_c, ob_some, ev_gNm, ev_tOf, ev_asB, ev_asI, ev_tNot, ev_tAnd, ev_tOr, ev_eOf, ev_eIf, ev_chain, List.set_cons_succ, List.set_cons_zero, ev_then_nx, ev_then_rt, ev_next, ev_pTup, ev_valsC, ev_vals0, ev_eL, ev_bm, ev_aug, pix_t, pix_l, pixq0, pixq1, atI_0, atI_1, atI_2, pp_ii, ps_ii, pa_ii, plt_ii, ple_ii, pgt_ii, pge_ii, peq_ii, pne_ii, pneg_i, List.length_cons, List.length_nil, Nat.reduceAdd, Nat.reduceSub, Nat.reduceLeDiff, sz, if_true, Bool.false_eq_true, if_false, Bool.not_true, Bool.not_false, leave_v, List.take_length, plen_t, plen_l, ptup_l, ptup_t, pint_i, pis_n, pis_i, pis_t, pisnt_n, pisnt_i, pisnt_t, Int.cast_ofNat_Int, ne_eq, not_true_eq_false, not_false_eq_true, decide_true, decide_false, a1', e1, cc, ev_par3, d1, f1, g1, q4_ok n1 n4 d2 f2 g2, q__law_votes_5, ln, q6_ok V L, q7_ok V, q8_ok V L, q9_ok n1 n4 d2, q__law_votes_10, plen_t, List.length_map, j1, z, q__law_votes_12]
  rw [Bx.len h j3]
end
end L35

set_option Elab.async false
set_option linter.all false
set_option maxRecDepth 100000
namespace L35
open PySem PySem.Spec PyProof.Rows L2 Ev Cv
/-- sets of places -/
structure Ss (S : List (List Nat)) : Prop where
  s1 : 1 ≤ S.length
  s6 : S.length ≤ 6
  srt : ∀ s ∈ S, s.Pairwise (· < ·)
  lt : ∀ s ∈ S, ∀ x ∈ s, x < 8
theorem nd_of {s : List Nat} (h : s.Pairwise (· < ·)) : s.Nodup := h.imp fun {a b} q z => by omega
theorem at_mem {S : List (List Nat)} {i : Nat} (h : i < S.length) : at_ S i ∈ S ∧ S[i]? = some (at_ S i) := by
  unfold at_
  rw [List.getD_eq_getElem?_getD, List.getElem?_eq_getElem h]
  exact ⟨List.getElem_mem h, rfl⟩
def ovl (S : List (List Nat)) (some_ : List Nat) : List Nat := (some_.flatMap (at_ S)).foldl insN []
theorem mem_ovl {S : List (List Nat)} {t : List Nat} {x : Nat} : x ∈ ovl S t ↔ cov S t x = true := by
  unfold ovl cov
  rw [insF_mem]
  simp [List.mem_flatMap, List.any_eq_true]
theorem nd_ovl {S : List (List Nat)} {t : List Nat} : (ovl S t).Nodup := insF_nd (by simp)
theorem len_ovl {S : List (List Nat)} (H : Ss S) {t : List Nat} (hi : ∀ i ∈ t, i < S.length) : (ovl S t).length = cnt 8 (cov S t) := by
  unfold Cv.cnt
  rw [List.countP_eq_length_filter]
  refine List.Perm.length_eq ((List.perm_ext_iff_of_nodup nd_ovl (List.nodup_range.filter _)).mpr fun x => ?_)
  rw [mem_ovl, List.mem_filter, List.mem_range]
  refine ⟨fun h => ⟨?_, h⟩, fun h => h.2⟩
  unfold cov at h
  obtain ⟨i, h1, h2⟩ := List.any_eq_true.mp h
  exact H.lt _ (at_mem (hi i h1)).1 x (of_decide_eq_true h2)
theorem cnt_le (c : Nat → Bool) : cnt 8 c ≤ 8 := by
  have := List.countP_le_length (p := c) (l := List.range 8)
  rwa [List.length_range] at this
section
variable {m : M} {S : List (List Nat)} {t : List Nat} {r : R}
abbrev encS (S : List (List Nat)) : D := .tuple (S.map encT)
theorem ovl_small (H : Ss S) (hi : ∀ i ∈ t, i < S.length) : (ovl S t).length ≤ 8 := by rw [len_ovl H hi]; exact cnt_le _
theorem foldl_len : ∀ (l ks : List Nat), ks.length ≤ (l.foldl insN ks).length
  | [], ks => Nat.le_refl _
  | a :: l, ks => by
    have := foldl_len l (insN ks a)
    have : ks.length ≤ (insN ks a).length := by
      unfold insN
      split
      · exact Nat.le_refl _
      · simp
    rw [List.foldl_cons]
    omega
theorem over_inner {e0 e1 e3 e4 : Option R} : ∀ (s ks : List Nat) (e4 : Option R), (s.foldl insN ks).length < 16777216 → ∃ e4', loopL (gNm 4) l__law_over1 (encI s) [e0, e1, some (.ref m.length), e3, e4] (m ++ [.dct false false (kF nI tru ks)]) = some (.nx [e0, e1, some (.ref m.length), e3, e4'] (m ++ [.dct false false (kF nI tru (s.foldl insN ks))]))
  | [], ks, e4, _ => ⟨e4, rfl⟩
  | x :: s, ks, e4, h => by
    have h1 := foldl_len s (insN ks x)
    have h2 : ks.length < 16777216 := by
      have := foldl_len (x :: s) ks
      omega
    have ds := dset_n (m := m ++ [.dct false false (kF nI tru ks)]) (j := m.length) (f := tru) (ks := ks) (w := x) getN h2
    rw [setN] at ds
    obtain ⟨e4', ih⟩ := over_inner (e0 := e0) (e1 := e1) (e3 := e3) (e4 := e4) s (insN ks x) (some (.val (.int (x : Int)))) h
    refine ⟨e4', ?_⟩
    have e : encI (x :: s) = .int (x : Int) :: encI s := rfl
    have hb : l__law_over1 [e0, e1, some (.ref m.length), e3, some (.val (.int (x : Int)))] (m ++ [.dct false false (kF nI tru ks)]) = some (.nx [e0, e1, some (.ref m.length), e3, some (.val (.int (x : Int)))] (m ++ [.dct false false (kF nI tru (insN ks x))])) := by
      simp only [l__law_over1, ev_asg, ev_par, ev_if, ev_ret, ev_retN, ev_expr, ev_bin, ev_un, ev_ap, ev_cons, ev_nil, ev_varS, ev_var0, ev_c, ob_some, ev_gNm, ev_tOf, ev_asB, ev_asI, ev_tNot, ev_tAnd, ev_tOr, ev_eOf, ev_eIf, ev_chain, List.set_cons_succ, List.set_cons_zero, ev_then_nx, ev_then_rt, ev_next, ev_pTup, ev_valsC, ev_vals0, ev_eL, ev_bm, ev_aug, pix_t, pix_l, pixq0, pixq1, atI_0, atI_1, atI_2, pp_ii, ps_ii, pa_ii, plt_ii, ple_ii, pgt_ii, pge_ii, peq_ii, pne_ii, pneg_i, List.length_cons, List.length_nil, Nat.reduceAdd, Nat.reduceSub, Nat.reduceLeDiff, sz, if_true, Bool.false_eq_true, if_false, Bool.not_true, Bool.not_false, leave_v, List.take_length, plen_t, plen_l, ptup_l, ptup_t, pint_i, pis_n, pis_i, pis_t, pisnt_n, pisnt_i, pisnt_t, Int.cast_ofNat_Int, ne_eq, not_true_eq_false, not_false_eq_true, decide_true, decide_false, ev_sub, ds]
    rw [e, step_nx (env1 := [e0, e1, some (.ref m.length), e3, some (.val (.int (x : Int)))]) rfl hb, ih]
    rfl
theorem pre_len {S : List (List Nat)} (H : Ss S) {t : List Nat} (hi : ∀ i ∈ t, i < S.length) (j : Nat) : (ovl S (t.take j)).length ≤ 8 := ovl_small H fun i h => hi i (List.mem_of_mem_take h)
theorem law_over_ok (H : Ss S) (hi : ∀ i ∈ t, i < S.length) (hr : asLT r m = some (encI t)) : m__law_over [.val (encS S), r] m = some (.val (.int ((cnt 8 (cov S t) : Nat) : Int)), m) := by
  have gr := fun (ks : List Nat) => asLT_app (t := [Ob.dct false false (kF nI tru ks)]) hr
  obtain ⟨e', mm, h, e3, e4, rfl, rfl⟩ := loop_inv_r (gf := gNm 3) (sf := l__law_over2) (r := r) nI (fun j env mm => ∃ e3 e4, env = [some (.val (encS S)), some r, some (.ref m.length), e3, e4] ∧ mm = m ++ [.dct false false (kF nI tru (ovl S (t.take j)))]) t
    [some (.val (encS S)), some r, some (.ref m.length), none, none] (m ++ [.dct false false []]) (gr []) (fun j env mm ⟨_, _, _, he⟩ => by subst he; exact gr _) ⟨none, none, rfl, rfl⟩ fun j i hj env mm ⟨e3, e4, he, hm⟩ => by
    subst he hm
    have hit := hi i (List.mem_of_getElem? hj)
    obtain ⟨hs1, hs2⟩ := at_mem hit
    have et : t.take (j + 1) = t.take j ++ [i] := by rw [List.take_add_one, hj]; rfl
    have eo : ovl S (t.take (j + 1)) = (at_ S i).foldl insN (ovl S (t.take j)) := by
      unfold ovl
      rw [et, List.flatMap_append, List.foldl_append]
      simp
    have hl := pre_len H hi (j + 1)
    rw [eo] at hl
    obtain ⟨e4', hin⟩ := over_inner (m := m) (e0 := some (.val (encS S))) (e1 := some r) (e3 := some (.val (.int (i : Int)))) (e4 := e4) (at_ S i) (ovl S (t.take j)) e4 (by omega)
    have at1 : atI (S.map encT) (i : Int) = some (encT (at_ S i)) := at_nat (by rw [List.getElem?_map, hs2]; rfl)
    refine ⟨_, _, _, _, rfl, ?_, some (.val (.int (i : Int))), e4', rfl, rfl⟩
    rw [eo]
    show l__law_over2 [some (.val (encS S)), some r, some (.ref m.length), some (.val (.int (i : Int))), e4] _ = _
    simp only [l__law_over2, ev_for, it_an, ev_asg, ev_par, ev_if, ev_ret, ev_retN, ev_expr, ev_bin, ev_un, ev_ap, ev_cons, ev_nil, ev_varS, ev_var0, ev_c, ob_some, ev_gNm, ev_tOf, ev_asB, ev_asI, ev_tNot, ev_tAnd, ev_tOr, ev_eOf, ev_eIf, ev_chain, List.set_cons_succ, List.set_cons_zero, ev_then_nx, ev_then_rt, ev_next, ev_pTup, ev_valsC, ev_vals0, ev_eL, ev_bm, ev_aug, pix_t, pix_l, pixq0, pixq1, atI_0, atI_1, atI_2, pp_ii, ps_ii, pa_ii, plt_ii, ple_ii, pgt_ii, pge_ii, peq_ii, pne_ii, pneg_i, List.length_cons, List.length_nil, Nat.reduceAdd, Nat.reduceSub, Nat.reduceLeDiff, sz, if_true, Bool.false_eq_true, if_false, Bool.not_true, Bool.not_false, leave_v, List.take_length, plen_t, plen_l, ptup_l, ptup_t, pint_i, pis_n, pis_i, pis_t, pisnt_n, pisnt_i, pisnt_t, Int.cast_ofNat_Int, ne_eq, not_true_eq_false, not_false_eq_true, decide_true, decide_false, at1]
    rw [show ∀ mm, an1 (.val (encT (at_ S i))) mm = iL (encI (at_ S i)) mm from fun _ => rfl, run_iL, hin]
  rw [List.take_length] at h
  have dl := dlen_n (m := m ++ [.dct false false (kF nI tru (ovl S t))]) (j := m.length) (f := tru) (ks := ovl S t) getN
  rw [len_ovl H hi] at dl
  simp only [m__law_over, bodyF, List.length_cons, List.length_nil, Nat.reduceAdd, Nat.reduceSub, List.map_cons, List.map_nil, List.replicate, List.cons_append, List.nil_append, List.append_nil, b__law_over, ev_seq, ev_asg, ev_par, ev_if, ev_ret, ev_retN, ev_expr, ev_bin, ev_un, ev_ap, ev_cons, ev_nil, ev_varS, ev_var0, ev_c, ob_some, ev_gNm, ev_tOf, ev_asB, ev_asI, ev_tNot, ev_tAnd, ev_tOr, ev_eOf, ev_eIf, ev_chain, List.set_cons_succ, List.set_cons_zero, ev_then_nx, ev_then_rt, ev_next, ev_pTup, ev_valsC, ev_vals0, ev_eL, ev_bm, ev_aug, pix_t, pix_l, pixq0, pixq1, atI_0, atI_1, atI_2, pp_ii, ps_ii, pa_ii, plt_ii, ple_ii, pgt_ii, pge_ii, peq_ii, pne_ii, pneg_i, List.length_cons, List.length_nil, Nat.reduceAdd, Nat.reduceSub, Nat.reduceLeDiff, sz, if_true, Bool.false_eq_true, if_false, Bool.not_true, Bool.not_false, leave_v, List.take_length, plen_t, plen_l, ptup_l, ptup_t, pint_i, pis_n, pis_i, pis_t, pisnt_n, pisnt_i, pisnt_t, Int.cast_ofNat_Int, ne_eq, not_true_eq_false, not_false_eq_true, decide_true, decide_false, ev_dnew, ev_for, it_an, h, dl, tk]
theorem at_len (H : Ss S) {i : Nat} (h : i < S.length) : (at_ S i).length ≤ 8 := by
  have h1 := (at_mem h).1
  have := List.Nodup.length_le_of_subset (nd_of (H.srt _ h1)) (l₂ := List.range 8) fun a ha => List.mem_range.mpr (H.lt _ h1 a ha)
  rwa [List.length_range] at this
theorem covered_ok (H : Ss S) (hi : ∀ i ∈ t, i < S.length) (ht : t.length ≤ 1000) (hr : ∀ mm, an1 r mm = iL (encI t) mm) : m_covered [.val (encS S), r] m = some (.ref m.length, m ++ [.dct false false (kF nI tru (ovl S t))]) := by
  have hlen : (t.flatMap fun i => (at_ S i).map fun x => (nI x, tru x)).length ≤ 16777216 := by
    have : ∀ l : List Nat, (∀ i ∈ l, i < S.length) → (l.flatMap fun i => (at_ S i).map fun x => (nI x, tru x)).length ≤ 8 * l.length := fun l => by
      induction l with
      | nil => intro _; simp
      | cons a l ih =>
        intro h
        have h1 := ih fun x hx => h x (List.mem_cons_of_mem _ hx)
        have h2 := at_len H (h a (by simp))
        rw [List.flatMap_cons, List.length_append, List.length_map, List.length_cons]
        omega
    have := this t hi
    omega
  have c := dcomp2_all (t := false) (it := itAny (eVar 1)) (p := .nm 2) (vs := [2, 3]) (it1 := i_covered3) (p1 := .nm 3) (vs1 := [3]) (tt1 := tTrue) (tk := e_covered1) (tv := e_covered2) (env := [some (.val (encS S)), some r, none, none]) (m := m) nI (fun i => (at_ S i).map fun x => (nI x, tru x)) t (by simp only [it_an, ev_asg, ev_par, ev_if, ev_ret, ev_retN, ev_expr, ev_bin, ev_un, ev_ap, ev_cons, ev_nil, ev_varS, ev_var0, ev_c, ob_some, ev_gNm, ev_tOf, ev_asB, ev_asI, ev_tNot, ev_tAnd, ev_tOr, ev_eOf, ev_eIf, ev_chain, List.set_cons_succ, List.set_cons_zero, ev_then_nx, ev_then_rt, ev_next, ev_pTup, ev_valsC, ev_vals0, ev_eL, ev_bm, ev_aug, pix_t, pix_l, pixq0, pixq1, atI_0, atI_1, atI_2, pp_ii, ps_ii, pa_ii, plt_ii, ple_ii, pgt_ii, pge_ii, peq_ii, pne_ii, pneg_i, List.length_cons, List.length_nil, Nat.reduceAdd, Nat.reduceSub, Nat.reduceLeDiff, sz, if_true, Bool.false_eq_true, if_false, Bool.not_true, Bool.not_false, leave_v, List.take_length, plen_t, plen_l, ptup_l, ptup_t, pint_i, pis_n, pis_i, pis_t, pisnt_n, pisnt_i, pisnt_t, Int.cast_ofNat_Int, ne_eq, not_true_eq_false, not_false_eq_true, decide_true, decide_false, hr]; rfl) hlen fun i hit => ⟨_, rfl, fun kvs hk => by
    obtain ⟨hs1, hs2⟩ := at_mem (hi i hit)
    have at1 : atI (S.map encT) (i : Int) = some (encT (at_ S i)) := at_nat (by rw [List.getElem?_map, hs2]; rfl)
    refine ⟨(at_ S i).map nI, ?_, ?_⟩
    · show i_covered3 [some (.val (encS S)), some r, some (.val (.int (i : Int))), none] _ = _
      simp only [i_covered3, it_an, ev_asg, ev_par, ev_if, ev_ret, ev_retN, ev_expr, ev_bin, ev_un, ev_ap, ev_cons, ev_nil, ev_varS, ev_var0, ev_c, ob_some, ev_gNm, ev_tOf, ev_asB, ev_asI, ev_tNot, ev_tAnd, ev_tOr, ev_eOf, ev_eIf, ev_chain, List.set_cons_succ, List.set_cons_zero, ev_then_nx, ev_then_rt, ev_next, ev_pTup, ev_valsC, ev_vals0, ev_eL, ev_bm, ev_aug, pix_t, pix_l, pixq0, pixq1, atI_0, atI_1, atI_2, pp_ii, ps_ii, pa_ii, plt_ii, ple_ii, pgt_ii, pge_ii, peq_ii, pne_ii, pneg_i, List.length_cons, List.length_nil, Nat.reduceAdd, Nat.reduceSub, Nat.reduceLeDiff, sz, if_true, Bool.false_eq_true, if_false, Bool.not_true, Bool.not_false, leave_v, List.take_length, plen_t, plen_l, ptup_l, ptup_t, pint_i, pis_n, pis_i, pis_t, pisnt_n, pisnt_i, pisnt_t, Int.cast_ofNat_Int, ne_eq, not_true_eq_false, not_false_eq_true, decide_true, decide_false, at1]
      rfl
    · rw [List.length_map]
      have := dcl1_map (t := false) (p := .nm 3) (tt := tTrue) (tk := e_covered1) (tv := e_covered2) (m := m) nI nI tru (fun _ => true) (at_ S i) (e0 := wipeE [some (.val (encS S)), some r, some (.val (.int (i : Int))), none] [3]) (at_ S i) 0 kvs rfl (by rw [List.length_map] at hk; exact hk) fun x hx => ⟨_, rfl, fun kvs => ⟨rfl, fun _ => ⟨rfl, rfl, rfl⟩⟩⟩
      rw [List.filter_eq_self.mpr fun _ _ => rfl] at this
      exact this⟩
  have e : (t.flatMap fun i => (at_ S i).map fun x => (nI x, tru x)) = kF nI tru (t.flatMap (at_ S)) := by
    unfold kF
    rw [List.map_flatMap]
  rw [e] at c
  have pu := puts_n (f := tru) (t.flatMap (at_ S)) []
  rw [show kF nI tru [] = [] from rfl] at pu
  rw [pu] at c
  have lt : ¬ (m.length < m.length) := Nat.lt_irrefl _
  simp only [m_covered, bodyF, List.length_cons, List.length_nil, Nat.reduceAdd, Nat.reduceSub, List.map_cons, List.map_nil, List.replicate, List.cons_append, List.nil_append, List.append_nil, b_covered, ev_asg, ev_par, ev_if, ev_ret, ev_retN, ev_expr, ev_bin, ev_un, ev_ap, ev_cons, ev_nil, ev_varS, ev_var0, ev_c, ob_some, ev_gNm, ev_tOf, ev_asB, ev_asI, ev_tNot, ev_tAnd, ev_tOr, ev_eOf, ev_eIf, ev_chain, List.set_cons_succ, List.set_cons_zero, ev_then_nx, ev_then_rt, ev_next, ev_pTup, ev_valsC, ev_vals0, ev_eL, ev_bm, ev_aug, pix_t, pix_l, pixq0, pixq1, atI_0, atI_1, atI_2, pp_ii, ps_ii, pa_ii, plt_ii, ple_ii, pgt_ii, pge_ii, peq_ii, pne_ii, pneg_i, List.length_cons, List.length_nil, Nat.reduceAdd, Nat.reduceSub, Nat.reduceLeDiff, sz, if_true, Bool.false_eq_true, if_false, Bool.not_true, Bool.not_false, leave_v, List.take_length, plen_t, plen_l, ptup_l, ptup_t, pint_i, pis_n, pis_i, pis_t, pisnt_n, pisnt_i, pisnt_t, Int.cast_ofNat_Int, ne_eq, not_true_eq_false, not_false_eq_true, decide_true, decide_false, c, leave, lt, getN, tk]
  rfl
theorem len_covered (H : Ss S) (hi : ∀ i ∈ t, i < S.length) : pLenD [.ref m.length] (m ++ [.dct false false (kF nI tru (ovl S t))]) = some (.val (.int ((cnt 8 (cov S t) : Nat) : Int)), m ++ [.dct false false (kF nI tru (ovl S t))]) := by
  rw [dlen_n getN, len_ovl H hi]
theorem check_sets_ok (H : Ss S) : m_check_sets [.val (encS S)] m = some (.val .none, m) := by
  have h1 := H.s1
  have h6 := H.s6
  have a1 : (1 : Int) ≤ (S.length : Int) := by omega
  have a2 : (S.length : Int) ≤ 10 := by omega
  have hl : S.length ≤ 16777216 := by omega
  have isS : ∀ s ∈ S, m_is_set [.val (encT s), .val (.int 16)] m = some (.val (.bool true), m) := fun s hs => by
    have hlen : s.length ≤ 8 := by
      have := List.Nodup.length_le_of_subset (nd_of (H.srt _ hs)) (l₂ := List.range 8) fun a ha => List.mem_range.mpr (H.lt _ hs a ha)
      rwa [List.length_range] at this
    have c1 : nComp (itAny (eVar 0)) (.nm 3) [3] tTrue e_is_set1 [some (.val (encT s)), some (.val (.int 16)), none, none] m = some (s.map fun _ => .bool true, m) :=
      comp_all nI (fun _ => .bool true) s rfl (by omega) fun x hx => ⟨_, rfl, by
        have hd : (0 : Int) ≤ (x : Int) ∧ (x : Int) < 16 := by have := H.lt _ hs x hx; omega
        show e_is_set1 [some (.val (encT s)), some (.val (.int 16)), none, some (.val (.int (x : Int)))] m = _
        simp only [e_is_set1, ev_asg, ev_par, ev_if, ev_ret, ev_retN, ev_expr, ev_bin, ev_un, ev_ap, ev_cons, ev_nil, ev_varS, ev_var0, ev_c, ob_some, ev_gNm, ev_tOf, ev_asB, ev_asI, ev_tNot, ev_tAnd, ev_tOr, ev_eOf, ev_eIf, ev_chain, List.set_cons_succ, List.set_cons_zero, ev_then_nx, ev_then_rt, ev_next, ev_pTup, ev_valsC, ev_vals0, ev_eL, ev_bm, ev_aug, pix_t, pix_l, pixq0, pixq1, atI_0, atI_1, atI_2, pp_ii, ps_ii, pa_ii, plt_ii, ple_ii, pgt_ii, pge_ii, peq_ii, pne_ii, pneg_i, List.length_cons, List.length_nil, Nat.reduceAdd, Nat.reduceSub, Nat.reduceLeDiff, sz, if_true, Bool.false_eq_true, if_false, Bool.not_true, Bool.not_false, leave_v, List.take_length, plen_t, plen_l, ptup_l, ptup_t, pint_i, pis_n, pis_i, pis_t, pisnt_n, pisnt_i, pisnt_t, Int.cast_ofNat_Int, ne_eq, not_true_eq_false, not_false_eq_true, decide_true, decide_false, is_below_i, hd, and_self, decide_true]⟩
    have p1 := pall_l (m := m) s fun _ => true
    have q1 : (s.all fun _ => true) = true := List.all_eq_true.mpr fun _ _ => rfl
    have rg := rg2_nat (m := m) (a := 1) (b := s.length) (i := 1) (j := (s.length : Int)) rfl rfl (by decide) (by omega)
    have c2 : nComp (itRng2 (aCons (eC (.int 1)) (aCons (eAp pLen (aCons (eVar 0) aNil)) aNil))) (.nm 2) [2] tTrue e_is_set2 [some (.val (encT s)), some (.val (.int 16)), none, none] m = some ((List.range' 1 (s.length - 1)).map fun _ => .bool true, m) :=
      comp_all nI (fun _ => .bool true) (List.range' 1 (s.length - 1)) (by simp only [it_rg2, ev_asg, ev_par, ev_if, ev_ret, ev_retN, ev_expr, ev_bin, ev_un, ev_ap, ev_cons, ev_nil, ev_varS, ev_var0, ev_c, ob_some, ev_gNm, ev_tOf, ev_asB, ev_asI, ev_tNot, ev_tAnd, ev_tOr, ev_eOf, ev_eIf, ev_chain, List.set_cons_succ, List.set_cons_zero, ev_then_nx, ev_then_rt, ev_next, ev_pTup, ev_valsC, ev_vals0, ev_eL, ev_bm, ev_aug, pix_t, pix_l, pixq0, pixq1, atI_0, atI_1, atI_2, pp_ii, ps_ii, pa_ii, plt_ii, ple_ii, pgt_ii, pge_ii, peq_ii, pne_ii, pneg_i, List.length_cons, List.length_nil, Nat.reduceAdd, Nat.reduceSub, Nat.reduceLeDiff, sz, if_true, Bool.false_eq_true, if_false, Bool.not_true, Bool.not_false, leave_v, List.take_length, plen_t, plen_l, ptup_l, ptup_t, pint_i, pis_n, pis_i, pis_t, pisnt_n, pisnt_i, pisnt_t, Int.cast_ofNat_Int, ne_eq, not_true_eq_false, not_false_eq_true, decide_true, decide_false, plen_T, rg]) (by rw [List.length_range']; omega) fun x hx => ⟨_, rfl, by
        obtain ⟨b1, b2⟩ := List.mem_range'_1.mp hx
        have hx1 : x - 1 < s.length := by omega
        have hx2 : x < s.length := by omega
        have g1 := pix_T (m := m) (List.getElem?_eq_getElem hx1)
        have g2 := pix_T (m := m) (List.getElem?_eq_getElem hx2)
        have ex : (x : Int) - 1 = ((x - 1 : Nat) : Int) := by omega
        have lt := List.pairwise_iff_getElem.mp (H.srt _ hs) (x - 1) x hx1 hx2 (by omega)
        have lt' : ((s[x - 1] : Nat) : Int) < ((s[x] : Nat) : Int) := by omega
        show e_is_set2 [some (.val (encT s)), some (.val (.int 16)), some (.val (.int (x : Int))), none] m = _
        simp only [e_is_set2, ev_asg, ev_par, ev_if, ev_ret, ev_retN, ev_expr, ev_bin, ev_un, ev_ap, ev_cons, ev_nil, ev_varS, ev_var0, ev_c, ob_some, ev_gNm, ev_tOf, ev_asB, ev_asI, ev_tNot, ev_tAnd, ev_tOr, ev_eOf, ev_eIf, ev_chain, List.set_cons_succ, List.set_cons_zero, ev_then_nx, ev_then_rt, ev_next, ev_pTup, ev_valsC, ev_vals0, ev_eL, ev_bm, ev_aug, pix_t, pix_l, pixq0, pixq1, atI_0, atI_1, atI_2, pp_ii, ps_ii, pa_ii, plt_ii, ple_ii, pgt_ii, pge_ii, peq_ii, pne_ii, pneg_i, List.length_cons, List.length_nil, Nat.reduceAdd, Nat.reduceSub, Nat.reduceLeDiff, sz, if_true, Bool.false_eq_true, if_false, Bool.not_true, Bool.not_false, leave_v, List.take_length, plen_t, plen_l, ptup_l, ptup_t, pint_i, pis_n, pis_i, pis_t, pisnt_n, pisnt_i, pisnt_t, Int.cast_ofNat_Int, ne_eq, not_true_eq_false, not_false_eq_true, decide_true, decide_false, ex, g1, g2, lt']⟩
    have p2 := pall_l (m := m) (List.range' 1 (s.length - 1)) fun _ => true
    have q2 : ((List.range' 1 (s.length - 1)).all fun _ => true) = true := List.all_eq_true.mpr fun _ _ => rfl
    simp only [m_is_set, bodyF, List.length_cons, List.length_nil, Nat.reduceAdd, Nat.reduceSub, List.map_cons, List.map_nil, List.replicate, List.cons_append, List.nil_append, List.append_nil, b_is_set, ev_seq, ev_asg, ev_par, ev_if, ev_ret, ev_retN, ev_expr, ev_bin, ev_un, ev_ap, ev_cons, ev_nil, ev_varS, ev_var0, ev_c, ob_some, ev_gNm, ev_tOf, ev_asB, ev_asI, ev_tNot, ev_tAnd, ev_tOr, ev_eOf, ev_eIf, ev_chain, List.set_cons_succ, List.set_cons_zero, ev_then_nx, ev_then_rt, ev_next, ev_pTup, ev_valsC, ev_vals0, ev_eL, ev_bm, ev_aug, pix_t, pix_l, pixq0, pixq1, atI_0, atI_1, atI_2, pp_ii, ps_ii, pa_ii, plt_ii, ple_ii, pgt_ii, pge_ii, peq_ii, pne_ii, pneg_i, List.length_cons, List.length_nil, Nat.reduceAdd, Nat.reduceSub, Nat.reduceLeDiff, sz, if_true, Bool.false_eq_true, if_false, Bool.not_true, Bool.not_false, leave_v, List.take_length, plen_t, plen_l, ptup_l, ptup_t, pint_i, pis_n, pis_i, pis_t, pisnt_n, pisnt_i, pisnt_t, Int.cast_ofNat_Int, ne_eq, not_true_eq_false, not_false_eq_true, decide_true, decide_false, ev_isA, isA_T, c1, p1, q1, c2, p2, q2]
  have c : nComp (itAny (eVar 0)) (.nm 1) [1] tTrue e_check_sets1 [some (.val (encS S)), none] m = some (S.map fun _ => .bool true, m) :=
    comp_all encT (fun _ => .bool true) S rfl hl fun s hs => ⟨_, rfl, by
      show e_check_sets1 [some (.val (encS S)), some (.val (encT s))] m = _
      simp only [e_check_sets1, ev_asg, ev_par, ev_if, ev_ret, ev_retN, ev_expr, ev_bin, ev_un, ev_ap, ev_cons, ev_nil, ev_varS, ev_var0, ev_c, ob_some, ev_gNm, ev_tOf, ev_asB, ev_asI, ev_tNot, ev_tAnd, ev_tOr, ev_eOf, ev_eIf, ev_chain, List.set_cons_succ, List.set_cons_zero, ev_then_nx, ev_then_rt, ev_next, ev_pTup, ev_valsC, ev_vals0, ev_eL, ev_bm, ev_aug, pix_t, pix_l, pixq0, pixq1, atI_0, atI_1, atI_2, pp_ii, ps_ii, pa_ii, plt_ii, ple_ii, pgt_ii, pge_ii, peq_ii, pne_ii, pneg_i, List.length_cons, List.length_nil, Nat.reduceAdd, Nat.reduceSub, Nat.reduceLeDiff, sz, if_true, Bool.false_eq_true, if_false, Bool.not_true, Bool.not_false, leave_v, List.take_length, plen_t, plen_l, ptup_l, ptup_t, pint_i, pis_n, pis_i, pis_t, pisnt_n, pisnt_i, pisnt_t, Int.cast_ofNat_Int, ne_eq, not_true_eq_false, not_false_eq_true, decide_true, decide_false, isS s hs]⟩
  have p := pall_l (m := m) S fun _ => true
  have q : (S.all fun _ => true) = true := List.all_eq_true.mpr fun _ _ => rfl
  have it : isA .tuple (.val (encS S)) = true := rfl
  simp only [m_check_sets, bodyF, List.length_cons, List.length_nil, Nat.reduceAdd, Nat.reduceSub, List.map_cons, List.map_nil, List.replicate, List.cons_append, List.nil_append, List.append_nil, b_check_sets, ev_seq, ev_asg, ev_par, ev_if, ev_ret, ev_retN, ev_expr, ev_bin, ev_un, ev_ap, ev_cons, ev_nil, ev_varS, ev_var0, ev_c, ob_some, ev_gNm, ev_tOf, ev_asB, ev_asI, ev_tNot, ev_tAnd, ev_tOr, ev_eOf, ev_eIf, ev_chain, List.set_cons_succ, List.set_cons_zero, ev_then_nx, ev_then_rt, ev_next, ev_pTup, ev_valsC, ev_vals0, ev_eL, ev_bm, ev_aug, pix_t, pix_l, pixq0, pixq1, atI_0, atI_1, atI_2, pp_ii, ps_ii, pa_ii, plt_ii, ple_ii, pgt_ii, pge_ii, peq_ii, pne_ii, pneg_i, List.length_cons, List.length_nil, Nat.reduceAdd, Nat.reduceSub, Nat.reduceLeDiff, sz, if_true, Bool.false_eq_true, if_false, Bool.not_true, Bool.not_false, leave_v, List.take_length, plen_t, plen_l, ptup_l, ptup_t, pint_i, pis_n, pis_i, pis_t, pisnt_n, pisnt_i, pisnt_t, Int.cast_ofNat_Int, ne_eq, not_true_eq_false, not_false_eq_true, decide_true, decide_false, ev_isA, it, plen_t, List.length_map, a1, a2, c, p, q]
theorem check_most_ok {k : Nat} (h1 : 1 ≤ k) (h6 : k ≤ 10) : m_check_most [.val (.int (k : Int))] m = some (.val .none, m) := by
  have hd : (1 : Int) ≤ (k : Int) ∧ (k : Int) ≤ 10 := by omega
  simp only [m_check_most, bodyF, List.length_cons, List.length_nil, Nat.reduceAdd, Nat.reduceSub, List.map_cons, List.map_nil, List.replicate, List.cons_append, List.nil_append, List.append_nil, b_check_most, ev_asg, ev_par, ev_if, ev_ret, ev_retN, ev_expr, ev_bin, ev_un, ev_ap, ev_cons, ev_nil, ev_varS, ev_var0, ev_c, ob_some, ev_gNm, ev_tOf, ev_asB, ev_asI, ev_tNot, ev_tAnd, ev_tOr, ev_eOf, ev_eIf, ev_chain, List.set_cons_succ, List.set_cons_zero, ev_then_nx, ev_then_rt, ev_next, ev_pTup, ev_valsC, ev_vals0, ev_eL, ev_bm, ev_aug, pix_t, pix_l, pixq0, pixq1, atI_0, atI_1, atI_2, pp_ii, ps_ii, pa_ii, plt_ii, ple_ii, pgt_ii, pge_ii, peq_ii, pne_ii, pneg_i, List.length_cons, List.length_nil, Nat.reduceAdd, Nat.reduceSub, Nat.reduceLeDiff, sz, if_true, Bool.false_eq_true, if_false, Bool.not_true, Bool.not_false, leave_v, List.take_length, plen_t, plen_l, ptup_l, ptup_t, pint_i, pis_n, pis_i, pis_t, pisnt_n, pisnt_i, pisnt_t, Int.cast_ofNat_Int, ne_eq, not_true_eq_false, not_false_eq_true, decide_true, decide_false, is_bet_i, hd, and_self, decide_true]
/-- what each set adds -/
theorem filt_gain (H : Ss S) {s : List Nat} (hs : s ∈ S) (c : Nat → Bool) : (s.filter fun x => !c x).length = cnt 8 fun x => decide (x ∈ s) && !c x := by
  unfold Cv.cnt
  rw [List.countP_eq_length_filter]
  refine List.Perm.length_eq ((List.perm_ext_iff_of_nodup ((nd_of (H.srt _ hs)).filter _) (List.nodup_range.filter _)).mpr fun x => ?_)
  simp only [List.mem_filter, List.mem_range, Bool.and_eq_true, decide_eq_true_eq]
  exact ⟨fun h => ⟨H.lt _ hs x h.1, h⟩, fun h => h.2⟩
theorem gains_map (H : Ss S) (c : Nat → Bool) : (S.map fun s => (s.filter fun x => !c x).length) = gains 8 S c := by
  unfold gains gain
  refine List.ext_getElem? fun i => ?_
  rw [List.getElem?_map, List.getElem?_map]
  by_cases h : i < S.length
  · obtain ⟨h1, h2⟩ := at_mem h
    rw [List.getElem?_range h, h2]
    exact congrArg some (filt_gain H h1 c)
  · rw [List.getElem?_eq_none (by omega), List.getElem?_eq_none (by rw [List.length_range]; omega)]
    rfl
theorem gains_ne (H : Ss S) (c : Nat → Bool) : gains 8 S c ≠ [] := fun z => by
  have := congrArg List.length z
  simp [gains] at this
  have := H.s1
  simp_all
theorem greedily_ok (H : Ss S) {k : Nat} (h1 : 1 ≤ k) (h6 : k ≤ 10) : m_greedily [.val (encS S), .val (.int (k : Int))] m = some (.val (encT (grd 8 S k [])), m) := by
  have hS : S ≠ [] := fun z => by have := H.s1; rw [z] at this; simp at this
  have rg := rg1_nat (m := m) (n := k) (by omega)
  have er : ((List.range k).map fun j : Nat => PyData.int j) = (List.range k).map nI := rfl
  obtain ⟨e', mm, h, hPQ⟩ := loop_brk (gf := gNm 3) (sf := l_greedily4) nI (fun j env mm => ∃ e3 e4 e5 t, env = [some (.val (encS S)), some (.val (.int (k : Int))), some (.val (encT t)), e3, e4, e5, none, none] ∧ mm.take m.length = m ∧ m.length ≤ mm.length ∧ (∀ i ∈ t, i < S.length) ∧ t.length ≤ j ∧ grd 8 S (k - j) t = grd 8 S k [])
    (fun env mm => ∃ e3 e4 e5, env = [some (.val (encS S)), some (.val (.int (k : Int))), some (.val (encT (grd 8 S k []))), e3, e4, e5, none, none] ∧ mm.take m.length = m) (List.range k)
    [some (.val (encS S)), some (.val (.int (k : Int))), some (.val (encT [])), none, none, none, none, none] m ⟨none, none, none, [], rfl, by simp, Nat.le_refl _, fun i hi => (by cases hi), Nat.le_refl _, rfl⟩ fun j a hj env mm ⟨e3, e4, e5, t, he, hm, hml, ht, htl, hg⟩ => by
    subst he
    have hjk := (List.getElem?_eq_some_iff.mp hj).1
    rw [List.length_range] at hjk
    have cv := covered_ok (m := mm) (r := .val (encT t)) H ht (by omega) fun _ => rfl
    generalize hmd : mm ++ [Ob.dct false false (kF nI tru (ovl S t))] = md at cv
    have hgd : md[mm.length]? = some (.dct false false (kF nI tru (ovl S t))) := by rw [← hmd]; exact getN
    have c1 : nComp (itAny (eVar 0)) (.nm 6) [6] tTrue e_greedily3 [some (.val (encS S)), some (.val (.int (k : Int))), some (.val (encT t)), some (.val (.int (a : Int))), some (.ref mm.length), e5, none, none] md = some (S.map fun s => .int (((s.filter fun x => !cov S t x).length : Nat) : Int), md) :=
      comp_all encT (fun s => .int (((s.filter fun x => !cov S t x).length : Nat) : Int)) S rfl (by have := H.s6; omega) fun s hs => ⟨_, rfl, by
        have hlen : s.length ≤ 16777216 := by
          have := List.Nodup.length_le_of_subset (nd_of (H.srt _ hs)) (l₂ := List.range 8) fun a ha => List.mem_range.mpr (H.lt _ hs a ha)
          rw [List.length_range] at this
          omega
        have c2 : nComp (itAny (eVar 6)) (.nm 7) [7] t_greedily2 e_greedily1 [some (.val (encS S)), some (.val (.int (k : Int))), some (.val (encT t)), some (.val (.int (a : Int))), some (.ref mm.length), e5, some (.val (encT s)), none] md = some ((s.filter fun x => !cov S t x).map nI, md) :=
          comp_map nI (fun x => !cov S t x) nI s rfl hlen fun x hx => ⟨_, rfl, by
            have e : decide (x ∈ ovl S t) = cov S t x := by
              cases hc : cov S t x with
              | true => exact decide_eq_true (mem_ovl.mpr hc)
              | false => exact decide_eq_false fun z => by rw [mem_ovl.mp z] at hc; cases hc
            show t_greedily2 [some (.val (encS S)), some (.val (.int (k : Int))), some (.val (encT t)), some (.val (.int (a : Int))), some (.ref mm.length), e5, some (.val (encT s)), some (.val (.int (x : Int)))] md = _
            simp only [t_greedily2, ev_asg, ev_par, ev_if, ev_ret, ev_retN, ev_expr, ev_bin, ev_un, ev_ap, ev_cons, ev_nil, ev_varS, ev_var0, ev_c, ob_some, ev_gNm, ev_tOf, ev_asB, ev_asI, ev_tNot, ev_tAnd, ev_tOr, ev_eOf, ev_eIf, ev_chain, List.set_cons_succ, List.set_cons_zero, ev_then_nx, ev_then_rt, ev_next, ev_pTup, ev_valsC, ev_vals0, ev_eL, ev_bm, ev_aug, pix_t, pix_l, pixq0, pixq1, atI_0, atI_1, atI_2, pp_ii, ps_ii, pa_ii, plt_ii, ple_ii, pgt_ii, pge_ii, peq_ii, pne_ii, pneg_i, List.length_cons, List.length_nil, Nat.reduceAdd, Nat.reduceSub, Nat.reduceLeDiff, sz, if_true, Bool.false_eq_true, if_false, Bool.not_true, Bool.not_false, leave_v, List.take_length, plen_t, plen_l, ptup_l, ptup_t, pint_i, pis_n, pis_i, pis_t, pisnt_n, pisnt_i, pisnt_t, Int.cast_ofNat_Int, ne_eq, not_true_eq_false, not_false_eq_true, decide_true, decide_false, dnin_n hgd, e], fun _ => rfl⟩
        show e_greedily3 [some (.val (encS S)), some (.val (.int (k : Int))), some (.val (encT t)), some (.val (.int (a : Int))), some (.ref mm.length), e5, some (.val (encT s)), none] md = _
        simp only [e_greedily3, ev_asg, ev_par, ev_if, ev_ret, ev_retN, ev_expr, ev_bin, ev_un, ev_ap, ev_cons, ev_nil, ev_varS, ev_var0, ev_c, ob_some, ev_gNm, ev_tOf, ev_asB, ev_asI, ev_tNot, ev_tAnd, ev_tOr, ev_eOf, ev_eIf, ev_chain, List.set_cons_succ, List.set_cons_zero, ev_then_nx, ev_then_rt, ev_next, ev_pTup, ev_valsC, ev_vals0, ev_eL, ev_bm, ev_aug, pix_t, pix_l, pixq0, pixq1, atI_0, atI_1, atI_2, pp_ii, ps_ii, pa_ii, plt_ii, ple_ii, pgt_ii, pge_ii, peq_ii, pne_ii, pneg_i, List.length_cons, List.length_nil, Nat.reduceAdd, Nat.reduceSub, Nat.reduceLeDiff, sz, if_true, Bool.false_eq_true, if_false, Bool.not_true, Bool.not_false, leave_v, List.take_length, plen_t, plen_l, ptup_l, ptup_t, pint_i, pis_n, pis_i, pis_t, pisnt_n, pisnt_i, pisnt_t, Int.cast_ofNat_Int, ne_eq, not_true_eq_false, not_false_eq_true, decide_true, decide_false, c2, List.length_map]⟩
    have eg : (S.map fun s => PyData.int (((s.filter fun x => !cov S t x).length : Nat) : Int)) = encI (gains 8 S (cov S t)) := by
      rw [← gains_map H]
      unfold encI
      rw [List.map_map]
      rfl
    rw [eg] at c1
    have px : pMax [.val (.list (encI (gains 8 S (cov S t))))] md = some (.val (.int ((mxl (gains 8 S (cov S t)) : Nat) : Int)), md) := pmax_N rfl (gains_ne H _)
    have mdm : md.take m.length = m := by rw [← hmd, List.take_append_of_le_length hml]; exact hm
    have mdl : m.length ≤ md.length := by rw [← hmd, List.length_append]; omega
    obtain ⟨k', hk'⟩ : ∃ k', k - j = k' + 1 := ⟨k - j - 1, by omega⟩
    by_cases h0 : mxl (gains 8 S (cov S t)) = 0
    · refine ⟨_, _, [some (.val (encS S)), some (.val (.int (k : Int))), some (.val (encT t)), some (.val (.int (a : Int))), some (.ref mm.length), some (.val (.list (encI (gains 8 S (cov S t))))), none, none], md, rfl, .inr ⟨?_, ?_⟩⟩
      · show l_greedily4 [some (.val (encS S)), some (.val (.int (k : Int))), some (.val (encT t)), some (.val (.int (a : Int))), e4, e5, none, none] mm = _
        rw [h0] at px
        simp only [l_greedily4, ev_seq, ev_asg, ev_par, ev_if, ev_ret, ev_retN, ev_expr, ev_bin, ev_un, ev_ap, ev_cons, ev_nil, ev_varS, ev_var0, ev_c, ob_some, ev_gNm, ev_tOf, ev_asB, ev_asI, ev_tNot, ev_tAnd, ev_tOr, ev_eOf, ev_eIf, ev_chain, List.set_cons_succ, List.set_cons_zero, ev_then_nx, ev_then_rt, ev_next, ev_pTup, ev_valsC, ev_vals0, ev_eL, ev_bm, ev_aug, pix_t, pix_l, pixq0, pixq1, atI_0, atI_1, atI_2, pp_ii, ps_ii, pa_ii, plt_ii, ple_ii, pgt_ii, pge_ii, peq_ii, pne_ii, pneg_i, List.length_cons, List.length_nil, Nat.reduceAdd, Nat.reduceSub, Nat.reduceLeDiff, sz, if_true, Bool.false_eq_true, if_false, Bool.not_true, Bool.not_false, leave_v, List.take_length, plen_t, plen_l, ptup_l, ptup_t, pint_i, pis_n, pis_i, pis_t, pisnt_n, pisnt_i, pisnt_t, Int.cast_ofNat_Int, ne_eq, not_true_eq_false, not_false_eq_true, decide_true, decide_false, cv, c1, px, ev_break, ev_then_bk]
      · have : grd 8 S (k - j) t = t := by rw [hk']; unfold grd; rw [if_pos h0]
        rw [this] at hg
        rw [hg]
        exact ⟨_, _, _, rfl, mdm⟩
    · obtain ⟨x1, x2⟩ := at_mx (N := 8) (c := cov S t) hS
      have mi := pidx_L (m := md) (r := .val (.list (encI (gains 8 S (cov S t))))) (a := mxl (gains 8 S (cov S t))) (l := gains 8 S (cov S t)) rfl (mxl_mem (gains_ne H _))
      have h0' : ¬ (((mxl (gains 8 S (cov S t)) : Nat) : Int) = 0) := by omega
      have pt := pp_TT (a := t) (b := [(gains 8 S (cov S t)).idxOf (mxl (gains 8 S (cov S t)))]) (m := md) (by rw [List.length_singleton]; omega)
      have e1 : PyData.tuple [.int (((gains 8 S (cov S t)).idxOf (mxl (gains 8 S (cov S t))) : Nat) : Int)] = encT [(gains 8 S (cov S t)).idxOf (mxl (gains 8 S (cov S t)))] := rfl
      have z : (0 + 1 : Nat) ≤ 16777216 := by decide
      have al : asL (.val (.list (encI (gains 8 S (cov S t))))) md = some (encI (gains 8 S (cov S t))) := rfl
      refine ⟨_, _, [some (.val (encS S)), some (.val (.int (k : Int))), some (.val (encT (t ++ [(gains 8 S (cov S t)).idxOf (mxl (gains 8 S (cov S t)))]))), some (.val (.int (a : Int))), some (.ref mm.length), some (.val (.list (encI (gains 8 S (cov S t))))), none, none], md, rfl, .inl ⟨?_, ?_⟩⟩
      · show l_greedily4 [some (.val (encS S)), some (.val (.int (k : Int))), some (.val (encT t)), some (.val (.int (a : Int))), e4, e5, none, none] mm = _
        simp only [l_greedily4, ev_seq, ev_asg, ev_par, ev_if, ev_ret, ev_retN, ev_expr, ev_bin, ev_un, ev_ap, ev_cons, ev_nil, ev_varS, ev_var0, ev_c, ob_some, ev_gNm, ev_tOf, ev_asB, ev_asI, ev_tNot, ev_tAnd, ev_tOr, ev_eOf, ev_eIf, ev_chain, List.set_cons_succ, List.set_cons_zero, ev_then_nx, ev_then_rt, ev_next, ev_pTup, ev_valsC, ev_vals0, ev_eL, ev_bm, ev_aug, pix_t, pix_l, pixq0, pixq1, atI_0, atI_1, atI_2, pp_ii, ps_ii, pa_ii, plt_ii, ple_ii, pgt_ii, pge_ii, peq_ii, pne_ii, pneg_i, List.length_cons, List.length_nil, Nat.reduceAdd, Nat.reduceSub, Nat.reduceLeDiff, sz, if_true, Bool.false_eq_true, if_false, Bool.not_true, Bool.not_false, leave_v, List.take_length, plen_t, plen_l, ptup_l, ptup_t, pint_i, pis_n, pis_i, pis_t, pisnt_n, pisnt_i, pisnt_t, Int.cast_ofNat_Int, ne_eq, not_true_eq_false, not_false_eq_true, decide_true, decide_false, cv, c1, px, h0', al, mi, z, e1, pt]
      · refine ⟨_, _, _, _, rfl, mdm, mdl, fun i hi => ?_, by rw [List.length_append, List.length_singleton]; omega, ?_⟩
        · rcases List.mem_append.mp hi with q | q
          · exact ht i q
          · rw [List.mem_singleton.mp q]; exact x1
        · rw [← hg, hk']
          have : k - (j + 1) = k' := by omega
          rw [this]
          conv => rhs; unfold grd
          rw [if_neg h0]
  have fin : ∃ e3 e4 e5, e' = [some (.val (encS S)), some (.val (.int (k : Int))), some (.val (encT (grd 8 S k []))), e3, e4, e5, none, none] ∧ mm.take m.length = m := by
    rcases hPQ with ⟨e3, e4, e5, t, rfl, a1, _, _, _, a2⟩ | q
    · rw [List.length_range, Nat.sub_self] at a2
      have : grd 8 S 0 t = t := rfl
      rw [this] at a2
      subst a2
      exact ⟨e3, e4, e5, rfl, a1⟩
    · exact q
  obtain ⟨e3, e4, e5, rfl, hmm⟩ := fin
  have z0 : (0 : Nat) ≤ 16777216 := by decide
  have ee : PyData.tuple [] = encT [] := rfl
  simp only [m_greedily, bodyF, List.length_cons, List.length_nil, Nat.reduceAdd, Nat.reduceSub, List.map_cons, List.map_nil, List.replicate, List.cons_append, List.nil_append, List.append_nil, b_greedily, ev_seq, ev_asg, ev_par, ev_if, ev_ret, ev_retN, ev_expr, ev_bin, ev_un, ev_ap, ev_cons, ev_nil, ev_varS, ev_var0, ev_c, ob_some, ev_gNm, ev_tOf, ev_asB, ev_asI, ev_tNot, ev_tAnd, ev_tOr, ev_eOf, ev_eIf, ev_chain, List.set_cons_succ, List.set_cons_zero, ev_then_nx, ev_then_rt, ev_next, ev_pTup, ev_valsC, ev_vals0, ev_eL, ev_bm, ev_aug, pix_t, pix_l, pixq0, pixq1, atI_0, atI_1, atI_2, pp_ii, ps_ii, pa_ii, plt_ii, ple_ii, pgt_ii, pge_ii, peq_ii, pne_ii, pneg_i, List.length_cons, List.length_nil, Nat.reduceAdd, Nat.reduceSub, Nat.reduceLeDiff, sz, if_true, Bool.false_eq_true, if_false, Bool.not_true, Bool.not_false, leave_v, List.take_length, plen_t, plen_l, ptup_l, ptup_t, pint_i, pis_n, pis_i, pis_t, pisnt_n, pisnt_i, pisnt_t, Int.cast_ofNat_Int, ne_eq, not_true_eq_false, not_false_eq_true, decide_true, decide_false, check_sets_ok H, check_most_ok h1 h6, z0, ee, ev_for, it_rg1, rg, er, run_iL, h, hmm]
end
end L35

set_option Elab.async false
set_option linter.all false
set_option maxRecDepth 100000
namespace L35
open PySem PySem.Spec PyProof.Rows L2 Ev Cv
def subs : Nat → List (List Nat)
  | 0 => [[]]
  | c + 1 => subs c ++ (subs c).map fun r => r ++ [c]
theorem subs_lt : ∀ {c : Nat} {r : List Nat}, r ∈ subs c → ∀ i ∈ r, i < c
  | 0, r, h, i, hi => by
    simp [subs] at h
    rw [h] at hi
    cases hi
  | c + 1, r, h, i, hi => by
    rcases List.mem_append.mp h with q | q
    · have := subs_lt q i hi
      omega
    · obtain ⟨s, hs, rfl⟩ := List.mem_map.mp q
      rcases List.mem_append.mp hi with z | z
      · have := subs_lt hs i z
        omega
      · rw [List.mem_singleton.mp z]; omega
theorem subs_all : ∀ c, List.range c ∈ subs c
  | 0 => by simp [subs]
  | c + 1 => by
    rw [List.range_succ]
    exact List.mem_append_right _ (List.mem_map.mpr ⟨_, subs_all c, rfl⟩)
theorem subs_nil : ∀ c, [] ∈ subs c
  | 0 => by simp [subs]
  | c + 1 => List.mem_append_left _ (subs_nil c)
theorem subs_len : ∀ c, (subs c).length = 2 ^ c
  | 0 => rfl
  | c + 1 => by
    unfold subs
    rw [List.length_append, List.length_map, subs_len c, Nat.pow_succ]
    omega
theorem subs_row : ∀ {c : Nat} {r : List Nat}, r ∈ subs c → r.length ≤ c
  | 0, r, h => by
    simp [subs] at h
    rw [h]
    exact Nat.le_refl _
  | c + 1, r, h => by
    rcases List.mem_append.mp h with q | q
    · have := subs_row q
      omega
    · obtain ⟨s, hs, rfl⟩ := List.mem_map.mp q
      have := subs_row hs
      rw [List.length_append, List.length_singleton]
      omega
theorem len64 {c : Nat} (h : c ≤ 6) : (subs c).length ≤ 64 := by
  rw [subs_len]
  exact Nat.le_trans (Nat.pow_le_pow_right (by decide) h) (by decide)
theorem masks {c : Nat} (h : c ≤ 6) : ((List.range (2 ^ c)).map fun mask => (List.range c).filter fun i => decide (mask / 2 ^ i % 2 = 1)) = subs c := by
  have : ∀ c, c < 7 → ((List.range (2 ^ c)).map fun mask => (List.range c).filter fun i => decide (mask / 2 ^ i % 2 = 1)) = subs c := by decide +kernel
  exact this c (by omega)
/-- by number, then by order -/
def key (r : List Nat) : Nat × List Nat := (r.length, r)
def leK (a b : List Nat) : Bool := !decide (ltP (key b) (key a))
def sor (c : Nat) : List (List Nat) := (subs c).mergeSort leK
theorem sor_perm (c : Nat) : (sor c).Perm (subs c) := List.mergeSort_perm _ _
theorem mem_sor {c : Nat} {r : List Nat} : r ∈ sor c ↔ r ∈ subs c := (sor_perm c).mem_iff
theorem sor_sorted (c : Nat) : (sor c).Pairwise fun a b => ¬ ltP (key b) (key a) := by
  have := List.pairwise_mergeSort (le := leK) (fun a b c h1 h2 => by
    unfold leK at *
    simp only [Bool.not_eq_true', decide_eq_false_iff_not] at *
    intro z
    by_cases q : ltP (key b) (key c)
    · exact h1 (ltP_trans q z)
    · rw [ltP_tot h2 q] at z
      exact h1 z) (fun a b => by
    unfold leK
    by_cases h : ltP (key b) (key a)
    · have : ¬ ltP (key a) (key b) := fun z => ltP_irr _ (ltP_trans h z)
      simp [h, this]
    · simp [h]) (subs c)
  exact this.imp fun {a b} h => by
    unfold leK at h
    simpa using h
theorem head_least {c : Nat} {p : List Nat → Bool} {h : List Nat} {ys : List (List Nat)} (e : (sor c).filter p = h :: ys) : ∀ y ∈ (subs c).filter p, ¬ ltP (key y) (key h) := fun y hy => by
  have hm : y ∈ (sor c).filter p := by
    obtain ⟨a, b⟩ := List.mem_filter.mp hy
    exact List.mem_filter.mpr ⟨mem_sor.mpr a, b⟩
  have hs := (sor_sorted c).filter p
  rw [e] at hs hm
  rcases List.mem_cons.mp hm with q | q
  · rw [q]; exact ltP_irr _
  · exact (List.pairwise_cons.mp hs).1 y q
section
variable {m : M} {S : List (List Nat)} {r : R}
theorem ev_sortK {bs : List Bool} {fb : EF} {fa : AF} {env : Sl} {m : M} : eSortK bs fb fa env m = (fa env m).bind fun x => (match x.1 with
  | [r] => some (r, x.2)
  | _ => none).bind fun y => (asLT y.1 y.2).bind fun ds => sortKF (keyF fb bs env) ds y.2 := by
  unfold eSortK lst1
  rw [Option.bind_assoc] <;> rfl
theorem law_sets_ok {c : Nat} (hc : c ≤ 6) : m__law_sets [.val (.int (c : Int))] m = some (.val (.list ((sor c).map encT)), m) := by
  have rg := rg1_nat (m := m) (n := c) (by omega)
  have er : ((List.range c).map fun j : Nat => PyData.int j) = (List.range c).map nI := rfl
  obtain ⟨e', mm, h, e2, rfl, rfl⟩ := loop_inv (gf := gNm 2) (sf := l__law_sets2) nI (fun j env mm => ∃ e2, env = [some (.val (.int (c : Int))), some (.val (.list ((subs j).map encT))), e2, none] ∧ mm = m) (List.range c)
    [some (.val (.int (c : Int))), some (.val (.list [encT []])), none, none] m ⟨none, rfl, rfl⟩ fun j a hj env mm ⟨e2, he, hm⟩ => by
    subst he hm
    obtain ⟨rfl, hjn⟩ : a = j ∧ j < c := by
      obtain ⟨h1, h2⟩ := List.getElem?_eq_some_iff.mp hj
      rw [List.length_range] at h1
      rw [List.getElem_range] at h2
      exact ⟨h2.symm, h1⟩
    have l64 := len64 (c := a) (by omega)
    have c1 : nComp (itAny (eVar 1)) (.nm 3) [3] tTrue e__law_sets1 [some (.val (.int (c : Int))), some (.val (.list ((subs a).map encT))), some (.val (.int (a : Int))), none] mm = some ((subs a).map fun r => encT (r ++ [a]), mm) :=
      comp_all encT (fun r => encT (r ++ [a])) (subs a) rfl (by omega) fun r hr => ⟨_, rfl, by
        have hl := subs_row hr
        have pt := pp_TT (a := r) (b := [a]) (m := mm) (by rw [List.length_singleton]; omega)
        have e : PyData.tuple [.int (a : Int)] = encT [a] := rfl
        have z : (0 + 1 : Nat) ≤ 16777216 := by decide
        show e__law_sets1 [some (.val (.int (c : Int))), some (.val (.list ((subs a).map encT))), some (.val (.int (a : Int))), some (.val (encT r))] mm = _
        simp only [e__law_sets1, ev_asg, ev_par, ev_if, ev_ret, ev_retN, ev_expr, ev_bin, ev_un, ev_ap, ev_cons, ev_nil, ev_varS, ev_var0, ev_c, ob_some, ev_gNm, ev_tOf, ev_asB, ev_asI, ev_tNot, ev_tAnd, ev_tOr, ev_eOf, ev_eIf, ev_chain, List.set_cons_succ, List.set_cons_zero, ev_then_nx, ev_then_rt, ev_next, ev_pTup, ev_valsC, ev_vals0, ev_eL, ev_bm, ev_aug, pix_t, pix_l, pixq0, pixq1, atI_0, atI_1, atI_2, pp_ii, ps_ii, pa_ii, plt_ii, ple_ii, pgt_ii, pge_ii, peq_ii, pne_ii, pneg_i, List.length_cons, List.length_nil, Nat.reduceAdd, Nat.reduceSub, Nat.reduceLeDiff, sz, if_true, Bool.false_eq_true, if_false, Bool.not_true, Bool.not_false, leave_v, List.take_length, plen_t, plen_l, ptup_l, ptup_t, pint_i, pis_n, pis_i, pis_t, pisnt_n, pisnt_i, pisnt_t, Int.cast_ofNat_Int, ne_eq, not_true_eq_false, not_false_eq_true, decide_true, decide_false, z, e, pt]⟩
    have pl := pp_ll (m := mm) (ds := (subs a).map encT) (es := (subs a).map fun r => encT (r ++ [a])) (by simp only [List.length_map]; omega)
    have ee : (subs a).map encT ++ ((subs a).map fun r => encT (r ++ [a])) = (subs (a + 1)).map encT := by
      show _ = (subs a ++ (subs a).map fun r => r ++ [a]).map encT
      rw [List.map_append, List.map_map]
      rfl
    rw [ee] at pl
    refine ⟨_, _, _, _, rfl, ?_, some (.val (.int (a : Int))), rfl, rfl⟩
    show l__law_sets2 [some (.val (.int (c : Int))), some (.val (.list ((subs a).map encT))), some (.val (.int (a : Int))), none] mm = _
    simp only [l__law_sets2, ev_asg, ev_par, ev_if, ev_ret, ev_retN, ev_expr, ev_bin, ev_un, ev_ap, ev_cons, ev_nil, ev_varS, ev_var0, ev_c, ob_some, ev_gNm, ev_tOf, ev_asB, ev_asI, ev_tNot, ev_tAnd, ev_tOr, ev_eOf, ev_eIf, ev_chain, List.set_cons_succ, List.set_cons_zero, ev_then_nx, ev_then_rt, ev_next, ev_pTup, ev_valsC, ev_vals0, ev_eL, ev_bm, ev_aug, pix_t, pix_l, pixq0, pixq1, atI_0, atI_1, atI_2, pp_ii, ps_ii, pa_ii, plt_ii, ple_ii, pgt_ii, pge_ii, peq_ii, pne_ii, pneg_i, List.length_cons, List.length_nil, Nat.reduceAdd, Nat.reduceSub, Nat.reduceLeDiff, sz, if_true, Bool.false_eq_true, if_false, Bool.not_true, Bool.not_false, leave_v, List.take_length, plen_t, plen_l, ptup_l, ptup_t, pint_i, pis_n, pis_i, pis_t, pisnt_n, pisnt_i, pisnt_t, Int.cast_ofNat_Int, ne_eq, not_true_eq_false, not_false_eq_true, decide_true, decide_false, c1, pl]
  rw [List.length_range] at h
  have l64 := len64 hc
  have sk := sortKF_map (fk := keyF k__law_sets3 [false, false, false, true] [some (.val (.int (c : Int))), some (.val (.list ((subs c).map encT))), e2, none]) (m := mm) encT (fun r => encP (key r)) (subs c) (fun r hr => by
    have z : (0 + 1 + 1 : Nat) ≤ 16777216 := by decide
    unfold keyF
    simp only [mskL, k__law_sets3, ev_asg, ev_par, ev_if, ev_ret, ev_retN, ev_expr, ev_bin, ev_un, ev_ap, ev_cons, ev_nil, ev_varS, ev_var0, ev_c, ob_some, ev_gNm, ev_tOf, ev_asB, ev_asI, ev_tNot, ev_tAnd, ev_tOr, ev_eOf, ev_eIf, ev_chain, List.set_cons_succ, List.set_cons_zero, ev_then_nx, ev_then_rt, ev_next, ev_pTup, ev_valsC, ev_vals0, ev_eL, ev_bm, ev_aug, pix_t, pix_l, pixq0, pixq1, atI_0, atI_1, atI_2, pp_ii, ps_ii, pa_ii, plt_ii, ple_ii, pgt_ii, pge_ii, peq_ii, pne_ii, pneg_i, List.length_cons, List.length_nil, Nat.reduceAdd, Nat.reduceSub, Nat.reduceLeDiff, sz, if_true, Bool.false_eq_true, if_false, Bool.not_true, Bool.not_false, leave_v, List.take_length, plen_t, plen_l, ptup_l, ptup_t, pint_i, pis_n, pis_i, pis_t, pisnt_n, pisnt_i, pisnt_t, Int.cast_ofNat_Int, ne_eq, not_true_eq_false, not_false_eq_true, decide_true, decide_false, plen_T, z]
    rfl) (sortable_tup (subs c) (fun r hr => ⟨_, _, rfl⟩) fun a _ b _ => alike_P) (fun r hr => Nat.le_trans (depth_P _) (by decide)) (by omega)
  have es : (subs c).mergeSort (fun a b => PySem.W.dataLe false (fun r => encP (key r)) a b) = sor c := by
    have q : (fun a b => PySem.W.dataLe false (fun r => encP (key r)) a b) = leK := by
      funext a b
      rw [PySem.W.dataLe_eq]
      show (!PySem.W.dataLt (encP (key b)) (encP (key a))) = _
      rw [dataLt_P]
      rfl
    rw [q]
    rfl
  rw [es] at sk
  have z0 : (0 : Nat) ≤ 16777216 := by decide
  have z1 : (0 + 1 : Nat) ≤ 16777216 := by decide
  have ee : PyData.tuple [] = encT [] := rfl
  have al : asLT (.val (.list ((subs c).map encT))) mm = some ((subs c).map encT) := rfl
  simp only [m__law_sets, bodyF, List.length_cons, List.length_nil, Nat.reduceAdd, Nat.reduceSub, List.map_cons, List.map_nil, List.replicate, List.cons_append, List.nil_append, List.append_nil, b__law_sets, ev_seq, ev_asg, ev_par, ev_if, ev_ret, ev_retN, ev_expr, ev_bin, ev_un, ev_ap, ev_cons, ev_nil, ev_varS, ev_var0, ev_c, ob_some, ev_gNm, ev_tOf, ev_asB, ev_asI, ev_tNot, ev_tAnd, ev_tOr, ev_eOf, ev_eIf, ev_chain, List.set_cons_succ, List.set_cons_zero, ev_then_nx, ev_then_rt, ev_next, ev_pTup, ev_valsC, ev_vals0, ev_eL, ev_bm, ev_aug, pix_t, pix_l, pixq0, pixq1, atI_0, atI_1, atI_2, pp_ii, ps_ii, pa_ii, plt_ii, ple_ii, pgt_ii, pge_ii, peq_ii, pne_ii, pneg_i, List.length_cons, List.length_nil, Nat.reduceAdd, Nat.reduceSub, Nat.reduceLeDiff, sz, if_true, Bool.false_eq_true, if_false, Bool.not_true, Bool.not_false, leave_v, List.take_length, plen_t, plen_l, ptup_l, ptup_t, pint_i, pis_n, pis_i, pis_t, pisnt_n, pisnt_i, pisnt_t, Int.cast_ofNat_Int, ne_eq, not_true_eq_false, not_false_eq_true, decide_true, decide_false, ev_nLst, z0, z1, ee, ev_for, it_rg1, rg, er, run_iL, h, ev_sortK, al, sk]
theorem sets_of_ok {c : Nat} (hc : c ≤ 6) : m_sets_of [.val (.int (c : Int))] m = some (.val (.list ((subs c).map encT)), m) := by
  have p2 : 2 ^ c ≤ 64 := Nat.le_trans (Nat.pow_le_pow_right (by decide) hc) (by decide)
  have sh : pShl (.val (.int 1)) (.val (.int (c : Int))) m = some (.val (.int ((2 ^ c : Nat) : Int)), m) := by
    have ok : shlOk 1 (c : Int) = true := by
      have : ∀ c : Nat, c < 7 → shlOk 1 (c : Int) = true := by decide +kernel
      exact this c (by omega)
    show (if shlOk 1 (c : Int) = true then some (R.val (.int (1 * 2 ^ ((c : Int)).toNat)), m) else none) = _
    rw [if_pos ok]
    simp
  have rg := rg1_nat (m := m) (n := 2 ^ c) (by omega)
  have rc := rg1_nat (m := m) (n := c) (by omega)
  have c1 : nComp (itRng1 (aCons (eBin pShl (eC (.int 1)) (eVar 0)) aNil)) (.nm 1) [1] tTrue e_sets_of3 [some (.val (.int (c : Int))), none, none] m = some ((List.range (2 ^ c)).map fun mask => encT ((List.range c).filter fun i => decide (mask / 2 ^ i % 2 = 1)), m) :=
    comp_all nI (fun mask => encT ((List.range c).filter fun i => decide (mask / 2 ^ i % 2 = 1))) (List.range (2 ^ c)) (by simp only [it_rg1, ev_asg, ev_par, ev_if, ev_ret, ev_retN, ev_expr, ev_bin, ev_un, ev_ap, ev_cons, ev_nil, ev_varS, ev_var0, ev_c, ob_some, ev_gNm, ev_tOf, ev_asB, ev_asI, ev_tNot, ev_tAnd, ev_tOr, ev_eOf, ev_eIf, ev_chain, List.set_cons_succ, List.set_cons_zero, ev_then_nx, ev_then_rt, ev_next, ev_pTup, ev_valsC, ev_vals0, ev_eL, ev_bm, ev_aug, pix_t, pix_l, pixq0, pixq1, atI_0, atI_1, atI_2, pp_ii, ps_ii, pa_ii, plt_ii, ple_ii, pgt_ii, pge_ii, peq_ii, pne_ii, pneg_i, List.length_cons, List.length_nil, Nat.reduceAdd, Nat.reduceSub, Nat.reduceLeDiff, sz, if_true, Bool.false_eq_true, if_false, Bool.not_true, Bool.not_false, leave_v, List.take_length, plen_t, plen_l, ptup_l, ptup_t, pint_i, pis_n, pis_i, pis_t, pisnt_n, pisnt_i, pisnt_t, Int.cast_ofNat_Int, ne_eq, not_true_eq_false, not_false_eq_true, decide_true, decide_false, sh, rg]) (by rw [List.length_range]; omega) fun mask hmask => ⟨_, rfl, by
      have hmk := List.mem_range.mp hmask
      have c2 : nComp (itRng1 (aCons (eVar 0) aNil)) (.nm 2) [2] t_sets_of2 e_sets_of1 [some (.val (.int (c : Int))), some (.val (.int (mask : Int))), none] m = some (encI ((List.range c).filter fun i => decide (mask / 2 ^ i % 2 = 1)), m) :=
        comp_map nI (fun i => decide (mask / 2 ^ i % 2 = 1)) nI (List.range c) (by simp only [it_rg1, ev_asg, ev_par, ev_if, ev_ret, ev_retN, ev_expr, ev_bin, ev_un, ev_ap, ev_cons, ev_nil, ev_varS, ev_var0, ev_c, ob_some, ev_gNm, ev_tOf, ev_asB, ev_asI, ev_tNot, ev_tAnd, ev_tOr, ev_eOf, ev_eIf, ev_chain, List.set_cons_succ, List.set_cons_zero, ev_then_nx, ev_then_rt, ev_next, ev_pTup, ev_valsC, ev_vals0, ev_eL, ev_bm, ev_aug, pix_t, pix_l, pixq0, pixq1, atI_0, atI_1, atI_2, pp_ii, ps_ii, pa_ii, plt_ii, ple_ii, pgt_ii, pge_ii, peq_ii, pne_ii, pneg_i, List.length_cons, List.length_nil, Nat.reduceAdd, Nat.reduceSub, Nat.reduceLeDiff, sz, if_true, Bool.false_eq_true, if_false, Bool.not_true, Bool.not_false, leave_v, List.take_length, plen_t, plen_l, ptup_l, ptup_t, pint_i, pis_n, pis_i, pis_t, pisnt_n, pisnt_i, pisnt_t, Int.cast_ofNat_Int, ne_eq, not_true_eq_false, not_false_eq_true, decide_true, decide_false, rc]) (by rw [List.length_range]; omega) fun i hi => ⟨_, rfl, by
          have hik := List.mem_range.mp hi
          have key : ∀ mask : Nat, mask < 64 → ∀ i : Nat, i < 6 → (shrOk (mask : Int) (i : Int) = true ∧ Builtin.bitAnd ((mask : Int) / 2 ^ ((i : Int)).toNat) 1 = ((mask / 2 ^ i % 2 : Nat) : Int)) := by decide +kernel
          obtain ⟨k1, k2⟩ := key mask (by omega) i (by omega)
          have s1 : pShr (.val (.int (mask : Int))) (.val (.int (i : Int))) m = some (.val (.int ((mask : Int) / 2 ^ ((i : Int)).toNat)), m) := by
            show (if shrOk (mask : Int) (i : Int) = true then some (R.val (.int ((mask : Int) / 2 ^ ((i : Int)).toNat)), m) else none) = _
            rw [if_pos k1]
          have s2 : ∀ x : Int, pAnd (.val (.int x)) (.val (.int 1)) m = some (.val (.int (Builtin.bitAnd x 1)), m) := fun _ => rfl
          have e : decide (((mask / 2 ^ i % 2 : Nat) : Int) = 1) = decide (mask / 2 ^ i % 2 = 1) := by
            by_cases q : mask / 2 ^ i % 2 = 1
            · rw [decide_eq_true q, q]; rfl
            · rw [decide_eq_false q, decide_eq_false (by omega)]
          show t_sets_of2 [some (.val (.int (c : Int))), some (.val (.int (mask : Int))), some (.val (.int (i : Int)))] m = _
          simp only [t_sets_of2, ev_asg, ev_par, ev_if, ev_ret, ev_retN, ev_expr, ev_bin, ev_un, ev_ap, ev_cons, ev_nil, ev_varS, ev_var0, ev_c, ob_some, ev_gNm, ev_tOf, ev_asB, ev_asI, ev_tNot, ev_tAnd, ev_tOr, ev_eOf, ev_eIf, ev_chain, List.set_cons_succ, List.set_cons_zero, ev_then_nx, ev_then_rt, ev_next, ev_pTup, ev_valsC, ev_vals0, ev_eL, ev_bm, ev_aug, pix_t, pix_l, pixq0, pixq1, atI_0, atI_1, atI_2, pp_ii, ps_ii, pa_ii, plt_ii, ple_ii, pgt_ii, pge_ii, peq_ii, pne_ii, pneg_i, List.length_cons, List.length_nil, Nat.reduceAdd, Nat.reduceSub, Nat.reduceLeDiff, sz, if_true, Bool.false_eq_true, if_false, Bool.not_true, Bool.not_false, leave_v, List.take_length, plen_t, plen_l, ptup_l, ptup_t, pint_i, pis_n, pis_i, pis_t, pisnt_n, pisnt_i, pisnt_t, Int.cast_ofNat_Int, ne_eq, not_true_eq_false, not_false_eq_true, decide_true, decide_false, s1, s2, k2, e], fun _ => rfl⟩
      show e_sets_of3 [some (.val (.int (c : Int))), some (.val (.int (mask : Int))), none] m = _
      simp only [e_sets_of3, ev_asg, ev_par, ev_if, ev_ret, ev_retN, ev_expr, ev_bin, ev_un, ev_ap, ev_cons, ev_nil, ev_varS, ev_var0, ev_c, ob_some, ev_gNm, ev_tOf, ev_asB, ev_asI, ev_tNot, ev_tAnd, ev_tOr, ev_eOf, ev_eIf, ev_chain, List.set_cons_succ, List.set_cons_zero, ev_then_nx, ev_then_rt, ev_next, ev_pTup, ev_valsC, ev_vals0, ev_eL, ev_bm, ev_aug, pix_t, pix_l, pixq0, pixq1, atI_0, atI_1, atI_2, pp_ii, ps_ii, pa_ii, plt_ii, ple_ii, pgt_ii, pge_ii, peq_ii, pne_ii, pneg_i, List.length_cons, List.length_nil, Nat.reduceAdd, Nat.reduceSub, Nat.reduceLeDiff, sz, if_true, Bool.false_eq_true, if_false, Bool.not_true, Bool.not_false, leave_v, List.take_length, plen_t, plen_l, ptup_l, ptup_t, pint_i, pis_n, pis_i, pis_t, pisnt_n, pisnt_i, pisnt_t, Int.cast_ofNat_Int, ne_eq, not_true_eq_false, not_false_eq_true, decide_true, decide_false, c2]
      rfl⟩
  have e : ((List.range (2 ^ c)).map fun mask => encT ((List.range c).filter fun i => decide (mask / 2 ^ i % 2 = 1))) = (subs c).map encT := by
    rw [← masks hc, List.map_map]
    rfl
  rw [e] at c1
  simp only [m_sets_of, bodyF, List.length_cons, List.length_nil, Nat.reduceAdd, Nat.reduceSub, List.map_cons, List.map_nil, List.replicate, List.cons_append, List.nil_append, List.append_nil, b_sets_of, ev_asg, ev_par, ev_if, ev_ret, ev_retN, ev_expr, ev_bin, ev_un, ev_ap, ev_cons, ev_nil, ev_varS, ev_var0, ev_c, ob_some, ev_gNm, ev_tOf, ev_asB, ev_asI, ev_tNot, ev_tAnd, ev_tOr, ev_eOf, ev_eIf, ev_chain, List.set_cons_succ, List.set_cons_zero, ev_then_nx, ev_then_rt, ev_next, ev_pTup, ev_valsC, ev_vals0, ev_eL, ev_bm, ev_aug, pix_t, pix_l, pixq0, pixq1, atI_0, atI_1, atI_2, pp_ii, ps_ii, pa_ii, plt_ii, ple_ii, pgt_ii, pge_ii, peq_ii, pne_ii, pneg_i, List.length_cons, List.length_nil, Nat.reduceAdd, Nat.reduceSub, Nat.reduceLeDiff, sz, if_true, Bool.false_eq_true, if_false, Bool.not_true, Bool.not_false, leave_v, List.take_length, plen_t, plen_l, ptup_l, ptup_t, pint_i, pis_n, pis_i, pis_t, pisnt_n, pisnt_i, pisnt_t, Int.cast_ofNat_Int, ne_eq, not_true_eq_false, not_false_eq_true, decide_true, decide_false, c1]
end
end L35

set_option Elab.async false
set_option linter.all false
set_option maxRecDepth 100000
namespace L35
open PySem PySem.Spec PyProof.Rows L2 Ev Cv
abbrev cv (S : List (List Nat)) (r : List Nat) : Nat := Cv.cnt 8 (cov S r)
/-- the most that k sets cover, and the least such row -/
structure Top (S : List (List Nat)) (k top : Nat) (r : List Nat) : Prop where
  mem : r ∈ subs S.length
  len : r.length ≤ k
  cnt : cv S r = top
  le : ∀ x ∈ subs S.length, x.length ≤ k → cv S x ≤ top
  least : ∀ x ∈ subs S.length, x.length ≤ k → cv S x = top → ¬ x < r
theorem Top.uniq {S : List (List Nat)} {k t t' : Nat} {r r' : List Nat} (a : Top S k t r) (b : Top S k t' r') : t = t' ∧ r = r' := by
  have e : t = t' := by
    have h1 := a.le r' b.mem b.len
    have h2 := b.le r a.mem a.len
    rw [b.cnt] at h1
    rw [a.cnt] at h2
    omega
  subst e
  exact ⟨rfl, List.le_antisymm (List.not_lt.mp (b.least r a.mem a.len a.cnt |> fun z => a.least r' b.mem b.len b.cnt)) (List.not_lt.mp (b.least r a.mem a.len a.cnt))⟩
/-- the least row that covers all -/
structure Few (S : List (List Nat)) (r : List Nat) : Prop where
  mem : r ∈ subs S.length
  cnt : cv S r = cv S (List.range S.length)
  least : ∀ x ∈ subs S.length, cv S x = cv S (List.range S.length) → ¬ ltP (key x) (key r)
theorem Few.uniq {S : List (List Nat)} {r r' : List Nat} (a : Few S r) (b : Few S r') : r = r' := by
  have := ltP_tot (b.least r a.mem a.cnt) (a.least r' b.mem b.cnt)
  exact congrArg Prod.snd this
section
variable {m : M} {S : List (List Nat)} {r : R}
theorem cut_covered (H : Ss S) {t : List Nat} (ht : t ∈ subs S.length) {f : EF} {env : Sl} (hf : f env m = some (.val (encT t), m)) {i : Nat} (he : env[i]? = some (some (.val (encS S)))) : eCut (eAp pLenD (aCons (eAp m_covered (aCons (eVar i) (aCons f aNil))) aNil)) env m = some (.val (.int ((cv S t : Nat) : Int)), m) := by
  have hi := subs_lt ht
  have hl := subs_row ht
  have h6 := H.s6
  have c := covered_ok (m := m) (r := .val (encT t)) H hi (by omega) fun _ => rfl
  have l := len_covered (m := m) H hi
  have ev : eVar i env m = some (.val (encS S), m) := by
    unfold eVar
    rw [he]
  rw [ev_cut]
  simp only [ev_asg, ev_par, ev_if, ev_ret, ev_retN, ev_expr, ev_bin, ev_un, ev_ap, ev_cons, ev_nil, ev_varS, ev_var0, ev_c, ob_some, ev_gNm, ev_tOf, ev_asB, ev_asI, ev_tNot, ev_tAnd, ev_tOr, ev_eOf, ev_eIf, ev_chain, List.set_cons_succ, List.set_cons_zero, ev_then_nx, ev_then_rt, ev_next, ev_pTup, ev_valsC, ev_vals0, ev_eL, ev_bm, ev_aug, pix_t, pix_l, pixq0, pixq1, atI_0, atI_1, atI_2, pp_ii, ps_ii, pa_ii, plt_ii, ple_ii, pgt_ii, pge_ii, peq_ii, pne_ii, pneg_i, List.length_cons, List.length_nil, Nat.reduceAdd, Nat.reduceSub, Nat.reduceLeDiff, sz, if_true, Bool.false_eq_true, if_false, Bool.not_true, Bool.not_false, leave_v, List.take_length, plen_t, plen_l, ptup_l, ptup_t, pint_i, pis_n, pis_i, pis_t, pisnt_n, pisnt_i, pisnt_t, Int.cast_ofNat_Int, ne_eq, not_true_eq_false, not_false_eq_true, decide_true, decide_false, ev, hf, c, l, tk]
theorem most_ok (H : Ss S) {k : Nat} (h1 : 1 ≤ k) (h6 : k ≤ 10) : ∃ top r, Top S k top r ∧ m_most_covered_by [.val (encS S), .val (.int (k : Int))] m = some (.val (encP (top, r)), m) := by
  have s6 := H.s6
  have so := sets_of_ok (m := m) s6
  have l64 := len64 s6
  have c1 : nComp (itAny (eAp m_sets_of (aCons (eAp pLen (aCons (eVar 0) aNil)) aNil))) (.nm 4) [4] t_most_covered_by2 e_most_covered_by1 [some (.val (encS S)), some (.val (.int (k : Int))), none, none, none, none, none] m = some (((subs S.length).filter fun t => decide (t.length ≤ k)).map fun t => encP (cv S t, t), m) :=
    comp_map encT (fun t => decide (t.length ≤ k)) (fun t => encP (cv S t, t)) (subs S.length) (by simp only [it_an, ev_asg, ev_par, ev_if, ev_ret, ev_retN, ev_expr, ev_bin, ev_un, ev_ap, ev_cons, ev_nil, ev_varS, ev_var0, ev_c, ob_some, ev_gNm, ev_tOf, ev_asB, ev_asI, ev_tNot, ev_tAnd, ev_tOr, ev_eOf, ev_eIf, ev_chain, List.set_cons_succ, List.set_cons_zero, ev_then_nx, ev_then_rt, ev_next, ev_pTup, ev_valsC, ev_vals0, ev_eL, ev_bm, ev_aug, pix_t, pix_l, pixq0, pixq1, atI_0, atI_1, atI_2, pp_ii, ps_ii, pa_ii, plt_ii, ple_ii, pgt_ii, pge_ii, peq_ii, pne_ii, pneg_i, List.length_cons, List.length_nil, Nat.reduceAdd, Nat.reduceSub, Nat.reduceLeDiff, sz, if_true, Bool.false_eq_true, if_false, Bool.not_true, Bool.not_false, leave_v, List.take_length, plen_t, plen_l, ptup_l, ptup_t, pint_i, pis_n, pis_i, pis_t, pisnt_n, pisnt_i, pisnt_t, Int.cast_ofNat_Int, ne_eq, not_true_eq_false, not_false_eq_true, decide_true, decide_false, plen_t, List.length_map, so, an1_l]) (by omega) fun t ht => ⟨_, rfl, by
      show t_most_covered_by2 [some (.val (encS S)), some (.val (.int (k : Int))), none, none, some (.val (encT t)), none, none] m = _
      simp only [t_most_covered_by2, ev_asg, ev_par, ev_if, ev_ret, ev_retN, ev_expr, ev_bin, ev_un, ev_ap, ev_cons, ev_nil, ev_varS, ev_var0, ev_c, ob_some, ev_gNm, ev_tOf, ev_asB, ev_asI, ev_tNot, ev_tAnd, ev_tOr, ev_eOf, ev_eIf, ev_chain, List.set_cons_succ, List.set_cons_zero, ev_then_nx, ev_then_rt, ev_next, ev_pTup, ev_valsC, ev_vals0, ev_eL, ev_bm, ev_aug, pix_t, pix_l, pixq0, pixq1, atI_0, atI_1, atI_2, pp_ii, ps_ii, pa_ii, plt_ii, ple_ii, pgt_ii, pge_ii, peq_ii, pne_ii, pneg_i, List.length_cons, List.length_nil, Nat.reduceAdd, Nat.reduceSub, Nat.reduceLeDiff, sz, if_true, Bool.false_eq_true, if_false, Bool.not_true, Bool.not_false, leave_v, List.take_length, plen_t, plen_l, ptup_l, ptup_t, pint_i, pis_n, pis_i, pis_t, pisnt_n, pisnt_i, pisnt_t, Int.cast_ofNat_Int, ne_eq, not_true_eq_false, not_false_eq_true, decide_true, decide_false, plen_T, Int.ofNat_le], fun _ => by
      have c := cut_covered (m := m) H ht (f := eVar 4) (env := [some (.val (encS S)), some (.val (.int (k : Int))), none, none, some (.val (encT t)), none, none]) rfl (i := 0) rfl
      have z : (0 + 1 + 1 : Nat) ≤ 16777216 := by decide
      show e_most_covered_by1 [some (.val (encS S)), some (.val (.int (k : Int))), none, none, some (.val (encT t)), none, none] m = _
      simp only [e_most_covered_by1, ev_asg, ev_par, ev_if, ev_ret, ev_retN, ev_expr, ev_bin, ev_un, ev_ap, ev_cons, ev_nil, ev_varS, ev_var0, ev_c, ob_some, ev_gNm, ev_tOf, ev_asB, ev_asI, ev_tNot, ev_tAnd, ev_tOr, ev_eOf, ev_eIf, ev_chain, List.set_cons_succ, List.set_cons_zero, ev_then_nx, ev_then_rt, ev_next, ev_pTup, ev_valsC, ev_vals0, ev_eL, ev_bm, ev_aug, pix_t, pix_l, pixq0, pixq1, atI_0, atI_1, atI_2, pp_ii, ps_ii, pa_ii, plt_ii, ple_ii, pgt_ii, pge_ii, peq_ii, pne_ii, pneg_i, List.length_cons, List.length_nil, Nat.reduceAdd, Nat.reduceSub, Nat.reduceLeDiff, sz, if_true, Bool.false_eq_true, if_false, Bool.not_true, Bool.not_false, leave_v, List.take_length, plen_t, plen_l, ptup_l, ptup_t, pint_i, pis_n, pis_i, pis_t, pisnt_n, pisnt_i, pisnt_t, Int.cast_ofNat_Int, ne_eq, not_true_eq_false, not_false_eq_true, decide_true, decide_false, c, z]
      rfl⟩
  generalize hRk : (subs S.length).filter (fun t => decide (t.length ≤ k)) = Rk at c1
  have hm : ∀ x, x ∈ Rk ↔ x ∈ subs S.length ∧ x.length ≤ k := fun x => by rw [← hRk, List.mem_filter, decide_eq_true_eq]
  have hlen : Rk.length ≤ 16777216 := by rw [← hRk]; exact Nat.le_trans (List.length_filter_le _ _) (by omega)
  have nil : [] ∈ Rk := (hm _).mpr ⟨subs_nil _, Nat.zero_le _⟩
  have ne : Rk.map (cv S) ≠ [] := fun z => by rw [List.map_eq_nil_iff.mp z] at nil; cases nil
  have c2 : nComp (itAny (eVar 2)) (.tp (.cons (.nm 5) (.cons (.nm 6) .nil))) [5, 6] tTrue e_most_covered_by3 [some (.val (encS S)), some (.val (.int (k : Int))), some (.val (.list (Rk.map fun t => encP (cv S t, t)))), none, none, none, none] m = some (encI (Rk.map (cv S)), m) := by
    have := comp_all (it := itAny (eVar 2)) (p := .tp (.cons (.nm 5) (.cons (.nm 6) .nil))) (vs := [5, 6]) (te := e_most_covered_by3) (env := [some (.val (encS S)), some (.val (.int (k : Int))), some (.val (.list (Rk.map fun t => encP (cv S t, t)))), none, none, none, none]) (m := m) (fun t => encP (cv S t, t)) (fun t => nI (cv S t)) Rk rfl hlen fun t ht => ⟨_, rfl, rfl⟩
    rw [this]
    unfold encI
    rw [List.map_map]
    rfl
  have px : pMax [.val (.list (encI (Rk.map (cv S))))] m = some (.val (.int ((mxl (Rk.map (cv S)) : Nat) : Int)), m) := pmax_N rfl ne
  generalize hT : mxl (Rk.map (cv S)) = top at px
  have c3 : nComp (itAny (eVar 2)) (.tp (.cons (.nm 5) (.cons (.nm 4) .nil))) [5, 4] t_most_covered_by5 e_most_covered_by4 [some (.val (encS S)), some (.val (.int (k : Int))), some (.val (.list (Rk.map fun t => encP (cv S t, t)))), some (.val (.int (top : Int))), none, none, none] m = some ((Rk.filter fun t => decide (cv S t = top)).map encT, m) :=
    comp_map (fun t => encP (cv S t, t)) (fun t => decide (cv S t = top)) encT Rk rfl hlen fun t ht => ⟨_, rfl, by
      show t_most_covered_by5 [some (.val (encS S)), some (.val (.int (k : Int))), some (.val (.list (Rk.map fun t => encP (cv S t, t)))), some (.val (.int (top : Int))), some (.val (encT t)), some (.val (.int ((cv S t : Nat) : Int))), none] m = _
      simp only [t_most_covered_by5, ev_asg, ev_par, ev_if, ev_ret, ev_retN, ev_expr, ev_bin, ev_un, ev_ap, ev_cons, ev_nil, ev_varS, ev_var0, ev_c, ob_some, ev_gNm, ev_tOf, ev_asB, ev_asI, ev_tNot, ev_tAnd, ev_tOr, ev_eOf, ev_eIf, ev_chain, List.set_cons_succ, List.set_cons_zero, ev_then_nx, ev_then_rt, ev_next, ev_pTup, ev_valsC, ev_vals0, ev_eL, ev_bm, ev_aug, pix_t, pix_l, pixq0, pixq1, atI_0, atI_1, atI_2, pp_ii, ps_ii, pa_ii, plt_ii, ple_ii, pgt_ii, pge_ii, peq_ii, pne_ii, pneg_i, List.length_cons, List.length_nil, Nat.reduceAdd, Nat.reduceSub, Nat.reduceLeDiff, sz, if_true, Bool.false_eq_true, if_false, Bool.not_true, Bool.not_false, leave_v, List.take_length, plen_t, plen_l, ptup_l, ptup_t, pint_i, pis_n, pis_i, pis_t, pisnt_n, pisnt_i, pisnt_t, Int.cast_ofNat_Int, ne_eq, not_true_eq_false, not_false_eq_true, decide_true, decide_false, Int.ofNat_inj], fun _ => rfl⟩
  obtain ⟨q, hq, eq⟩ := List.mem_map.mp (mxl_mem ne)
  have hqf : q ∈ Rk.filter fun t => decide (cv S t = top) := List.mem_filter.mpr ⟨hq, decide_eq_true (by rw [eq, hT])⟩
  obtain ⟨r, p1, p2, p3⟩ := pmin_T (l := Rk.filter fun t => decide (cv S t = top)) (m := m) (fun z => by rw [z] at hqf; cases hqf)
  obtain ⟨r1, r2⟩ := List.mem_filter.mp p2
  have r3 := (hm r).mp r1
  refine ⟨top, r, ⟨r3.1, r3.2, of_decide_eq_true r2, fun x hx hk => by rw [← hT]; exact le_mxl (List.mem_map.mpr ⟨x, (hm x).mpr ⟨hx, hk⟩, rfl⟩), fun x hx hk he => p3 x (List.mem_filter.mpr ⟨(hm x).mpr ⟨hx, hk⟩, decide_eq_true he⟩)⟩, ?_⟩
  have z : (0 + 1 + 1 : Nat) ≤ 16777216 := by decide
  simp only [m_most_covered_by, bodyF, List.length_cons, List.length_nil, Nat.reduceAdd, Nat.reduceSub, List.map_cons, List.map_nil, List.replicate, List.cons_append, List.nil_append, List.append_nil, b_most_covered_by, ev_seq, ev_asg, ev_par, ev_if, ev_ret, ev_retN, ev_expr, ev_bin, ev_un, ev_ap, ev_cons, ev_nil, ev_varS, ev_var0, ev_c, ob_some, ev_gNm, ev_tOf, ev_asB, ev_asI, ev_tNot, ev_tAnd, ev_tOr, ev_eOf, ev_eIf, ev_chain, List.set_cons_succ, List.set_cons_zero, ev_then_nx, ev_then_rt, ev_next, ev_pTup, ev_valsC, ev_vals0, ev_eL, ev_bm, ev_aug, pix_t, pix_l, pixq0, pixq1, atI_0, atI_1, atI_2, pp_ii, ps_ii, pa_ii, plt_ii, ple_ii, pgt_ii, pge_ii, peq_ii, pne_ii, pneg_i, List.length_cons, List.length_nil, Nat.reduceAdd, Nat.reduceSub, Nat.reduceLeDiff, sz, if_true, Bool.false_eq_true, if_false, Bool.not_true, Bool.not_false, leave_v, List.take_length, plen_t, plen_l, ptup_l, ptup_t, pint_i, pis_n, pis_i, pis_t, pisnt_n, pisnt_i, pisnt_t, Int.cast_ofNat_Int, ne_eq, not_true_eq_false, not_false_eq_true, decide_true, decide_false, check_sets_ok H, check_most_ok h1 h6, c1, c2, px, c3, p1, z]
  rfl
theorem whole_cut (H : Ss S) {env : Sl} (he : env[0]? = some (some (.val (encS S)))) : eCut (eAp pLenD (aCons (eAp m_covered (aCons (eVar 0) (aCons (eL (nRg1 (eAp pLen (aCons (eVar 0) aNil)))) aNil))) aNil)) env m = some (.val (.int ((cv S (List.range S.length) : Nat) : Int)), m) := by
  have h6 := H.s6
  have hi : ∀ i ∈ List.range S.length, i < S.length := fun i h => List.mem_range.mp h
  have c := covered_ok (m := m) (r := .val (.list (encI (List.range S.length)))) H hi (by rw [List.length_range]; omega) fun _ => rfl
  have l := len_covered (m := m) H hi
  have ev : eVar 0 env m = some (.val (encS S), m) := by
    unfold eVar
    rw [he]
  have rg : nRg1 (eAp pLen (aCons (eVar 0) aNil)) env m = some (encI (List.range S.length), m) := by
    unfold nRg1
    simp only [ev_asg, ev_par, ev_if, ev_ret, ev_retN, ev_expr, ev_bin, ev_un, ev_ap, ev_cons, ev_nil, ev_varS, ev_var0, ev_c, ob_some, ev_gNm, ev_tOf, ev_asB, ev_asI, ev_tNot, ev_tAnd, ev_tOr, ev_eOf, ev_eIf, ev_chain, List.set_cons_succ, List.set_cons_zero, ev_then_nx, ev_then_rt, ev_next, ev_pTup, ev_valsC, ev_vals0, ev_eL, ev_bm, ev_aug, pix_t, pix_l, pixq0, pixq1, atI_0, atI_1, atI_2, pp_ii, ps_ii, pa_ii, plt_ii, ple_ii, pgt_ii, pge_ii, peq_ii, pne_ii, pneg_i, List.length_cons, List.length_nil, Nat.reduceAdd, Nat.reduceSub, Nat.reduceLeDiff, sz, if_true, Bool.false_eq_true, if_false, Bool.not_true, Bool.not_false, leave_v, List.take_length, plen_t, plen_l, ptup_l, ptup_t, pint_i, pis_n, pis_i, pis_t, pisnt_n, pisnt_i, pisnt_t, Int.cast_ofNat_Int, ne_eq, not_true_eq_false, not_false_eq_true, decide_true, decide_false, ev, plen_t, List.length_map, rgOk0 (show S.length ≤ 1000000 by omega), Int.sub_zero, Int.toNat_natCast]
    rw [show rngD 0 S.length = encI (List.range S.length) by rw [List.range_eq_range']; exact rngD_nat 0 S.length]
  rw [ev_cut]
  simp only [ev_asg, ev_par, ev_if, ev_ret, ev_retN, ev_expr, ev_bin, ev_un, ev_ap, ev_cons, ev_nil, ev_varS, ev_var0, ev_c, ob_some, ev_gNm, ev_tOf, ev_asB, ev_asI, ev_tNot, ev_tAnd, ev_tOr, ev_eOf, ev_eIf, ev_chain, List.set_cons_succ, List.set_cons_zero, ev_then_nx, ev_then_rt, ev_next, ev_pTup, ev_valsC, ev_vals0, ev_eL, ev_bm, ev_aug, pix_t, pix_l, pixq0, pixq1, atI_0, atI_1, atI_2, pp_ii, ps_ii, pa_ii, plt_ii, ple_ii, pgt_ii, pge_ii, peq_ii, pne_ii, pneg_i, List.length_cons, List.length_nil, Nat.reduceAdd, Nat.reduceSub, Nat.reduceLeDiff, sz, if_true, Bool.false_eq_true, if_false, Bool.not_true, Bool.not_false, leave_v, List.take_length, plen_t, plen_l, ptup_l, ptup_t, pint_i, pis_n, pis_i, pis_t, pisnt_n, pisnt_i, pisnt_t, Int.cast_ofNat_Int, ne_eq, not_true_eq_false, not_false_eq_true, decide_true, decide_false, ev, rg, c, l, tk]
theorem fewest_ok (H : Ss S) : ∃ r, Few S r ∧ m_fewest_sets [.val (encS S)] m = some (.val (encT r), m) := by
  have s6 := H.s6
  have so := sets_of_ok (m := m) s6
  have l64 := len64 s6
  have w := whole_cut (m := m) H (env := [some (.val (encS S)), none, none, none]) rfl
  generalize hW : cv S (List.range S.length) = W at w
  have c1 : nComp (itAny (eAp m_sets_of (aCons (eAp pLen (aCons (eVar 0) aNil)) aNil))) (.nm 3) [3] t_fewest_sets2 e_fewest_sets1 [some (.val (encS S)), some (.val (.int (W : Int))), none, none] m = some (((subs S.length).filter fun t => decide (cv S t = W)).map fun t => encP (key t), m) :=
    comp_map encT (fun t => decide (cv S t = W)) (fun t => encP (key t)) (subs S.length) (by simp only [it_an, ev_asg, ev_par, ev_if, ev_ret, ev_retN, ev_expr, ev_bin, ev_un, ev_ap, ev_cons, ev_nil, ev_varS, ev_var0, ev_c, ob_some, ev_gNm, ev_tOf, ev_asB, ev_asI, ev_tNot, ev_tAnd, ev_tOr, ev_eOf, ev_eIf, ev_chain, List.set_cons_succ, List.set_cons_zero, ev_then_nx, ev_then_rt, ev_next, ev_pTup, ev_valsC, ev_vals0, ev_eL, ev_bm, ev_aug, pix_t, pix_l, pixq0, pixq1, atI_0, atI_1, atI_2, pp_ii, ps_ii, pa_ii, plt_ii, ple_ii, pgt_ii, pge_ii, peq_ii, pne_ii, pneg_i, List.length_cons, List.length_nil, Nat.reduceAdd, Nat.reduceSub, Nat.reduceLeDiff, sz, if_true, Bool.false_eq_true, if_false, Bool.not_true, Bool.not_false, leave_v, List.take_length, plen_t, plen_l, ptup_l, ptup_t, pint_i, pis_n, pis_i, pis_t, pisnt_n, pisnt_i, pisnt_t, Int.cast_ofNat_Int, ne_eq, not_true_eq_false, not_false_eq_true, decide_true, decide_false, plen_t, List.length_map, so, an1_l]) (by omega) fun t ht => ⟨_, rfl, by
      have c := cut_covered (m := m) H ht (f := eVar 3) (env := [some (.val (encS S)), some (.val (.int (W : Int))), none, some (.val (encT t))]) rfl (i := 0) rfl
      show t_fewest_sets2 [some (.val (encS S)), some (.val (.int (W : Int))), none, some (.val (encT t))] m = _
      simp only [t_fewest_sets2, ev_asg, ev_par, ev_if, ev_ret, ev_retN, ev_expr, ev_bin, ev_un, ev_ap, ev_cons, ev_nil, ev_varS, ev_var0, ev_c, ob_some, ev_gNm, ev_tOf, ev_asB, ev_asI, ev_tNot, ev_tAnd, ev_tOr, ev_eOf, ev_eIf, ev_chain, List.set_cons_succ, List.set_cons_zero, ev_then_nx, ev_then_rt, ev_next, ev_pTup, ev_valsC, ev_vals0, ev_eL, ev_bm, ev_aug, pix_t, pix_l, pixq0, pixq1, atI_0, atI_1, atI_2, pp_ii, ps_ii, pa_ii, plt_ii, ple_ii, pgt_ii, pge_ii, peq_ii, pne_ii, pneg_i, List.length_cons, List.length_nil, Nat.reduceAdd, Nat.reduceSub, Nat.reduceLeDiff, sz, if_true, Bool.false_eq_true, if_false, Bool.not_true, Bool.not_false, leave_v, List.take_length, plen_t, plen_l, ptup_l, ptup_t, pint_i, pis_n, pis_i, pis_t, pisnt_n, pisnt_i, pisnt_t, Int.cast_ofNat_Int, ne_eq, not_true_eq_false, not_false_eq_true, decide_true, decide_false, c, Int.ofNat_inj], fun _ => by
      have z : (0 + 1 + 1 : Nat) ≤ 16777216 := by decide
      show e_fewest_sets1 [some (.val (encS S)), some (.val (.int (W : Int))), none, some (.val (encT t))] m = _
      simp only [e_fewest_sets1, ev_asg, ev_par, ev_if, ev_ret, ev_retN, ev_expr, ev_bin, ev_un, ev_ap, ev_cons, ev_nil, ev_varS, ev_var0, ev_c, ob_some, ev_gNm, ev_tOf, ev_asB, ev_asI, ev_tNot, ev_tAnd, ev_tOr, ev_eOf, ev_eIf, ev_chain, List.set_cons_succ, List.set_cons_zero, ev_then_nx, ev_then_rt, ev_next, ev_pTup, ev_valsC, ev_vals0, ev_eL, ev_bm, ev_aug, pix_t, pix_l, pixq0, pixq1, atI_0, atI_1, atI_2, pp_ii, ps_ii, pa_ii, plt_ii, ple_ii, pgt_ii, pge_ii, peq_ii, pne_ii, pneg_i, List.length_cons, List.length_nil, Nat.reduceAdd, Nat.reduceSub, Nat.reduceLeDiff, sz, if_true, Bool.false_eq_true, if_false, Bool.not_true, Bool.not_false, leave_v, List.take_length, plen_t, plen_l, ptup_l, ptup_t, pint_i, pis_n, pis_i, pis_t, pisnt_n, pisnt_i, pisnt_t, Int.cast_ofNat_Int, ne_eq, not_true_eq_false, not_false_eq_true, decide_true, decide_false, plen_T, z]
      rfl⟩
  have hall : List.range S.length ∈ (subs S.length).filter fun t => decide (cv S t = W) := List.mem_filter.mpr ⟨subs_all _, decide_eq_true hW⟩
  have e1 : ((subs S.length).filter fun t => decide (cv S t = W)).map (fun t => encP (key t)) = (((subs S.length).filter fun t => decide (cv S t = W)).map key).map encP := by rw [List.map_map]; rfl
  obtain ⟨q, p1, p2, p3⟩ := pmin_P (l := ((subs S.length).filter fun t => decide (cv S t = W)).map key) (m := m) (fun z => by rw [List.map_eq_nil_iff.mp z] at hall; cases hall)
  obtain ⟨r, hr, rfl⟩ := List.mem_map.mp p2
  obtain ⟨r1, r2⟩ := List.mem_filter.mp hr
  refine ⟨r, ⟨r1, by rw [hW]; exact of_decide_eq_true r2, fun x hx he => p3 _ (List.mem_map.mpr ⟨x, List.mem_filter.mpr ⟨hx, decide_eq_true (by rw [he, hW])⟩, rfl⟩)⟩, ?_⟩
  simp only [m_fewest_sets, bodyF, List.length_cons, List.length_nil, Nat.reduceAdd, Nat.reduceSub, List.map_cons, List.map_nil, List.replicate, List.cons_append, List.nil_append, List.append_nil, b_fewest_sets, ev_seq, ev_asg, ev_par, ev_if, ev_ret, ev_retN, ev_expr, ev_bin, ev_un, ev_ap, ev_cons, ev_nil, ev_varS, ev_var0, ev_c, ob_some, ev_gNm, ev_tOf, ev_asB, ev_asI, ev_tNot, ev_tAnd, ev_tOr, ev_eOf, ev_eIf, ev_chain, List.set_cons_succ, List.set_cons_zero, ev_then_nx, ev_then_rt, ev_next, ev_pTup, ev_valsC, ev_vals0, ev_eL, ev_bm, ev_aug, pix_t, pix_l, pixq0, pixq1, atI_0, atI_1, atI_2, pp_ii, ps_ii, pa_ii, plt_ii, ple_ii, pgt_ii, pge_ii, peq_ii, pne_ii, pneg_i, List.length_cons, List.length_nil, Nat.reduceAdd, Nat.reduceSub, Nat.reduceLeDiff, sz, if_true, Bool.false_eq_true, if_false, Bool.not_true, Bool.not_false, leave_v, List.take_length, plen_t, plen_l, ptup_l, ptup_t, pint_i, pis_n, pis_i, pis_t, pisnt_n, pisnt_i, pisnt_t, Int.cast_ofNat_Int, ne_eq, not_true_eq_false, not_false_eq_true, decide_true, decide_false, check_sets_ok H, w, c1, e1, p1, pixP1]
  rfl
end
end L35

set_option Elab.async false
set_option linter.all false
set_option maxRecDepth 100000
set_option maxHeartbeats 0
namespace L35
open PySem PySem.Spec PyProof.Rows L2 Ev Cv
theorem clpL_sub {α : Type} {p : Pat} {tt : TF} {te : EF} {env : Sl} {enc : α → D} (I : M → Prop) : ∀ (l : List α) (m : M), I m → (∀ a ∈ l, ∀ m, I m → ∃ e b m', bindP p (enc a) env = some e ∧ tt e m = some (b, m') ∧ I m' ∧ te e m' = some (.val (enc a), m')) → ∃ (l' : List α) (m' : M), clpL p tt te env (l.map enc) m = some (l'.map enc, m') ∧ l'.Sublist l ∧ I m'
  | [], m, hI, _ => ⟨[], m, rfl, List.Sublist.refl _, hI⟩
  | a :: l, m, hI, h => by
    obtain ⟨e, b, m1, h1, h2, h3, h4⟩ := h a (by simp) m hI
    obtain ⟨l', m2, i1, i2, i3⟩ := clpL_sub (p := p) (tt := tt) (te := te) (env := env) (enc := enc) I l m1 h3 fun x hx => h x (List.mem_cons_of_mem _ hx)
    cases b with
    | false =>
      refine ⟨l', m2, ?_, i2.cons _, i3⟩
      rw [List.map_cons]
      unfold clpL
      simp only [h1, ob_some, h2, Bool.false_eq_true, if_false, i1]
    | true =>
      refine ⟨a :: l', m2, ?_, i2.cons_cons _, i3⟩
      rw [List.map_cons]
      unfold clpL
      simp only [h1, ob_some, h2, if_true, h4, asD0_val, i1, List.map_cons]
section
variable {m rest : M} {S : List (List Nat)} {k : Nat} {t : List Nat} {e0 e1 e2 e3 e4 e5 e6 e7 e8 e9 e10 e11 e12 e13 e14 e15 e16 e17 e18 : Option R}
def OkS (s : List Nat) : Prop := s.Pairwise (· < ·) ∧ ∀ x ∈ s, x < 8
theorem set_drawn (h : Bx rest m) : ∃ s m', e__law_covering3 [some (.ref 0), e1, e2, e3, e4, e5, e6, e7, e8, e9, e10, e11, e12, e13, e14, e15, none, e17, e18] m = some (.val (encT s), m') ∧ OkS s ∧ Bx rest m' := by
  have rg := rg1_nat (m := m) (n := 8) (by decide)
  obtain ⟨s, m', c, c2, c3⟩ := clpL_sub (p := .nm 16) (tt := t__law_covering2) (te := e__law_covering1) (env := [some (.ref 0), e1, e2, e3, e4, e5, e6, e7, e8, e9, e10, e11, e12, e13, e14, e15, none, e17, e18]) (enc := nI) (Bx rest) (List.range 8) m h fun a ha mm hB => by
    obtain ⟨d, m2, d1, d2, d3⟩ := drawN hB (k := 3) (by decide) (by decide)
    have d1' : m__law_draw [.ref 0, .val (.int 3)] mm = some (.val (.int (d : Int)), m2) := d1
    refine ⟨_, decide ((d : Int) = 0), m2, rfl, ?_, d3, rfl⟩
    show t__law_covering2 [some (.ref 0), e1, e2, e3, e4, e5, e6, e7, e8, e9, e10, e11, e12, e13, e14, e15, some (.val (.int (a : Int))), e17, e18] mm = _
    simp only [t__law_covering2, ev_asg, ev_par, ev_if, ev_ret, ev_retN, ev_expr, ev_bin, ev_un, ev_ap, ev_cons, ev_nil, ev_varS, ev_var0, ev_c, ob_some, ev_gNm, ev_tOf, ev_asB, ev_asI, ev_tNot, ev_tAnd, ev_tOr, ev_eOf, ev_eIf, ev_chain, List.set_cons_succ, List.set_cons_zero, ev_then_nx, ev_then_rt, ev_next, ev_pTup, ev_valsC, ev_vals0, ev_eL, ev_bm, ev_aug, pix_t, pix_l, pixq0, pixq1, atI_0, atI_1, atI_2, pp_ii, ps_ii, pa_ii, plt_ii, ple_ii, pgt_ii, pge_ii, peq_ii, pne_ii, pneg_i, List.length_cons, List.length_nil, Nat.reduceAdd, Nat.reduceSub, Nat.reduceLeDiff, sz, if_true, Bool.false_eq_true, if_false, Bool.not_true, Bool.not_false, leave_v, List.take_length, plen_t, plen_l, ptup_l, ptup_t, pint_i, pis_n, pis_i, pis_t, pisnt_n, pisnt_i, pisnt_t, Int.cast_ofNat_Int, ne_eq, not_true_eq_false, not_false_eq_true, decide_true, decide_false, d1']
  have cc : nComp (itRng1 (aCons (eC (.int 8)) aNil)) (.nm 16) [16] t__law_covering2 e__law_covering1 [some (.ref 0), e1, e2, e3, e4, e5, e6, e7, e8, e9, e10, e11, e12, e13, e14, e15, none, e17, e18] m = some (encI s, m') := by
    have rg' : rg1 [.val (.int 8)] m = iL ((List.range 8).map nI) m := rg
    rw [nComp_L (ds := (List.range 8).map nI) (m' := m) (by simp only [it_rg1, ev_asg, ev_par, ev_if, ev_ret, ev_retN, ev_expr, ev_bin, ev_un, ev_ap, ev_cons, ev_nil, ev_varS, ev_var0, ev_c, ob_some, ev_gNm, ev_tOf, ev_asB, ev_asI, ev_tNot, ev_tAnd, ev_tOr, ev_eOf, ev_eIf, ev_chain, List.set_cons_succ, List.set_cons_zero, ev_then_nx, ev_then_rt, ev_next, ev_pTup, ev_valsC, ev_vals0, ev_eL, ev_bm, ev_aug, pix_t, pix_l, pixq0, pixq1, atI_0, atI_1, atI_2, pp_ii, ps_ii, pa_ii, plt_ii, ple_ii, pgt_ii, pge_ii, peq_ii, pne_ii, pneg_i, List.length_cons, List.length_nil, Nat.reduceAdd, Nat.reduceSub, Nat.reduceLeDiff, sz, if_true, Bool.false_eq_true, if_false, Bool.not_true, Bool.not_false, leave_v, List.take_length, plen_t, plen_l, ptup_l, ptup_t, pint_i, pis_n, pis_i, pis_t, pisnt_n, pisnt_i, pisnt_t, Int.cast_ofNat_Int, ne_eq, not_true_eq_false, not_false_eq_true, decide_true, decide_false, rg']) (by simp)]
    exact c
  refine ⟨s, m', ?_, ⟨List.Pairwise.sublist c2 List.pairwise_lt_range, fun x hx => List.mem_range.mp (c2.subset hx)⟩, c3⟩
  simp only [e__law_covering3, ev_asg, ev_par, ev_if, ev_ret, ev_retN, ev_expr, ev_bin, ev_un, ev_ap, ev_cons, ev_nil, ev_varS, ev_var0, ev_c, ob_some, ev_gNm, ev_tOf, ev_asB, ev_asI, ev_tNot, ev_tAnd, ev_tOr, ev_eOf, ev_eIf, ev_chain, List.set_cons_succ, List.set_cons_zero, ev_then_nx, ev_then_rt, ev_next, ev_pTup, ev_valsC, ev_vals0, ev_eL, ev_bm, ev_aug, pix_t, pix_l, pixq0, pixq1, atI_0, atI_1, atI_2, pp_ii, ps_ii, pa_ii, plt_ii, ple_ii, pgt_ii, pge_ii, peq_ii, pne_ii, pneg_i, List.length_cons, List.length_nil, Nat.reduceAdd, Nat.reduceSub, Nat.reduceLeDiff, sz, if_true, Bool.false_eq_true, if_false, Bool.not_true, Bool.not_false, leave_v, List.take_length, plen_t, plen_l, ptup_l, ptup_t, pint_i, pis_n, pis_i, pis_t, pisnt_n, pisnt_i, pisnt_t, Int.cast_ofNat_Int, ne_eq, not_true_eq_false, not_false_eq_true, decide_true, decide_false, cc]
  rfl
theorem sets_drawn (h : Bx rest m) (k : Nat) : ∃ (S : List (List Nat)) (m' : M), clpL (.nm 18) tTrue e__law_covering3 [some (.ref 0), e1, e2, e3, e4, e5, e6, e7, e8, e9, e10, e11, e12, e13, e14, e15, none, e17, none] ((List.range k).map nI) m = some (S.map encT, m') ∧ S.length = k ∧ (∀ s ∈ S, OkS s) ∧ Bx rest m' := by
  obtain ⟨ds, m', h1, h2, h3, h5⟩ := clpL_inv (p := .nm 18) (te := e__law_covering3) (env := [some (.ref 0), e1, e2, e3, e4, e5, e6, e7, e8, e9, e10, e11, e12, e13, e14, e15, none, e17, none]) (Bx rest) (fun d => ∃ s, d = encT s ∧ OkS s) ((List.range k).map nI) m h fun d hd mm hB => by
    obtain ⟨s, m2, v1, v2, v3⟩ := set_drawn hB (e1 := e1) (e2 := e2) (e3 := e3) (e4 := e4) (e5 := e5) (e6 := e6) (e7 := e7) (e8 := e8) (e9 := e9) (e10 := e10) (e11 := e11) (e12 := e12) (e13 := e13) (e14 := e14) (e15 := e15) (e17 := e17) (e18 := some (.val d))
    exact ⟨_, encT s, m2, rfl, v1, ⟨s, rfl, v2⟩, v3⟩
  obtain ⟨S, rfl, hS⟩ := unmap h3
  rw [List.length_map, List.length_map, List.length_range] at h2
  exact ⟨S, m', h1, h2, hS, h5⟩
theorem grd_stop {t : List Nat} (h : mxl (gains 8 S (cov S t)) = 0) : ∀ n, grd 8 S n t = t
  | 0 => rfl
  | n + 1 => by unfold grd; rw [if_pos h]
/-- taken in turn -/
theorem c4_ok (H : Ss S) (h1 : 1 ≤ k) (h5 : k ≤ 5) : ∃ f4 f5, q__law_covering_4 [e0, some (.val (encS S)), some (.val (.int (k : Int))), some (.ref m.length), e4, e5, e6, e7, e8, e9, e10, e11, e12, e13, e14, e15, e16, e17, none] (m ++ [.lst []]) =
    some (.nx [e0, some (.val (encS S)), some (.val (.int (k : Int))), some (.ref m.length), f4, f5, e6, e7, e8, e9, e10, e11, e12, e13, e14, e15, e16, e17, none] (m ++ [.lst (encI (grd 8 S k []))])) ∧ ∀ i ∈ grd 8 S k [], i < S.length := by
  have hS : S ≠ [] := fun z => by have := H.s1; rw [z] at this; simp at this
  have s6 := H.s6
  have rg := rg1_nat (m := m ++ [.lst []]) (n := k) (by omega)
  have er : ((List.range k).map fun j : Nat => PyData.int j) = (List.range k).map nI := rfl
  obtain ⟨e', mm, h, f4, f5, t, rfl, rfl, ht, htl, hg⟩ := loop_inv (gf := gNm 4) (sf := l__law_covering5) nI (fun j env mm => ∃ f4 f5 t, env = [e0, some (.val (encS S)), some (.val (.int (k : Int))), some (.ref m.length), f4, f5, e6, e7, e8, e9, e10, e11, e12, e13, e14, e15, e16, e17, none] ∧ mm = m ++ [.lst (encI t)] ∧ (∀ i ∈ t, i < S.length) ∧ t.length ≤ j ∧ grd 8 S (k - j) t = grd 8 S k []) (List.range k)
    [e0, some (.val (encS S)), some (.val (.int (k : Int))), some (.ref m.length), e4, e5, e6, e7, e8, e9, e10, e11, e12, e13, e14, e15, e16, e17, none] (m ++ [.lst []]) ⟨e4, e5, [], rfl, rfl, fun i hi => (by cases hi), Nat.le_refl _, rfl⟩ fun j a hj env mm ⟨f4, f5, t, he, hm, ht, htl, hg⟩ => by
    subst he hm
    have hjk := (List.getElem?_eq_some_iff.mp hj).1
    rw [List.length_range] at hjk
    have gt : (m ++ [Ob.lst (encI t)])[m.length]? = some (.lst (encI t)) := getN
    have rs := rg1_nat (m := m ++ [.lst (encI t)]) (n := S.length) (by omega)
    have c1 : nComp (itRng1 (aCons (eAp pLen (aCons (eVar 1) aNil)) aNil)) (.nm 18) [18] tTrue e__law_covering4 [e0, some (.val (encS S)), some (.val (.int (k : Int))), some (.ref m.length), some (.val (.int (a : Int))), f5, e6, e7, e8, e9, e10, e11, e12, e13, e14, e15, e16, e17, none] (m ++ [.lst (encI t)]) = some (encI (gains 8 S (cov S t)), m ++ [.lst (encI t)]) := by
      have := comp_all (it := itRng1 (aCons (eAp pLen (aCons (eVar 1) aNil)) aNil)) (p := .nm 18) (vs := [18]) (te := e__law_covering4) (env := [e0, some (.val (encS S)), some (.val (.int (k : Int))), some (.ref m.length), some (.val (.int (a : Int))), f5, e6, e7, e8, e9, e10, e11, e12, e13, e14, e15, e16, e17, none]) (m := m ++ [.lst (encI t)]) nI (fun i => nI (gain 8 S (cov S t) i)) (List.range S.length) (by simp only [it_rg1, ev_asg, ev_par, ev_if, ev_ret, ev_retN, ev_expr, ev_bin, ev_un, ev_ap, ev_cons, ev_nil, ev_varS, ev_var0, ev_c, ob_some, ev_gNm, ev_tOf, ev_asB, ev_asI, ev_tNot, ev_tAnd, ev_tOr, ev_eOf, ev_eIf, ev_chain, List.set_cons_succ, List.set_cons_zero, ev_then_nx, ev_then_rt, ev_next, ev_pTup, ev_valsC, ev_vals0, ev_eL, ev_bm, ev_aug, pix_t, pix_l, pixq0, pixq1, atI_0, atI_1, atI_2, pp_ii, ps_ii, pa_ii, plt_ii, ple_ii, pgt_ii, pge_ii, peq_ii, pne_ii, pneg_i, List.length_cons, List.length_nil, Nat.reduceAdd, Nat.reduceSub, Nat.reduceLeDiff, sz, if_true, Bool.false_eq_true, if_false, Bool.not_true, Bool.not_false, leave_v, List.take_length, plen_t, plen_l, ptup_l, ptup_t, pint_i, pis_n, pis_i, pis_t, pisnt_n, pisnt_i, pisnt_t, Int.cast_ofNat_Int, ne_eq, not_true_eq_false, not_false_eq_true, decide_true, decide_false, plen_t, List.length_map, rs]) (by rw [List.length_range]; omega) fun i hi => ⟨_, rfl, by
        have hi' := List.mem_range.mp hi
        have ht2 : ∀ x ∈ t ++ [i], x < S.length := fun x hx => by
          rcases List.mem_append.mp hx with q | q
          · exact ht x q
          · rw [List.mem_singleton.mp q]; exact hi'
        have pl : pPlus (.ref m.length) (.val (.list [.int (i : Int)])) (m ++ [.lst (encI t)]) = some (.val (.list (encI (t ++ [i]))), m ++ [.lst (encI t)]) := by
          rw [pp_LL (asL_r gt) (ys := [.int (i : Int)]) rfl (by rw [encI_len]; simp; omega)]
          unfold encI
          simp
        have o1 := law_over_ok (m := m ++ [.lst (encI t)]) (r := .val (.list (encI (t ++ [i])))) H ht2 rfl
        have o2 := law_over_ok (m := m ++ [.lst (encI t)]) (r := .ref m.length) H ht (asLT_r gt)
        have cg : ((cnt 8 (cov S (t ++ [i])) : Nat) : Int) - ((cnt 8 (cov S t) : Nat) : Int) = ((gain 8 S (cov S t) i : Nat) : Int) := by
          have := cnt_add 8 S (cov S t) i
          rw [← cov_snoc] at this
          omega
        have z : (0 + 1 : Nat) ≤ 16777216 := by decide
        show e__law_covering4 [e0, some (.val (encS S)), some (.val (.int (k : Int))), some (.ref m.length), some (.val (.int (a : Int))), f5, e6, e7, e8, e9, e10, e11, e12, e13, e14, e15, e16, e17, some (.val (.int (i : Int)))] (m ++ [.lst (encI t)]) = _
        simp only [e__law_covering4, ev_asg, ev_par, ev_if, ev_ret, ev_retN, ev_expr, ev_bin, ev_un, ev_ap, ev_cons, ev_nil, ev_varS, ev_var0, ev_c, ob_some, ev_gNm, ev_tOf, ev_asB, ev_asI, ev_tNot, ev_tAnd, ev_tOr, ev_eOf, ev_eIf, ev_chain, List.set_cons_succ, List.set_cons_zero, ev_then_nx, ev_then_rt, ev_next, ev_pTup, ev_valsC, ev_vals0, ev_eL, ev_bm, ev_aug, pix_t, pix_l, pixq0, pixq1, atI_0, atI_1, atI_2, pp_ii, ps_ii, pa_ii, plt_ii, ple_ii, pgt_ii, pge_ii, peq_ii, pne_ii, pneg_i, List.length_cons, List.length_nil, Nat.reduceAdd, Nat.reduceSub, Nat.reduceLeDiff, sz, if_true, Bool.false_eq_true, if_false, Bool.not_true, Bool.not_false, leave_v, List.take_length, plen_t, plen_l, ptup_l, ptup_t, pint_i, pis_n, pis_i, pis_t, pisnt_n, pisnt_i, pisnt_t, Int.cast_ofNat_Int, ne_eq, not_true_eq_false, not_false_eq_true, decide_true, decide_false, ev_nLst, z, pl, o1, o2, cg]⟩
      rw [this]
      unfold gains encI
      rw [List.map_map]
      rfl
    have px : pMax [.val (.list (encI (gains 8 S (cov S t))))] (m ++ [.lst (encI t)]) = some (.val (.int ((mxl (gains 8 S (cov S t)) : Nat) : Int)), m ++ [.lst (encI t)]) := pmax_N rfl (gains_ne H _)
    obtain ⟨k', hk'⟩ : ∃ k', k - j = k' + 1 := ⟨k - j - 1, by omega⟩
    have hk2 : k - (j + 1) = k' := by omega
    by_cases h0 : mxl (gains 8 S (cov S t)) = 0
    · refine ⟨[e0, some (.val (encS S)), some (.val (.int (k : Int))), some (.ref m.length), some (.val (.int (a : Int))), f5, e6, e7, e8, e9, e10, e11, e12, e13, e14, e15, e16, e17, none], m ++ [.lst (encI t)], _, _, (by simp only [ev_gNm, List.set_cons_succ, List.set_cons_zero, nI]), ?_, some (.val (.int (a : Int))), some (.val (.list (encI (gains 8 S (cov S t))))), t, rfl, rfl, ht, by omega, ?_⟩
      · rw [h0] at px
        simp only [l__law_covering5, ev_seq, ev_asg, ev_par, ev_if, ev_ret, ev_retN, ev_expr, ev_bin, ev_un, ev_ap, ev_cons, ev_nil, ev_varS, ev_var0, ev_c, ob_some, ev_gNm, ev_tOf, ev_asB, ev_asI, ev_tNot, ev_tAnd, ev_tOr, ev_eOf, ev_eIf, ev_chain, List.set_cons_succ, List.set_cons_zero, ev_then_nx, ev_then_rt, ev_next, ev_pTup, ev_valsC, ev_vals0, ev_eL, ev_bm, ev_aug, pix_t, pix_l, pixq0, pixq1, atI_0, atI_1, atI_2, pp_ii, ps_ii, pa_ii, plt_ii, ple_ii, pgt_ii, pge_ii, peq_ii, pne_ii, pneg_i, List.length_cons, List.length_nil, Nat.reduceAdd, Nat.reduceSub, Nat.reduceLeDiff, sz, if_true, Bool.false_eq_true, if_false, Bool.not_true, Bool.not_false, leave_v, List.take_length, plen_t, plen_l, ptup_l, ptup_t, pint_i, pis_n, pis_i, pis_t, pisnt_n, pisnt_i, pisnt_t, Int.cast_ofNat_Int, ne_eq, not_true_eq_false, not_false_eq_true, decide_true, decide_false, c1, px, Int.ofNat_zero, Int.lt_irrefl]
      · exact (grd_stop h0 _).trans ((grd_stop h0 (k - j)).symm.trans hg)
    · obtain ⟨x1, x2⟩ := at_mx (N := 8) (c := cov S t) hS
      have mi := pidx_L (m := m ++ [.lst (encI t)]) (r := .val (.list (encI (gains 8 S (cov S t))))) (a := mxl (gains 8 S (cov S t))) (l := gains 8 S (cov S t)) rfl (mxl_mem (gains_ne H _))
      have h0' : (0 : Int) < ((mxl (gains 8 S (cov S t)) : Nat) : Int) := by omega
      have al : asL (.val (.list (encI (gains 8 S (cov S t))))) (m ++ [.lst (encI t)]) = some (encI (gains 8 S (cov S t))) := rfl
      have ap := papp_r (d := .int (((gains 8 S (cov S t)).idxOf (mxl (gains 8 S (cov S t))) : Nat) : Int)) gt (by rw [encI_len]; omega)
      rw [setN] at ap
      have ee : encI t ++ [PyData.int (((gains 8 S (cov S t)).idxOf (mxl (gains 8 S (cov S t))) : Nat) : Int)] = encI (t ++ [(gains 8 S (cov S t)).idxOf (mxl (gains 8 S (cov S t)))]) := by unfold encI; simp
      rw [ee] at ap
      refine ⟨[e0, some (.val (encS S)), some (.val (.int (k : Int))), some (.ref m.length), some (.val (.int (a : Int))), f5, e6, e7, e8, e9, e10, e11, e12, e13, e14, e15, e16, e17, none], m ++ [.lst (encI t)], _, _, (by simp only [ev_gNm, List.set_cons_succ, List.set_cons_zero, nI]), ?_, some (.val (.int (a : Int))), some (.val (.list (encI (gains 8 S (cov S t))))), t ++ [(gains 8 S (cov S t)).idxOf (mxl (gains 8 S (cov S t)))], rfl, rfl, fun i hi => ?_, by rw [List.length_append, List.length_singleton]; omega, ?_⟩
      · simp only [l__law_covering5, ev_seq, ev_asg, ev_par, ev_if, ev_ret, ev_retN, ev_expr, ev_bin, ev_un, ev_ap, ev_cons, ev_nil, ev_varS, ev_var0, ev_c, ob_some, ev_gNm, ev_tOf, ev_asB, ev_asI, ev_tNot, ev_tAnd, ev_tOr, ev_eOf, ev_eIf, ev_chain, List.set_cons_succ, List.set_cons_zero, ev_then_nx, ev_then_rt, ev_next, ev_pTup, ev_valsC, ev_vals0, ev_eL, ev_bm, ev_aug, pix_t, pix_l, pixq0, pixq1, atI_0, atI_1, atI_2, pp_ii, ps_ii, pa_ii, plt_ii, ple_ii, pgt_ii, pge_ii, peq_ii, pne_ii, pneg_i, List.length_cons, List.length_nil, Nat.reduceAdd, Nat.reduceSub, Nat.reduceLeDiff, sz, if_true, Bool.false_eq_true, if_false, Bool.not_true, Bool.not_false, leave_v, List.take_length, plen_t, plen_l, ptup_l, ptup_t, pint_i, pis_n, pis_i, pis_t, pisnt_n, pisnt_i, pisnt_t, Int.cast_ofNat_Int, ne_eq, not_true_eq_false, not_false_eq_true, decide_true, decide_false, c1, px, h0', al, mi, asL_r gt, ap]
      · rcases List.mem_append.mp hi with q | q
        · exact ht i q
        · rw [List.mem_singleton.mp q]; exact x1
      · refine Eq.trans ?_ hg
        rw [hk', hk2]
        conv => rhs; unfold grd
        rw [if_neg h0]
  rw [List.length_range, Nat.sub_self] at hg
  have g0 : grd 8 S 0 t = t := rfl
  rw [g0] at hg
  subst hg
  refine ⟨f4, f5, ?_, ht⟩
  simp only [q__law_covering_4, ev_for, it_rg1, ev_asg, ev_par, ev_if, ev_ret, ev_retN, ev_expr, ev_bin, ev_un, ev_ap, ev_cons, ev_nil, ev_varS, ev_var0, ev_c, ob_some, ev_gNm, ev_tOf, ev_asB, ev_asI, ev_tNot, ev_tAnd, ev_tOr, ev_eOf, ev_eIf, ev_chain, List.set_cons_succ, List.set_cons_zero, ev_then_nx, ev_then_rt, ev_next, ev_pTup, ev_valsC, ev_vals0, ev_eL, ev_bm, ev_aug, pix_t, pix_l, pixq0, pixq1, atI_0, atI_1, atI_2, pp_ii, ps_ii, pa_ii, plt_ii, ple_ii, pgt_ii, pge_ii, peq_ii, pne_ii, pneg_i, List.length_cons, List.length_nil, Nat.reduceAdd, Nat.reduceSub, Nat.reduceLeDiff, sz, if_true, Bool.false_eq_true, if_false, Bool.not_true, Bool.not_false, leave_v, List.take_length, plen_t, plen_l, ptup_l, ptup_t, pint_i, pis_n, pis_i, pis_t, pisnt_n, pisnt_i, pisnt_t, Int.cast_ofNat_Int, ne_eq, not_true_eq_false, not_false_eq_true, decide_true, decide_false, rg, er, run_iL, h]
end
end L35

set_option Elab.async false
set_option linter.all false
set_option maxRecDepth 100000
set_option maxHeartbeats 0
namespace L35
open PySem PySem.Spec PyProof.Rows L2 Ev Cv
section
variable {m : M} {S : List (List Nat)} {k j0 : Nat} {t : List Nat} {e0 e1 e2 e3 e4 e5 e6 e7 e8 e9 e10 e11 e12 e13 e14 e15 e16 e17 e18 : Option R}
theorem sh_T {l : List Nat} (h : ∀ a ∈ l, a < 100) (hl : l.length ≤ 1000) : Sh 90000 1 (encT l) := (Sh.tup (sh_encI fun a ha => by have := h a ha; omega)).up (by omega) (by decide)
theorem c5_ok (H : Ss S) (h1 : 1 ≤ k) (h5 : k ≤ 5) (ht : t = grd 8 S k []) (hi : ∀ i ∈ t, i < S.length) (hl : t.length ≤ 1000) (gt : m[j0]? = some (.lst (encI t))) : q__law_covering_5 [e0, some (.val (encS S)), some (.val (.int (k : Int))), some (.ref j0), e4, e5, e6, e7, e8, e9, e10, e11, e12, e13, e14, e15, e16, e17, e18] m =
    some (.nx [e0, some (.val (encS S)), some (.val (.int (k : Int))), some (.ref j0), e4, e5, e6, e7, e8, e9, e10, e11, e12, e13, e14, e15, e16, e17, e18] m) := by
  have g := greedily_ok (m := m) H h1 (by omega)
  rw [← ht] at g
  have p := ptup_r gt
  have e : PyData.tuple (encI t) = encT t := rfl
  rw [e] at p
  have s := sh_T (l := t) (fun a ha => by have := hi a ha; have := H.s6; omega) hl
  have z1 := s.repr (m := m) (by decide) (by decide)
  have z2 := pNe_shown (m := m) s.sm
  simp only [q__law_covering_5, ev_asg, ev_par, ev_if, ev_ret, ev_retN, ev_expr, ev_bin, ev_un, ev_ap, ev_cons, ev_nil, ev_varS, ev_var0, ev_c, ob_some, ev_gNm, ev_tOf, ev_asB, ev_asI, ev_tNot, ev_tAnd, ev_tOr, ev_eOf, ev_eIf, ev_chain, List.set_cons_succ, List.set_cons_zero, ev_then_nx, ev_then_rt, ev_next, ev_pTup, ev_valsC, ev_vals0, ev_eL, ev_bm, ev_aug, pix_t, pix_l, pixq0, pixq1, atI_0, atI_1, atI_2, pp_ii, ps_ii, pa_ii, plt_ii, ple_ii, pgt_ii, pge_ii, peq_ii, pne_ii, pneg_i, List.length_cons, List.length_nil, Nat.reduceAdd, Nat.reduceSub, Nat.reduceLeDiff, sz, if_true, Bool.false_eq_true, if_false, Bool.not_true, Bool.not_false, leave_v, List.take_length, plen_t, plen_l, ptup_l, ptup_t, pint_i, pis_n, pis_i, pis_t, pisnt_n, pisnt_i, pisnt_t, Int.cast_ofNat_Int, ne_eq, not_true_eq_false, not_false_eq_true, decide_true, decide_false, g, p, z1, z2]
abbrev sml (S : List (List Nat)) (k : Nat) : List (List Nat) := (sor S.length).filter fun r => decide (r.length ≤ k)
theorem mem_sml {x : List Nat} : x ∈ sml S k ↔ x ∈ subs S.length ∧ x.length ≤ k := by
  unfold sml
  rw [List.mem_filter, mem_sor, decide_eq_true_eq]
theorem sor_len (h : S.length ≤ 6) : (sor S.length).length ≤ 64 := by
  rw [(sor_perm _).length_eq]
  exact len64 h
theorem c6_ok (H : Ss S) : q__law_covering_6 [e0, some (.val (encS S)), some (.val (.int (k : Int))), e3, e4, e5, e6, e7, e8, e9, e10, e11, e12, e13, e14, e15, e16, none, e18] m =
    some (.nx [e0, some (.val (encS S)), some (.val (.int (k : Int))), e3, e4, e5, some (.val (.list ((sml S k).map encT))), e7, e8, e9, e10, e11, e12, e13, e14, e15, e16, none, e18] m) := by
  have ls := law_sets_ok (m := m) H.s6
  have sl := sor_len H.s6
  have c1 : nComp (itAny (eAp m__law_sets (aCons (eAp pLen (aCons (eVar 1) aNil)) aNil))) (.nm 17) [17] t__law_covering7 e__law_covering6 [e0, some (.val (encS S)), some (.val (.int (k : Int))), e3, e4, e5, e6, e7, e8, e9, e10, e11, e12, e13, e14, e15, e16, none, e18] m = some ((sml S k).map encT, m) :=
    comp_map encT (fun r => decide (r.length ≤ k)) encT (sor S.length) (by simp only [it_an, ev_asg, ev_par, ev_if, ev_ret, ev_retN, ev_expr, ev_bin, ev_un, ev_ap, ev_cons, ev_nil, ev_varS, ev_var0, ev_c, ob_some, ev_gNm, ev_tOf, ev_asB, ev_asI, ev_tNot, ev_tAnd, ev_tOr, ev_eOf, ev_eIf, ev_chain, List.set_cons_succ, List.set_cons_zero, ev_then_nx, ev_then_rt, ev_next, ev_pTup, ev_valsC, ev_vals0, ev_eL, ev_bm, ev_aug, pix_t, pix_l, pixq0, pixq1, atI_0, atI_1, atI_2, pp_ii, ps_ii, pa_ii, plt_ii, ple_ii, pgt_ii, pge_ii, peq_ii, pne_ii, pneg_i, List.length_cons, List.length_nil, Nat.reduceAdd, Nat.reduceSub, Nat.reduceLeDiff, sz, if_true, Bool.false_eq_true, if_false, Bool.not_true, Bool.not_false, leave_v, List.take_length, plen_t, plen_l, ptup_l, ptup_t, pint_i, pis_n, pis_i, pis_t, pisnt_n, pisnt_i, pisnt_t, Int.cast_ofNat_Int, ne_eq, not_true_eq_false, not_false_eq_true, decide_true, decide_false, plen_t, List.length_map, ls, an1_l]) (by omega) fun r hr => ⟨[e0, some (.val (encS S)), some (.val (.int (k : Int))), e3, e4, e5, e6, e7, e8, e9, e10, e11, e12, e13, e14, e15, e16, some (.val (encT r)), e18], rfl, by
      simp only [t__law_covering7, ev_asg, ev_par, ev_if, ev_ret, ev_retN, ev_expr, ev_bin, ev_un, ev_ap, ev_cons, ev_nil, ev_varS, ev_var0, ev_c, ob_some, ev_gNm, ev_tOf, ev_asB, ev_asI, ev_tNot, ev_tAnd, ev_tOr, ev_eOf, ev_eIf, ev_chain, List.set_cons_succ, List.set_cons_zero, ev_then_nx, ev_then_rt, ev_next, ev_pTup, ev_valsC, ev_vals0, ev_eL, ev_bm, ev_aug, pix_t, pix_l, pixq0, pixq1, atI_0, atI_1, atI_2, pp_ii, ps_ii, pa_ii, plt_ii, ple_ii, pgt_ii, pge_ii, peq_ii, pne_ii, pneg_i, List.length_cons, List.length_nil, Nat.reduceAdd, Nat.reduceSub, Nat.reduceLeDiff, sz, if_true, Bool.false_eq_true, if_false, Bool.not_true, Bool.not_false, leave_v, List.take_length, plen_t, plen_l, ptup_l, ptup_t, pint_i, pis_n, pis_i, pis_t, pisnt_n, pisnt_i, pisnt_t, Int.cast_ofNat_Int, ne_eq, not_true_eq_false, not_false_eq_true, decide_true, decide_false, plen_T, Int.ofNat_le], fun _ => rfl⟩
  simp only [q__law_covering_6, ev_asg, ev_par, ev_if, ev_ret, ev_retN, ev_expr, ev_bin, ev_un, ev_ap, ev_cons, ev_nil, ev_varS, ev_var0, ev_c, ob_some, ev_gNm, ev_tOf, ev_asB, ev_asI, ev_tNot, ev_tAnd, ev_tOr, ev_eOf, ev_eIf, ev_chain, List.set_cons_succ, List.set_cons_zero, ev_then_nx, ev_then_rt, ev_next, ev_pTup, ev_valsC, ev_vals0, ev_eL, ev_bm, ev_aug, pix_t, pix_l, pixq0, pixq1, atI_0, atI_1, atI_2, pp_ii, ps_ii, pa_ii, plt_ii, ple_ii, pgt_ii, pge_ii, peq_ii, pne_ii, pneg_i, List.length_cons, List.length_nil, Nat.reduceAdd, Nat.reduceSub, Nat.reduceLeDiff, sz, if_true, Bool.false_eq_true, if_false, Bool.not_true, Bool.not_false, leave_v, List.take_length, plen_t, plen_l, ptup_l, ptup_t, pint_i, pis_n, pis_i, pis_t, pisnt_n, pisnt_i, pisnt_t, Int.cast_ofNat_Int, ne_eq, not_true_eq_false, not_false_eq_true, decide_true, decide_false, c1]
theorem over_row (H : Ss S) {x : List Nat} (hx : x ∈ subs S.length) : m__law_over [.val (encS S), .val (encT x)] m = some (.val (.int ((cv S x : Nat) : Int)), m) := law_over_ok H (subs_lt hx) rfl
theorem sml_ne : (sml S k).map (cv S) ≠ [] := fun z => by
  have : [] ∈ sml S k := mem_sml.mpr ⟨subs_nil _, Nat.zero_le _⟩
  rw [List.map_eq_nil_iff.mp z] at this
  cases this
theorem c7_ok (H : Ss S) : q__law_covering_7 [e0, some (.val (encS S)), e2, e3, e4, e5, some (.val (.list ((sml S k).map encT))), e7, e8, e9, e10, e11, e12, e13, e14, e15, e16, none, e18] m =
    some (.nx [e0, some (.val (encS S)), e2, e3, e4, e5, some (.val (.list ((sml S k).map encT))), some (.val (.int ((mxl ((sml S k).map (cv S)) : Nat) : Int))), e8, e9, e10, e11, e12, e13, e14, e15, e16, none, e18] m) := by
  have hl : (sml S k).length ≤ 16777216 := Nat.le_trans (List.length_filter_le _ _) (Nat.le_trans (sor_len H.s6) (by decide))
  have c1 : nComp (itAny (eVar 6)) (.nm 17) [17] tTrue e__law_covering8 [e0, some (.val (encS S)), e2, e3, e4, e5, some (.val (.list ((sml S k).map encT))), e7, e8, e9, e10, e11, e12, e13, e14, e15, e16, none, e18] m = some ((sml S k).map fun x => nI (cv S x), m) :=
    comp_all encT (fun x => nI (cv S x)) (sml S k) rfl hl fun x hx => ⟨[e0, some (.val (encS S)), e2, e3, e4, e5, some (.val (.list ((sml S k).map encT))), e7, e8, e9, e10, e11, e12, e13, e14, e15, e16, some (.val (encT x)), e18], rfl, by
      simp only [e__law_covering8, ev_asg, ev_par, ev_if, ev_ret, ev_retN, ev_expr, ev_bin, ev_un, ev_ap, ev_cons, ev_nil, ev_varS, ev_var0, ev_c, ob_some, ev_gNm, ev_tOf, ev_asB, ev_asI, ev_tNot, ev_tAnd, ev_tOr, ev_eOf, ev_eIf, ev_chain, List.set_cons_succ, List.set_cons_zero, ev_then_nx, ev_then_rt, ev_next, ev_pTup, ev_valsC, ev_vals0, ev_eL, ev_bm, ev_aug, pix_t, pix_l, pixq0, pixq1, atI_0, atI_1, atI_2, pp_ii, ps_ii, pa_ii, plt_ii, ple_ii, pgt_ii, pge_ii, peq_ii, pne_ii, pneg_i, List.length_cons, List.length_nil, Nat.reduceAdd, Nat.reduceSub, Nat.reduceLeDiff, sz, if_true, Bool.false_eq_true, if_false, Bool.not_true, Bool.not_false, leave_v, List.take_length, plen_t, plen_l, ptup_l, ptup_t, pint_i, pis_n, pis_i, pis_t, pisnt_n, pisnt_i, pisnt_t, Int.cast_ofNat_Int, ne_eq, not_true_eq_false, not_false_eq_true, decide_true, decide_false, over_row H (mem_sml.mp hx).1]⟩
  have ee : ((sml S k).map fun x => nI (cv S x)) = encI ((sml S k).map (cv S)) := by unfold encI; rw [List.map_map]; rfl
  rw [ee] at c1
  have px : pMax [.val (.list (encI ((sml S k).map (cv S))))] m = some (.val (.int ((mxl ((sml S k).map (cv S)) : Nat) : Int)), m) := pmax_N rfl sml_ne
  simp only [q__law_covering_7, ev_asg, ev_par, ev_if, ev_ret, ev_retN, ev_expr, ev_bin, ev_un, ev_ap, ev_cons, ev_nil, ev_varS, ev_var0, ev_c, ob_some, ev_gNm, ev_tOf, ev_asB, ev_asI, ev_tNot, ev_tAnd, ev_tOr, ev_eOf, ev_eIf, ev_chain, List.set_cons_succ, List.set_cons_zero, ev_then_nx, ev_then_rt, ev_next, ev_pTup, ev_valsC, ev_vals0, ev_eL, ev_bm, ev_aug, pix_t, pix_l, pixq0, pixq1, atI_0, atI_1, atI_2, pp_ii, ps_ii, pa_ii, plt_ii, ple_ii, pgt_ii, pge_ii, peq_ii, pne_ii, pneg_i, List.length_cons, List.length_nil, Nat.reduceAdd, Nat.reduceSub, Nat.reduceLeDiff, sz, if_true, Bool.false_eq_true, if_false, Bool.not_true, Bool.not_false, leave_v, List.take_length, plen_t, plen_l, ptup_l, ptup_t, pint_i, pis_n, pis_i, pis_t, pisnt_n, pisnt_i, pisnt_t, Int.cast_ofNat_Int, ne_eq, not_true_eq_false, not_false_eq_true, decide_true, decide_false, c1, px]
theorem c8_ok (H : Ss S) (h1 : 1 ≤ k) (h5 : k ≤ 5) : ∃ top r, Top S k top r ∧ mxl ((sml S k).map (cv S)) = top ∧ q__law_covering_8 [e0, some (.val (encS S)), some (.val (.int (k : Int))), e3, e4, e5, some (.val (.list ((sml S k).map encT))), some (.val (.int (top : Int))), e8, e9, e10, e11, e12, e13, e14, e15, e16, none, e18] m =
    some (.nx [e0, some (.val (encS S)), some (.val (.int (k : Int))), e3, e4, e5, some (.val (.list ((sml S k).map encT))), some (.val (.int (top : Int))), e8, e9, e10, e11, e12, e13, e14, e15, e16, none, e18] m) := by
  obtain ⟨top, r, T, mo⟩ := most_ok (m := m) H h1 (by omega)
  have hl : (sml S k).length ≤ 16777216 := Nat.le_trans (List.length_filter_le _ _) (Nat.le_trans (sor_len H.s6) (by decide))
  have hT : mxl ((sml S k).map (cv S)) = top := by
    obtain ⟨q, hq, eq⟩ := List.mem_map.mp (mxl_mem (sml_ne (S := S) (k := k)))
    obtain ⟨q1, q2⟩ := mem_sml.mp hq
    have a1 := T.le q q1 q2
    have a2 := le_mxl (List.mem_map.mpr ⟨r, mem_sml.mpr ⟨T.mem, T.len⟩, rfl⟩ : cv S r ∈ (sml S k).map (cv S))
    rw [T.cnt] at a2
    omega
  have c1 : nComp (itAny (eVar 6)) (.nm 17) [17] t__law_covering10 e__law_covering9 [e0, some (.val (encS S)), some (.val (.int (k : Int))), e3, e4, e5, some (.val (.list ((sml S k).map encT))), some (.val (.int (top : Int))), e8, e9, e10, e11, e12, e13, e14, e15, e16, none, e18] m = some (((sml S k).filter fun x => decide (cv S x = top)).map encT, m) :=
    comp_map encT (fun x => decide (cv S x = top)) encT (sml S k) rfl hl fun x hx => ⟨[e0, some (.val (encS S)), some (.val (.int (k : Int))), e3, e4, e5, some (.val (.list ((sml S k).map encT))), some (.val (.int (top : Int))), e8, e9, e10, e11, e12, e13, e14, e15, e16, some (.val (encT x)), e18], rfl, by
      simp only [t__law_covering10, ev_asg, ev_par, ev_if, ev_ret, ev_retN, ev_expr, ev_bin, ev_un, ev_ap, ev_cons, ev_nil, ev_varS, ev_var0, ev_c, ob_some, ev_gNm, ev_tOf, ev_asB, ev_asI, ev_tNot, ev_tAnd, ev_tOr, ev_eOf, ev_eIf, ev_chain, List.set_cons_succ, List.set_cons_zero, ev_then_nx, ev_then_rt, ev_next, ev_pTup, ev_valsC, ev_vals0, ev_eL, ev_bm, ev_aug, pix_t, pix_l, pixq0, pixq1, atI_0, atI_1, atI_2, pp_ii, ps_ii, pa_ii, plt_ii, ple_ii, pgt_ii, pge_ii, peq_ii, pne_ii, pneg_i, List.length_cons, List.length_nil, Nat.reduceAdd, Nat.reduceSub, Nat.reduceLeDiff, sz, if_true, Bool.false_eq_true, if_false, Bool.not_true, Bool.not_false, leave_v, List.take_length, plen_t, plen_l, ptup_l, ptup_t, pint_i, pis_n, pis_i, pis_t, pisnt_n, pisnt_i, pisnt_t, Int.cast_ofNat_Int, ne_eq, not_true_eq_false, not_false_eq_true, decide_true, decide_false, over_row H (mem_sml.mp hx).1, Int.ofNat_inj], fun _ => rfl⟩
  have hr : r ∈ (sml S k).filter fun x => decide (cv S x = top) := List.mem_filter.mpr ⟨mem_sml.mpr ⟨T.mem, T.len⟩, decide_eq_true T.cnt⟩
  obtain ⟨r2, p1, p2, p3⟩ := pmin_T (l := (sml S k).filter fun x => decide (cv S x = top)) (m := m) (fun z => by rw [z] at hr; cases hr)
  obtain ⟨b1, b2⟩ := List.mem_filter.mp p2
  obtain ⟨b3, b4⟩ := mem_sml.mp b1
  have T2 : Top S k top r2 := ⟨b3, b4, of_decide_eq_true b2, T.le, fun x hx hk he => p3 x (List.mem_filter.mpr ⟨mem_sml.mpr ⟨hx, hk⟩, decide_eq_true he⟩)⟩
  obtain ⟨_, e⟩ := T.uniq T2
  subst e
  refine ⟨top, r, T, hT, ?_⟩
  have tl : top ≤ 8 := by rw [← T.cnt]; exact cnt_le _
  have s := sh_P (p := (top, r)) (by simp only; omega) (fun a ha => by have := subs_lt T.mem a ha; have := H.s6; omega) (by have := subs_row T.mem; have := H.s6; simp only; omega)
  have z1 := s.repr (m := m) (by decide) (by decide)
  have z2 := pNe_shown (m := m) s.sm
  have z : (0 + 1 + 1 : Nat) ≤ 16777216 := by decide
  have e2 : PyData.tuple [.int (top : Int), encT r] = encP (top, r) := rfl
  simp only [q__law_covering_8, ev_asg, ev_par, ev_if, ev_ret, ev_retN, ev_expr, ev_bin, ev_un, ev_ap, ev_cons, ev_nil, ev_varS, ev_var0, ev_c, ob_some, ev_gNm, ev_tOf, ev_asB, ev_asI, ev_tNot, ev_tAnd, ev_tOr, ev_eOf, ev_eIf, ev_chain, List.set_cons_succ, List.set_cons_zero, ev_then_nx, ev_then_rt, ev_next, ev_pTup, ev_valsC, ev_vals0, ev_eL, ev_bm, ev_aug, pix_t, pix_l, pixq0, pixq1, atI_0, atI_1, atI_2, pp_ii, ps_ii, pa_ii, plt_ii, ple_ii, pgt_ii, pge_ii, peq_ii, pne_ii, pneg_i, List.length_cons, List.length_nil, Nat.reduceAdd, Nat.reduceSub, Nat.reduceLeDiff, sz, if_true, Bool.false_eq_true, if_false, Bool.not_true, Bool.not_false, leave_v, List.take_length, plen_t, plen_l, ptup_l, ptup_t, pint_i, pis_n, pis_i, pis_t, pisnt_n, pisnt_i, pisnt_t, Int.cast_ofNat_Int, ne_eq, not_true_eq_false, not_false_eq_true, decide_true, decide_false, mo, c1, p1, z, e2, z1, z2]
theorem c10_ok (h1 : 1 ≤ k) (h5 : k ≤ 5) : ∃ f10, q__law_covering_10 [e0, e1, some (.val (.int (k : Int))), e3, e4, e5, e6, e7, some (.val (.int 1)), some (.val (.int 1)), e10, e11, e12, e13, e14, e15, e16, e17, e18] m =
    some (.nx [e0, e1, some (.val (.int (k : Int))), e3, e4, e5, e6, e7, some (.val (.int ((k ^ k : Nat) : Int))), some (.val (.int (((k - 1) ^ k : Nat) : Int))), f10, e11, e12, e13, e14, e15, e16, e17, e18] m) := by
  have rg := rg1_nat (m := m) (n := k) (by omega)
  have er : ((List.range k).map fun j : Nat => PyData.int j) = (List.range k).map nI := rfl
  obtain ⟨e', mm, h, f10, rfl, rfl⟩ := loop_inv (gf := gNm 10) (sf := l__law_covering11) nI (fun j env mm => ∃ f10, env = [e0, e1, some (.val (.int (k : Int))), e3, e4, e5, e6, e7, some (.val (.int ((k ^ j : Nat) : Int))), some (.val (.int (((k - 1) ^ j : Nat) : Int))), f10, e11, e12, e13, e14, e15, e16, e17, e18] ∧ mm = m) (List.range k)
    [e0, e1, some (.val (.int (k : Int))), e3, e4, e5, e6, e7, some (.val (.int 1)), some (.val (.int 1)), e10, e11, e12, e13, e14, e15, e16, e17, e18] m ⟨e10, by simp, rfl⟩ fun j a hj env mm ⟨f10, he, hm⟩ => by
    subst he hm
    have hjk := (List.getElem?_eq_some_iff.mp hj).1
    rw [List.length_range] at hjk
    have b1 : k ^ j ≤ 5 ^ 5 := Nat.le_trans (Nat.pow_le_pow_left h5 j) (Nat.pow_le_pow_right (by decide) (by omega))
    have b2 : (k - 1) ^ j ≤ 5 ^ 5 := Nat.le_trans (Nat.pow_le_pow_left (by omega) j) (Nat.pow_le_pow_right (by decide) (by omega))
    have b3 : (5 : Nat) ^ 5 = 3125 := by decide
    have p1 := pmN (m := mm) (a := k ^ j) (b := k) (by omega) (by omega)
    have p2 := pmN (m := mm) (a := (k - 1) ^ j) (b := k - 1) (by omega) (by omega)
    have ek : (k : Int) - 1 = ((k - 1 : Nat) : Int) := by omega
    rw [← Nat.pow_succ] at p1 p2
    refine ⟨[e0, e1, some (.val (.int (k : Int))), e3, e4, e5, e6, e7, some (.val (.int ((k ^ j : Nat) : Int))), some (.val (.int (((k - 1) ^ j : Nat) : Int))), some (.val (.int (a : Int))), e11, e12, e13, e14, e15, e16, e17, e18], mm, _, _, (by simp only [ev_gNm, List.set_cons_succ, List.set_cons_zero, nI]), ?_, some (.val (.int (a : Int))), rfl, rfl⟩
    simp only [l__law_covering11, ev_asg, ev_par, ev_if, ev_ret, ev_retN, ev_expr, ev_bin, ev_un, ev_ap, ev_cons, ev_nil, ev_varS, ev_var0, ev_c, ob_some, ev_gNm, ev_tOf, ev_asB, ev_asI, ev_tNot, ev_tAnd, ev_tOr, ev_eOf, ev_eIf, ev_chain, List.set_cons_succ, List.set_cons_zero, ev_then_nx, ev_then_rt, ev_next, ev_pTup, ev_valsC, ev_vals0, ev_eL, ev_bm, ev_aug, pix_t, pix_l, pixq0, pixq1, atI_0, atI_1, atI_2, pp_ii, ps_ii, pa_ii, plt_ii, ple_ii, pgt_ii, pge_ii, peq_ii, pne_ii, pneg_i, List.length_cons, List.length_nil, Nat.reduceAdd, Nat.reduceSub, Nat.reduceLeDiff, sz, if_true, Bool.false_eq_true, if_false, Bool.not_true, Bool.not_false, leave_v, List.take_length, plen_t, plen_l, ptup_l, ptup_t, pint_i, pis_n, pis_i, pis_t, pisnt_n, pisnt_i, pisnt_t, Int.cast_ofNat_Int, ne_eq, not_true_eq_false, not_false_eq_true, decide_true, decide_false, p1, ek, p2]
  rw [List.length_range] at h
  exact ⟨f10, by simp only [q__law_covering_10, ev_for, it_rg1, ev_asg, ev_par, ev_if, ev_ret, ev_retN, ev_expr, ev_bin, ev_un, ev_ap, ev_cons, ev_nil, ev_varS, ev_var0, ev_c, ob_some, ev_gNm, ev_tOf, ev_asB, ev_asI, ev_tNot, ev_tAnd, ev_tOr, ev_eOf, ev_eIf, ev_chain, List.set_cons_succ, List.set_cons_zero, ev_then_nx, ev_then_rt, ev_next, ev_pTup, ev_valsC, ev_vals0, ev_eL, ev_bm, ev_aug, pix_t, pix_l, pixq0, pixq1, atI_0, atI_1, atI_2, pp_ii, ps_ii, pa_ii, plt_ii, ple_ii, pgt_ii, pge_ii, peq_ii, pne_ii, pneg_i, List.length_cons, List.length_nil, Nat.reduceAdd, Nat.reduceSub, Nat.reduceLeDiff, sz, if_true, Bool.false_eq_true, if_false, Bool.not_true, Bool.not_false, leave_v, List.take_length, plen_t, plen_l, ptup_l, ptup_t, pint_i, pis_n, pis_i, pis_t, pisnt_n, pisnt_i, pisnt_t, Int.cast_ofNat_Int, ne_eq, not_true_eq_false, not_false_eq_true, decide_true, decide_false, rg, er, run_iL, h]⟩
theorem c11_ok (H : Ss S) (h1 : 1 ≤ k) (h5 : k ≤ 5) {top : Nat} {r : List Nat} (T : Top S k top r) (ht : t = grd 8 S k []) (hi : ∀ i ∈ t, i < S.length) (gt : m[j0]? = some (.lst (encI t))) : q__law_covering_11 [e0, some (.val (encS S)), e2, some (.ref j0), e4, e5, e6, some (.val (.int (top : Int))), some (.val (.int ((k ^ k : Nat) : Int))), some (.val (.int (((k - 1) ^ k : Nat) : Int))), e10, e11, e12, e13, e14, e15, e16, e17, e18] m =
    some (.nx [e0, some (.val (encS S)), e2, some (.ref j0), e4, e5, e6, some (.val (.int (top : Int))), some (.val (.int ((k ^ k : Nat) : Int))), some (.val (.int (((k - 1) ^ k : Nat) : Int))), e10, e11, e12, e13, e14, e15, e16, e17, e18] m) := by
  have hS : S ≠ [] := fun z => by have := H.s1; rw [z] at this; simp at this
  have o := law_over_ok (m := m) (r := .ref j0) H hi (asLT_r gt)
  have u8 : cv S t ≤ 8 := cnt_le _
  have t8 : top ≤ 8 := by rw [← T.cnt]; exact cnt_le _
  have b1 : k ^ k ≤ 5 ^ 5 := Nat.le_trans (Nat.pow_le_pow_left h5 k) (Nat.pow_le_pow_right (by decide) (by omega))
  have b2 : (k - 1) ^ k ≤ k ^ k := Nat.pow_le_pow_left (by omega) k
  have b3 : (5 : Nat) ^ 5 = 3125 := by decide
  have gb := grd_bound (N := 8) (S := S) (O := r) (k := k) hS h1 T.len (subs_lt T.mem) k []
  have nil0 : Cv.cnt 8 (cov S []) = 0 := by
    unfold Cv.cnt
    rw [List.countP_eq_zero]
    intro x _
    simp [cov]
  rw [nil0, ← ht] at gb
  have hc : Cv.cnt 8 (cov S r) = top := T.cnt
  have main : ¬ (((cv S t : Nat) : Int) * ((k ^ k : Nat) : Int) < (((k ^ k : Nat) : Int) - (((k - 1) ^ k : Nat) : Int)) * (top : Int)) := by
    rw [Int.not_lt, Int.sub_mul]
    have ek : ((k - 1 : Nat) : Int) = (k : Int) - 1 := by omega
    have p1 : ((k ^ k : Nat) : Int) = (k : Int) ^ k := by push_cast; rfl
    have p2 : (((k - 1) ^ k : Nat) : Int) = ((k : Int) - 1) ^ k := by rw [← ek]; push_cast; rfl
    have q1 : (0 : Int) ≤ ((k ^ k : Nat) : Int) := by omega
    have q2 : (0 : Int) ≤ (((k - 1) ^ k : Nat) : Int) * (top : Int) := Int.mul_nonneg (by omega) (by omega)
    rcases gb with g | g
    · rw [hc, ← p1, ← p2] at g
      rw [Int.mul_sub] at g
      rw [Int.mul_comm ((cv S t : Nat) : Int)]
      simp only [Int.ofNat_zero, Int.sub_zero] at g
      have : ((Cv.cnt 8 (cov S t) : Nat) : Int) = ((cv S t : Nat) : Int) := rfl
      rw [this] at g
      omega
    · rw [hc] at g
      have := Int.mul_le_mul_of_nonneg_left (show (top : Int) ≤ ((cv S t : Nat) : Int) by exact_mod_cast g) q1
      rw [Int.mul_comm ((cv S t : Nat) : Int)]
      omega
  have p1 : pMul (.val (.int ((cv S t : Nat) : Int))) (.val (.int ((k ^ k : Nat) : Int))) m = some (.val (.int (((cv S t : Nat) : Int) * ((k ^ k : Nat) : Int))), m) := pm_ii (by omega) (by omega)
  have p2 : pMul (.val (.int (((k ^ k : Nat) : Int) - (((k - 1) ^ k : Nat) : Int)))) (.val (.int (top : Int))) m = some (.val (.int ((((k ^ k : Nat) : Int) - (((k - 1) ^ k : Nat) : Int)) * (top : Int))), m) := pm_ii (by omega) (by omega)
  simp only [q__law_covering_11, ev_asg, ev_par, ev_if, ev_ret, ev_retN, ev_expr, ev_bin, ev_un, ev_ap, ev_cons, ev_nil, ev_varS, ev_var0, ev_c, ob_some, ev_gNm, ev_tOf, ev_asB, ev_asI, ev_tNot, ev_tAnd, ev_tOr, ev_eOf, ev_eIf, ev_chain, List.set_cons_succ, List.set_cons_zero, ev_then_nx, ev_then_rt, ev_next, ev_pTup, ev_valsC, ev_vals0, ev_eL, ev_bm, ev_aug, pix_t, pix_l, pixq0, pixq1, atI_0, atI_1, atI_2, pp_ii, ps_ii, pa_ii, plt_ii, ple_ii, pgt_ii, pge_ii, peq_ii, pne_ii, pneg_i, List.length_cons, List.length_nil, Nat.reduceAdd, Nat.reduceSub, Nat.reduceLeDiff, sz, if_true, Bool.false_eq_true, if_false, Bool.not_true, Bool.not_false, leave_v, List.take_length, plen_t, plen_l, ptup_l, ptup_t, pint_i, pis_n, pis_i, pis_t, pisnt_n, pisnt_i, pisnt_t, Int.cast_ofNat_Int, ne_eq, not_true_eq_false, not_false_eq_true, decide_true, decide_false, o, p1, p2, main]
theorem c12_ok (H : Ss S) : q__law_covering_12 [e0, some (.val (encS S)), e2, e3, e4, e5, e6, e7, e8, e9, e10, e11, e12, e13, e14, e15, e16, e17, e18] m =
    some (.nx [e0, some (.val (encS S)), e2, e3, e4, e5, e6, e7, e8, e9, e10, some (.val (.int ((cv S (List.range S.length) : Nat) : Int))), e12, e13, e14, e15, e16, e17, e18] m) := by
  have h6 := H.s6
  have rg : nRg1 (eAp pLen (aCons (eVar 1) aNil)) [e0, some (.val (encS S)), e2, e3, e4, e5, e6, e7, e8, e9, e10, e11, e12, e13, e14, e15, e16, e17, e18] m = some (encI (List.range S.length), m) := by
    unfold nRg1
    simp only [ev_asg, ev_par, ev_if, ev_ret, ev_retN, ev_expr, ev_bin, ev_un, ev_ap, ev_cons, ev_nil, ev_varS, ev_var0, ev_c, ob_some, ev_gNm, ev_tOf, ev_asB, ev_asI, ev_tNot, ev_tAnd, ev_tOr, ev_eOf, ev_eIf, ev_chain, List.set_cons_succ, List.set_cons_zero, ev_then_nx, ev_then_rt, ev_next, ev_pTup, ev_valsC, ev_vals0, ev_eL, ev_bm, ev_aug, pix_t, pix_l, pixq0, pixq1, atI_0, atI_1, atI_2, pp_ii, ps_ii, pa_ii, plt_ii, ple_ii, pgt_ii, pge_ii, peq_ii, pne_ii, pneg_i, List.length_cons, List.length_nil, Nat.reduceAdd, Nat.reduceSub, Nat.reduceLeDiff, sz, if_true, Bool.false_eq_true, if_false, Bool.not_true, Bool.not_false, leave_v, List.take_length, plen_t, plen_l, ptup_l, ptup_t, pint_i, pis_n, pis_i, pis_t, pisnt_n, pisnt_i, pisnt_t, Int.cast_ofNat_Int, ne_eq, not_true_eq_false, not_false_eq_true, decide_true, decide_false, plen_t, List.length_map, rgOk0 (show S.length ≤ 1000000 by omega), Int.sub_zero, Int.toNat_natCast]
    rw [show rngD 0 S.length = encI (List.range S.length) by rw [List.range_eq_range']; exact rngD_nat 0 S.length]
  have o := law_over_ok (m := m) (r := .val (.list (encI (List.range S.length)))) (t := List.range S.length) H (fun i h => List.mem_range.mp h) rfl
  simp only [q__law_covering_12, ev_asg, ev_par, ev_if, ev_ret, ev_retN, ev_expr, ev_bin, ev_un, ev_ap, ev_cons, ev_nil, ev_varS, ev_var0, ev_c, ob_some, ev_gNm, ev_tOf, ev_asB, ev_asI, ev_tNot, ev_tAnd, ev_tOr, ev_eOf, ev_eIf, ev_chain, List.set_cons_succ, List.set_cons_zero, ev_then_nx, ev_then_rt, ev_next, ev_pTup, ev_valsC, ev_vals0, ev_eL, ev_bm, ev_aug, pix_t, pix_l, pixq0, pixq1, atI_0, atI_1, atI_2, pp_ii, ps_ii, pa_ii, plt_ii, ple_ii, pgt_ii, pge_ii, peq_ii, pne_ii, pneg_i, List.length_cons, List.length_nil, Nat.reduceAdd, Nat.reduceSub, Nat.reduceLeDiff, sz, if_true, Bool.false_eq_true, if_false, Bool.not_true, Bool.not_false, leave_v, List.take_length, plen_t, plen_l, ptup_l, ptup_t, pint_i, pis_n, pis_i, pis_t, pisnt_n, pisnt_i, pisnt_t, Int.cast_ofNat_Int, ne_eq, not_true_eq_false, not_false_eq_true, decide_true, decide_false, rg, o]
theorem c13_ok (H : Ss S) : ∃ d, Few S d ∧ q__law_covering_13 [e0, some (.val (encS S)), e2, e3, e4, e5, e6, e7, e8, e9, e10, some (.val (.int ((cv S (List.range S.length) : Nat) : Int))), e12, e13, e14, e15, e16, none, e18] m =
    some (.nx [e0, some (.val (encS S)), e2, e3, e4, e5, e6, e7, e8, e9, e10, some (.val (.int ((cv S (List.range S.length) : Nat) : Int))), some (.val (encT d)), e13, e14, e15, e16, none, e18] m) := by
  have ls := law_sets_ok (m := m) H.s6
  have sl := sor_len H.s6
  generalize hW : cv S (List.range S.length) = W
  have c1 : nComp (itAny (eAp m__law_sets (aCons (eAp pLen (aCons (eVar 1) aNil)) aNil))) (.nm 17) [17] t__law_covering13 e__law_covering12 [e0, some (.val (encS S)), e2, e3, e4, e5, e6, e7, e8, e9, e10, some (.val (.int (W : Int))), e12, e13, e14, e15, e16, none, e18] m = some (((sor S.length).filter fun x => decide (cv S x = W)).map encT, m) :=
    comp_map encT (fun x => decide (cv S x = W)) encT (sor S.length) (by simp only [it_an, ev_asg, ev_par, ev_if, ev_ret, ev_retN, ev_expr, ev_bin, ev_un, ev_ap, ev_cons, ev_nil, ev_varS, ev_var0, ev_c, ob_some, ev_gNm, ev_tOf, ev_asB, ev_asI, ev_tNot, ev_tAnd, ev_tOr, ev_eOf, ev_eIf, ev_chain, List.set_cons_succ, List.set_cons_zero, ev_then_nx, ev_then_rt, ev_next, ev_pTup, ev_valsC, ev_vals0, ev_eL, ev_bm, ev_aug, pix_t, pix_l, pixq0, pixq1, atI_0, atI_1, atI_2, pp_ii, ps_ii, pa_ii, plt_ii, ple_ii, pgt_ii, pge_ii, peq_ii, pne_ii, pneg_i, List.length_cons, List.length_nil, Nat.reduceAdd, Nat.reduceSub, Nat.reduceLeDiff, sz, if_true, Bool.false_eq_true, if_false, Bool.not_true, Bool.not_false, leave_v, List.take_length, plen_t, plen_l, ptup_l, ptup_t, pint_i, pis_n, pis_i, pis_t, pisnt_n, pisnt_i, pisnt_t, Int.cast_ofNat_Int, ne_eq, not_true_eq_false, not_false_eq_true, decide_true, decide_false, plen_t, List.length_map, ls, an1_l]) (by omega) fun x hx => ⟨[e0, some (.val (encS S)), e2, e3, e4, e5, e6, e7, e8, e9, e10, some (.val (.int (W : Int))), e12, e13, e14, e15, e16, some (.val (encT x)), e18], rfl, by
      simp only [t__law_covering13, ev_asg, ev_par, ev_if, ev_ret, ev_retN, ev_expr, ev_bin, ev_un, ev_ap, ev_cons, ev_nil, ev_varS, ev_var0, ev_c, ob_some, ev_gNm, ev_tOf, ev_asB, ev_asI, ev_tNot, ev_tAnd, ev_tOr, ev_eOf, ev_eIf, ev_chain, List.set_cons_succ, List.set_cons_zero, ev_then_nx, ev_then_rt, ev_next, ev_pTup, ev_valsC, ev_vals0, ev_eL, ev_bm, ev_aug, pix_t, pix_l, pixq0, pixq1, atI_0, atI_1, atI_2, pp_ii, ps_ii, pa_ii, plt_ii, ple_ii, pgt_ii, pge_ii, peq_ii, pne_ii, pneg_i, List.length_cons, List.length_nil, Nat.reduceAdd, Nat.reduceSub, Nat.reduceLeDiff, sz, if_true, Bool.false_eq_true, if_false, Bool.not_true, Bool.not_false, leave_v, List.take_length, plen_t, plen_l, ptup_l, ptup_t, pint_i, pis_n, pis_i, pis_t, pisnt_n, pisnt_i, pisnt_t, Int.cast_ofNat_Int, ne_eq, not_true_eq_false, not_false_eq_true, decide_true, decide_false, over_row H (mem_sor.mp hx), Int.ofNat_inj], fun _ => rfl⟩
  have hall : List.range S.length ∈ (sor S.length).filter fun x => decide (cv S x = W) := List.mem_filter.mpr ⟨mem_sor.mpr (subs_all _), decide_eq_true hW⟩
  obtain ⟨d, ys, hd⟩ := List.exists_cons_of_ne_nil (List.ne_nil_of_mem hall)
  have hdm : d ∈ (sor S.length).filter fun x => decide (cv S x = W) := by rw [hd]; simp
  obtain ⟨d1, d2⟩ := List.mem_filter.mp hdm
  have hl := head_least hd
  refine ⟨d, ⟨mem_sor.mp d1, by rw [hW]; exact of_decide_eq_true d2, fun x hx he => hl x (List.mem_filter.mpr ⟨hx, decide_eq_true (by rw [he, hW])⟩)⟩, ?_⟩
  have at0 : atI (((sor S.length).filter fun x => decide (cv S x = W)).map encT) 0 = some (encT d) := by rw [hd]; exact atI_0
  simp only [q__law_covering_13, ev_asg, ev_par, ev_if, ev_ret, ev_retN, ev_expr, ev_bin, ev_un, ev_ap, ev_cons, ev_nil, ev_varS, ev_var0, ev_c, ob_some, ev_gNm, ev_tOf, ev_asB, ev_asI, ev_tNot, ev_tAnd, ev_tOr, ev_eOf, ev_eIf, ev_chain, List.set_cons_succ, List.set_cons_zero, ev_then_nx, ev_then_rt, ev_next, ev_pTup, ev_valsC, ev_vals0, ev_eL, ev_bm, ev_aug, pix_t, pix_l, pixq0, pixq1, atI_0, atI_1, atI_2, pp_ii, ps_ii, pa_ii, plt_ii, ple_ii, pgt_ii, pge_ii, peq_ii, pne_ii, pneg_i, List.length_cons, List.length_nil, Nat.reduceAdd, Nat.reduceSub, Nat.reduceLeDiff, sz, if_true, Bool.false_eq_true, if_false, Bool.not_true, Bool.not_false, leave_v, List.take_length, plen_t, plen_l, ptup_l, ptup_t, pint_i, pis_n, pis_i, pis_t, pisnt_n, pisnt_i, pisnt_t, Int.cast_ofNat_Int, ne_eq, not_true_eq_false, not_false_eq_true, decide_true, decide_false, c1, at0]
theorem c14_ok (H : Ss S) {d : List Nat} (D : Few S d) : q__law_covering_14 [e0, some (.val (encS S)), e2, e3, e4, e5, e6, e7, e8, e9, e10, e11, some (.val (encT d)), e13, e14, e15, e16, e17, e18] m =
    some (.nx [e0, some (.val (encS S)), e2, e3, e4, e5, e6, e7, e8, e9, e10, e11, some (.val (encT d)), e13, e14, e15, e16, e17, e18] m) := by
  obtain ⟨r, F, f⟩ := fewest_ok (m := m) H
  have e := D.uniq F
  subst e
  have s := sh_T (l := d) (fun a ha => by have := subs_lt D.mem a ha; have := H.s6; omega) (by have := subs_row D.mem; have := H.s6; omega)
  have z1 := s.repr (m := m) (by decide) (by decide)
  have z2 := pNe_shown (m := m) s.sm
  simp only [q__law_covering_14, ev_asg, ev_par, ev_if, ev_ret, ev_retN, ev_expr, ev_bin, ev_un, ev_ap, ev_cons, ev_nil, ev_varS, ev_var0, ev_c, ob_some, ev_gNm, ev_tOf, ev_asB, ev_asI, ev_tNot, ev_tAnd, ev_tOr, ev_eOf, ev_eIf, ev_chain, List.set_cons_succ, List.set_cons_zero, ev_then_nx, ev_then_rt, ev_next, ev_pTup, ev_valsC, ev_vals0, ev_eL, ev_bm, ev_aug, pix_t, pix_l, pixq0, pixq1, atI_0, atI_1, atI_2, pp_ii, ps_ii, pa_ii, plt_ii, ple_ii, pgt_ii, pge_ii, peq_ii, pne_ii, pneg_i, List.length_cons, List.length_nil, Nat.reduceAdd, Nat.reduceSub, Nat.reduceLeDiff, sz, if_true, Bool.false_eq_true, if_false, Bool.not_true, Bool.not_false, leave_v, List.take_length, plen_t, plen_l, ptup_l, ptup_t, pint_i, pis_n, pis_i, pis_t, pisnt_n, pisnt_i, pisnt_t, Int.cast_ofNat_Int, ne_eq, not_true_eq_false, not_false_eq_true, decide_true, decide_false, f, z1, z2]
theorem c15_ok (H : Ss S) : q__law_covering_15 [e0, some (.val (encS S)), e2, e3, e4, e5, e6, e7, e8, e9, e10, e11, e12, e13, e14, e15, e16, none, e18] m =
    some (.nx [e0, some (.val (encS S)), e2, e3, e4, e5, e6, e7, e8, e9, e10, e11, e12, some (.val (.int ((mxl (S.map List.length) : Nat) : Int))), e14, e15, e16, none, e18] m) := by
  have c1 : nComp (itAny (eVar 1)) (.nm 17) [17] tTrue e__law_covering14 [e0, some (.val (encS S)), e2, e3, e4, e5, e6, e7, e8, e9, e10, e11, e12, e13, e14, e15, e16, none, e18] m = some (encI (S.map List.length), m) := by
    have := comp_all (it := itAny (eVar 1)) (p := .nm 17) (vs := [17]) (te := e__law_covering14) (env := [e0, some (.val (encS S)), e2, e3, e4, e5, e6, e7, e8, e9, e10, e11, e12, e13, e14, e15, e16, none, e18]) (m := m) encT (fun s => nI s.length) S rfl (by have := H.s6; omega) fun s hs => ⟨[e0, some (.val (encS S)), e2, e3, e4, e5, e6, e7, e8, e9, e10, e11, e12, e13, e14, e15, e16, some (.val (encT s)), e18], rfl, by
      simp only [e__law_covering14, ev_asg, ev_par, ev_if, ev_ret, ev_retN, ev_expr, ev_bin, ev_un, ev_ap, ev_cons, ev_nil, ev_varS, ev_var0, ev_c, ob_some, ev_gNm, ev_tOf, ev_asB, ev_asI, ev_tNot, ev_tAnd, ev_tOr, ev_eOf, ev_eIf, ev_chain, List.set_cons_succ, List.set_cons_zero, ev_then_nx, ev_then_rt, ev_next, ev_pTup, ev_valsC, ev_vals0, ev_eL, ev_bm, ev_aug, pix_t, pix_l, pixq0, pixq1, atI_0, atI_1, atI_2, pp_ii, ps_ii, pa_ii, plt_ii, ple_ii, pgt_ii, pge_ii, peq_ii, pne_ii, pneg_i, List.length_cons, List.length_nil, Nat.reduceAdd, Nat.reduceSub, Nat.reduceLeDiff, sz, if_true, Bool.false_eq_true, if_false, Bool.not_true, Bool.not_false, leave_v, List.take_length, plen_t, plen_l, ptup_l, ptup_t, pint_i, pis_n, pis_i, pis_t, pisnt_n, pisnt_i, pisnt_t, Int.cast_ofNat_Int, ne_eq, not_true_eq_false, not_false_eq_true, decide_true, decide_false, plen_T, nI]⟩
    rw [this]
    unfold encI
    rw [List.map_map]
    rfl
  have px : pMax [.val (.list (encI (S.map List.length)))] m = some (.val (.int ((mxl (S.map List.length) : Nat) : Int)), m) := pmax_N rfl fun z => by
    have := H.s1
    rw [List.map_eq_nil_iff.mp z] at this
    simp at this
  simp only [q__law_covering_15, ev_asg, ev_par, ev_if, ev_ret, ev_retN, ev_expr, ev_bin, ev_un, ev_ap, ev_cons, ev_nil, ev_varS, ev_var0, ev_c, ob_some, ev_gNm, ev_tOf, ev_asB, ev_asI, ev_tNot, ev_tAnd, ev_tOr, ev_eOf, ev_eIf, ev_chain, List.set_cons_succ, List.set_cons_zero, ev_then_nx, ev_then_rt, ev_next, ev_pTup, ev_valsC, ev_vals0, ev_eL, ev_bm, ev_aug, pix_t, pix_l, pixq0, pixq1, atI_0, atI_1, atI_2, pp_ii, ps_ii, pa_ii, plt_ii, ple_ii, pgt_ii, pge_ii, peq_ii, pne_ii, pneg_i, List.length_cons, List.length_nil, Nat.reduceAdd, Nat.reduceSub, Nat.reduceLeDiff, sz, if_true, Bool.false_eq_true, if_false, Bool.not_true, Bool.not_false, leave_v, List.take_length, plen_t, plen_l, ptup_l, ptup_t, pint_i, pis_n, pis_i, pis_t, pisnt_n, pisnt_i, pisnt_t, Int.cast_ofNat_Int, ne_eq, not_true_eq_false, not_false_eq_true, decide_true, decide_false, c1, px]
theorem mx8 (H : Ss S) : mxl (S.map List.length) ≤ 8 := by
  have ne : S.map List.length ≠ [] := fun z => by
    have := H.s1
    rw [List.map_eq_nil_iff.mp z] at this
    simp at this
  obtain ⟨s, hs, e⟩ := List.mem_map.mp (mxl_mem ne)
  rw [← e]
  have := List.Nodup.length_le_of_subset (nd_of (H.srt _ hs)) (l₂ := List.range 8) fun a ha => List.mem_range.mpr (H.lt _ hs a ha)
  rwa [List.length_range] at this
theorem fac_le {n : Nat} (h : n ≤ 8) : fac n ≤ 40320 := by
  have : ∀ n, n < 9 → fac n ≤ 40320 := by decide
  exact this n (by omega)
theorem rg2_1 {M1 : Nat} (h : M1 ≤ 8) : rg2 [.val (.int 1), .val (.int ((M1 : Int) + 1))] m = iL ((List.range' 1 M1).map nI) m := by
  have := rg2_nat (m := m) (a := 1) (b := M1 + 1) (i := 1) (j := (M1 : Int) + 1) rfl (by push_cast; rfl) (by decide) (by omega)
  rw [this]
  rfl
theorem c17_ok {M1 : Nat} (h : M1 ≤ 8) : ∃ f16, q__law_covering_17 [e0, e1, e2, e3, e4, e5, e6, e7, e8, e9, e10, e11, e12, some (.val (.int (M1 : Int))), some (.val (.int 1)), e15, e16, e17, e18] m =
    some (.nx [e0, e1, e2, e3, e4, e5, e6, e7, e8, e9, e10, e11, e12, some (.val (.int (M1 : Int))), some (.val (.int ((fac M1 : Nat) : Int))), e15, f16, e17, e18] m) := by
  obtain ⟨e', mm, hl, f16, rfl, rfl⟩ := loop_inv (gf := gNm 16) (sf := l__law_covering15) nI (fun j env mm => ∃ f16, env = [e0, e1, e2, e3, e4, e5, e6, e7, e8, e9, e10, e11, e12, some (.val (.int (M1 : Int))), some (.val (.int ((fac j : Nat) : Int))), e15, f16, e17, e18] ∧ mm = m) (List.range' 1 M1)
    [e0, e1, e2, e3, e4, e5, e6, e7, e8, e9, e10, e11, e12, some (.val (.int (M1 : Int))), some (.val (.int 1)), e15, e16, e17, e18] m ⟨e16, rfl, rfl⟩ fun j a hj env mm ⟨f16, he, hm⟩ => by
    subst he hm
    obtain ⟨rfl, hjn⟩ : a = j + 1 ∧ j < M1 := by
      obtain ⟨h1, h2⟩ := List.getElem?_eq_some_iff.mp hj
      rw [List.length_range'] at h1
      rw [List.getElem_range'] at h2
      omega
    have f := fac_le (n := j) (by omega)
    have p := pmN (m := mm) (a := fac j) (b := j + 1) (by omega) (by omega)
    have ef : fac j * (j + 1) = fac (j + 1) := rfl
    rw [ef] at p
    refine ⟨[e0, e1, e2, e3, e4, e5, e6, e7, e8, e9, e10, e11, e12, some (.val (.int (M1 : Int))), some (.val (.int ((fac j : Nat) : Int))), e15, some (.val (.int ((j + 1 : Nat) : Int))), e17, e18], mm, _, _, (by simp only [ev_gNm, List.set_cons_succ, List.set_cons_zero, nI]), ?_, some (.val (.int ((j + 1 : Nat) : Int))), rfl, rfl⟩
    simp only [l__law_covering15, ev_asg, ev_par, ev_if, ev_ret, ev_retN, ev_expr, ev_bin, ev_un, ev_ap, ev_cons, ev_nil, ev_varS, ev_var0, ev_c, ob_some, ev_gNm, ev_tOf, ev_asB, ev_asI, ev_tNot, ev_tAnd, ev_tOr, ev_eOf, ev_eIf, ev_chain, List.set_cons_succ, List.set_cons_zero, ev_then_nx, ev_then_rt, ev_next, ev_pTup, ev_valsC, ev_vals0, ev_eL, ev_bm, ev_aug, pix_t, pix_l, pixq0, pixq1, atI_0, atI_1, atI_2, pp_ii, ps_ii, pa_ii, plt_ii, ple_ii, pgt_ii, pge_ii, peq_ii, pne_ii, pneg_i, List.length_cons, List.length_nil, Nat.reduceAdd, Nat.reduceSub, Nat.reduceLeDiff, sz, if_true, Bool.false_eq_true, if_false, Bool.not_true, Bool.not_false, leave_v, List.take_length, plen_t, plen_l, ptup_l, ptup_t, pint_i, pis_n, pis_i, pis_t, pisnt_n, pisnt_i, pisnt_t, Int.cast_ofNat_Int, ne_eq, not_true_eq_false, not_false_eq_true, decide_true, decide_false, p]
  rw [List.length_range'] at hl
  exact ⟨f16, by simp only [q__law_covering_17, ev_for, it_rg2, ev_asg, ev_par, ev_if, ev_ret, ev_retN, ev_expr, ev_bin, ev_un, ev_ap, ev_cons, ev_nil, ev_varS, ev_var0, ev_c, ob_some, ev_gNm, ev_tOf, ev_asB, ev_asI, ev_tNot, ev_tAnd, ev_tOr, ev_eOf, ev_eIf, ev_chain, List.set_cons_succ, List.set_cons_zero, ev_then_nx, ev_then_rt, ev_next, ev_pTup, ev_valsC, ev_vals0, ev_eL, ev_bm, ev_aug, pix_t, pix_l, pixq0, pixq1, atI_0, atI_1, atI_2, pp_ii, ps_ii, pa_ii, plt_ii, ple_ii, pgt_ii, pge_ii, peq_ii, pne_ii, pneg_i, List.length_cons, List.length_nil, Nat.reduceAdd, Nat.reduceSub, Nat.reduceLeDiff, sz, if_true, Bool.false_eq_true, if_false, Bool.not_true, Bool.not_false, leave_v, List.take_length, plen_t, plen_l, ptup_l, ptup_t, pint_i, pis_n, pis_i, pis_t, pisnt_n, pisnt_i, pisnt_t, Int.cast_ofNat_Int, ne_eq, not_true_eq_false, not_false_eq_true, decide_true, decide_false, rg2_1 h, run_iL, hl]⟩
theorem c18_ok {M1 : Nat} (h : M1 ≤ 8) : ∃ f16, q__law_covering_18 [e0, e1, e2, e3, e4, e5, e6, e7, e8, e9, e10, e11, e12, some (.val (.int (M1 : Int))), some (.val (.int ((fac M1 : Nat) : Int))), some (.val (.int 0)), e16, e17, e18] m =
    some (.nx [e0, e1, e2, e3, e4, e5, e6, e7, e8, e9, e10, e11, e12, some (.val (.int (M1 : Int))), some (.val (.int ((fac M1 : Nat) : Int))), some (.val (.int ((har (fac M1) M1 : Nat) : Int))), f16, e17, e18] m) := by
  obtain ⟨e', mm, hl, f16, rfl, rfl⟩ := loop_inv (gf := gNm 16) (sf := l__law_covering16) nI (fun j env mm => ∃ f16, env = [e0, e1, e2, e3, e4, e5, e6, e7, e8, e9, e10, e11, e12, some (.val (.int (M1 : Int))), some (.val (.int ((fac M1 : Nat) : Int))), some (.val (.int ((har (fac M1) j : Nat) : Int))), f16, e17, e18] ∧ mm = m) (List.range' 1 M1)
    [e0, e1, e2, e3, e4, e5, e6, e7, e8, e9, e10, e11, e12, some (.val (.int (M1 : Int))), some (.val (.int ((fac M1 : Nat) : Int))), some (.val (.int 0)), e16, e17, e18] m ⟨e16, rfl, rfl⟩ fun j a hj env mm ⟨f16, he, hm⟩ => by
    subst he hm
    obtain ⟨rfl, hjn⟩ : a = j + 1 ∧ j < M1 := by
      obtain ⟨h1, h2⟩ := List.getElem?_eq_some_iff.mp hj
      rw [List.length_range'] at h1
      rw [List.getElem_range'] at h2
      omega
    have p := pdN (m := mm) (a := fac M1) (b := j + 1) (by omega) (by omega)
    have e2' : ((har (fac M1) j : Nat) : Int) + ((fac M1 / (j + 1) : Nat) : Int) = ((har (fac M1) (j + 1) : Nat) : Int) := by
      show _ = ((har (fac M1) j + fac M1 / (j + 1) : Nat) : Int)
      push_cast
      rfl
    refine ⟨[e0, e1, e2, e3, e4, e5, e6, e7, e8, e9, e10, e11, e12, some (.val (.int (M1 : Int))), some (.val (.int ((fac M1 : Nat) : Int))), some (.val (.int ((har (fac M1) j : Nat) : Int))), some (.val (.int ((j + 1 : Nat) : Int))), e17, e18], mm, _, _, (by simp only [ev_gNm, List.set_cons_succ, List.set_cons_zero, nI]), ?_, some (.val (.int ((j + 1 : Nat) : Int))), rfl, rfl⟩
    simp only [l__law_covering16, ev_asg, ev_par, ev_if, ev_ret, ev_retN, ev_expr, ev_bin, ev_un, ev_ap, ev_cons, ev_nil, ev_varS, ev_var0, ev_c, ob_some, ev_gNm, ev_tOf, ev_asB, ev_asI, ev_tNot, ev_tAnd, ev_tOr, ev_eOf, ev_eIf, ev_chain, List.set_cons_succ, List.set_cons_zero, ev_then_nx, ev_then_rt, ev_next, ev_pTup, ev_valsC, ev_vals0, ev_eL, ev_bm, ev_aug, pix_t, pix_l, pixq0, pixq1, atI_0, atI_1, atI_2, pp_ii, ps_ii, pa_ii, plt_ii, ple_ii, pgt_ii, pge_ii, peq_ii, pne_ii, pneg_i, List.length_cons, List.length_nil, Nat.reduceAdd, Nat.reduceSub, Nat.reduceLeDiff, sz, if_true, Bool.false_eq_true, if_false, Bool.not_true, Bool.not_false, leave_v, List.take_length, plen_t, plen_l, ptup_l, ptup_t, pint_i, pis_n, pis_i, pis_t, pisnt_n, pisnt_i, pisnt_t, Int.cast_ofNat_Int, ne_eq, not_true_eq_false, not_false_eq_true, decide_true, decide_false, p, e2']
  rw [List.length_range'] at hl
  exact ⟨f16, by simp only [q__law_covering_18, ev_for, it_rg2, ev_asg, ev_par, ev_if, ev_ret, ev_retN, ev_expr, ev_bin, ev_un, ev_ap, ev_cons, ev_nil, ev_varS, ev_var0, ev_c, ob_some, ev_gNm, ev_tOf, ev_asB, ev_asI, ev_tNot, ev_tAnd, ev_tOr, ev_eOf, ev_eIf, ev_chain, List.set_cons_succ, List.set_cons_zero, ev_then_nx, ev_then_rt, ev_next, ev_pTup, ev_valsC, ev_vals0, ev_eL, ev_bm, ev_aug, pix_t, pix_l, pixq0, pixq1, atI_0, atI_1, atI_2, pp_ii, ps_ii, pa_ii, plt_ii, ple_ii, pgt_ii, pge_ii, peq_ii, pne_ii, pneg_i, List.length_cons, List.length_nil, Nat.reduceAdd, Nat.reduceSub, Nat.reduceLeDiff, sz, if_true, Bool.false_eq_true, if_false, Bool.not_true, Bool.not_false, leave_v, List.take_length, plen_t, plen_l, ptup_l, ptup_t, pint_i, pis_n, pis_i, pis_t, pisnt_n, pisnt_i, pisnt_t, Int.cast_ofNat_Int, ne_eq, not_true_eq_false, not_false_eq_true, decide_true, decide_false, rg2_1 h, run_iL, hl]⟩
/-- what covers all -/
theorem few_all (H : Ss S) {d : List Nat} (D : Few S d) : ∀ j x, j < S.length → x ∈ at_ S j → x < 8 → cov S d x = true := fun j x hj hx h8 => by
  have hc := D.cnt
  have imp : ∀ y ∈ List.range 8, cov S d y = true → cov S (List.range S.length) y = true := fun y _ hy => by
    unfold cov at hy ⊢
    obtain ⟨i, h1, h2⟩ := List.any_eq_true.mp hy
    exact List.any_eq_true.mpr ⟨i, List.mem_range.mpr (subs_lt D.mem i h1), h2⟩
  have key : ∀ l : List Nat, (∀ y ∈ l, cov S d y = true → cov S (List.range S.length) y = true) → l.countP (cov S d) = l.countP (cov S (List.range S.length)) → ∀ y ∈ l, cov S (List.range S.length) y = true → cov S d y = true := fun l => by
    induction l with
    | nil => intro _ _ y hy; cases hy
    | cons a l ih =>
      intro h1 h2 y hy hyc
      have hle : l.countP (cov S d) ≤ l.countP (cov S (List.range S.length)) := countP_le fun z hz => h1 z (List.mem_cons_of_mem _ hz)
      rw [List.countP_cons, List.countP_cons] at h2
      have ha := h1 a (by simp)
      by_cases c1 : cov S d a = true
      · have c2 := ha c1
        simp only [c1, c2, if_true] at h2
        rcases List.mem_cons.mp hy with q | q
        · rw [q]; exact c1
        · exact ih (fun z hz => h1 z (List.mem_cons_of_mem _ hz)) (by omega) y q hyc
      · by_cases c2 : cov S (List.range S.length) a = true
        · simp only [c1, c2, if_true] at h2
          simp at h2
          omega
        · rcases List.mem_cons.mp hy with q | q
          · rw [q] at hyc; exact absurd hyc c2
          · exact ih (fun z hz => h1 z (List.mem_cons_of_mem _ hz)) (by simp only [c1, c2] at h2; simpa using h2) y q hyc
  refine key (List.range 8) imp hc x (List.mem_range.mpr h8) ?_
  unfold cov
  exact List.any_eq_true.mpr ⟨j, List.mem_range.mpr hj, decide_eq_true hx⟩
theorem c19_ok (H : Ss S) {d : List Nat} (D : Few S d) {M1 : Nat} (hM : M1 = mxl (S.map List.length)) : q__law_covering_19 [e0, some (.val (encS S)), e2, e3, e4, e5, e6, e7, e8, e9, e10, e11, some (.val (encT d)), some (.val (.int (M1 : Int))), some (.val (.int ((fac M1 : Nat) : Int))), some (.val (.int ((har (fac M1) M1 : Nat) : Int))), e16, e17, e18] m =
    some (.rt (.val (.bool true)) m) := by
  have hS : S ≠ [] := fun z => by have := H.s1; rw [z] at this; simp at this
  have h8 : M1 ≤ 8 := by rw [hM]; exact mx8 H
  have s6 := H.s6
  have g := greedily_ok (m := m) H (k := S.length) H.s1 (by omega)
  have hm : ∀ s ∈ S, ∀ c : Nat → Bool, Cv.cnt 8 (fun x => decide (x ∈ s) && !c x) ≤ M1 := fun s hs c => by
    rw [← filt_gain H hs c, hM]
    exact Nat.le_trans (List.length_filter_le _ _) (le_mxl (List.mem_map.mpr ⟨s, hs, rfl⟩))
  have ga := grd_all (N := 8) (m := M1) (S := S) (O := d) (k := S.length) hS hm (subs_lt D.mem) (few_all H D)
  have gl : (grd 8 S S.length []).length ≤ 100000 := by
    have f1 := fac_pos M1
    have dl := subs_row D.mem
    have hh : har (fac M1) M1 ≤ 8 * 40320 := by
      have : ∀ n, n ≤ 8 → har (fac M1) n ≤ n * 40320 := fun n => by
        induction n with
        | zero => intro _; simp [har]
        | succ n ih =>
          intro hn
          have := ih (by omega)
          have : fac M1 / (n + 1) ≤ fac M1 := Nat.div_le_self _ _
          have := fac_le h8
          show har (fac M1) n + fac M1 / (n + 1) ≤ _
          omega
      have := this M1 h8
      omega
    by_cases z : M1 = 0
    · have e : har (fac M1) M1 = 0 := by rw [z]; rfl
      have f0 : fac M1 = 1 := by rw [z]; rfl
      rw [e, f0] at ga
      omega
    · have gd := grd_har (N := 8) (m := M1) (S := S) (O := d) hS hm (subs_lt D.mem) (few_all H D) S.length []
      have : ∀ (n : Nat) (t : List Nat), (grd 8 S n t).length ≤ t.length + n := fun n => by
        induction n with
        | zero => intro t; exact Nat.le_refl _
        | succ n ih =>
          intro t
          unfold grd
          split
          · omega
          · have := ih (t ++ [(gains 8 S (cov S t)).idxOf (mxl (gains 8 S (cov S t)))])
            rw [List.length_append, List.length_singleton] at this
            omega
      have := this S.length []
      simp at this
      omega
  have dl := subs_row D.mem
  have hh : har (fac M1) M1 ≤ 8 * 40320 := by
    have : ∀ n, n ≤ 8 → har (fac M1) n ≤ n * 40320 := fun n => by
      induction n with
      | zero => intro _; simp [har]
      | succ n ih =>
        intro hn
        have := ih (by omega)
        have : fac M1 / (n + 1) ≤ fac M1 := Nat.div_le_self _ _
        have := fac_le h8
        show har (fac M1) n + fac M1 / (n + 1) ≤ _
        omega
    have := this M1 h8
    omega
  have f8 := fac_le h8
  have p1 := pmN (m := m) (a := (grd 8 S S.length []).length) (b := fac M1) (by omega) (by omega)
  have p2 := pmN (m := m) (a := har (fac M1) M1) (b := d.length) (by omega) (by omega)
  by_cases z : M1 = 0
  · subst z
    simp only [q__law_covering_19, ev_asg, ev_par, ev_if, ev_ret, ev_retN, ev_expr, ev_bin, ev_un, ev_ap, ev_cons, ev_nil, ev_varS, ev_var0, ev_c, ob_some, ev_gNm, ev_tOf, ev_asB, ev_asI, ev_tNot, ev_tAnd, ev_tOr, ev_eOf, ev_eIf, ev_chain, List.set_cons_succ, List.set_cons_zero, ev_then_nx, ev_then_rt, ev_next, ev_pTup, ev_valsC, ev_vals0, ev_eL, ev_bm, ev_aug, pix_t, pix_l, pixq0, pixq1, atI_0, atI_1, atI_2, pp_ii, ps_ii, pa_ii, plt_ii, ple_ii, pgt_ii, pge_ii, peq_ii, pne_ii, pneg_i, List.length_cons, List.length_nil, Nat.reduceAdd, Nat.reduceSub, Nat.reduceLeDiff, sz, if_true, Bool.false_eq_true, if_false, Bool.not_true, Bool.not_false, leave_v, List.take_length, plen_t, plen_l, ptup_l, ptup_t, pint_i, pis_n, pis_i, pis_t, pisnt_n, pisnt_i, pisnt_t, Int.cast_ofNat_Int, ne_eq, not_true_eq_false, not_false_eq_true, decide_true, decide_false, Int.ofNat_zero]
  · have z' : ¬ ((M1 : Int) = 0) := by omega
    simp only [q__law_covering_19, ev_asg, ev_par, ev_if, ev_ret, ev_retN, ev_expr, ev_bin, ev_un, ev_ap, ev_cons, ev_nil, ev_varS, ev_var0, ev_c, ob_some, ev_gNm, ev_tOf, ev_asB, ev_asI, ev_tNot, ev_tAnd, ev_tOr, ev_eOf, ev_eIf, ev_chain, List.set_cons_succ, List.set_cons_zero, ev_then_nx, ev_then_rt, ev_next, ev_pTup, ev_valsC, ev_vals0, ev_eL, ev_bm, ev_aug, pix_t, pix_l, pixq0, pixq1, atI_0, atI_1, atI_2, pp_ii, ps_ii, pa_ii, plt_ii, ple_ii, pgt_ii, pge_ii, peq_ii, pne_ii, pneg_i, List.length_cons, List.length_nil, Nat.reduceAdd, Nat.reduceSub, Nat.reduceLeDiff, sz, if_true, Bool.false_eq_true, if_false, Bool.not_true, Bool.not_false, leave_v, List.take_length, plen_t, plen_l, ptup_l, ptup_t, pint_i, pis_n, pis_i, pis_t, pisnt_n, pisnt_i, pisnt_t, Int.cast_ofNat_Int, ne_eq, not_true_eq_false, not_false_eq_true, decide_true, decide_false, z', plen_t, List.length_map, g, plen_T, p1, p2, Int.ofNat_le, ga]
end
end L35

set_option Elab.async false
set_option linter.all false
set_option maxRecDepth 100000
set_option maxHeartbeats 0
namespace L35
open PySem PySem.Spec PyProof.Rows L2 Ev Cv
section
variable {m rest : M}
theorem covering_true (h : Bx rest m) : ∃ m', m__law_covering [.ref 0] m = some (.val (.bool true), m') := by
  obtain ⟨d, m1, a1, a2, a3⟩ := drawN h (k := 6) (by decide) (by decide)
  have a1' : m__law_draw [.ref 0, .val (.int 6)] m = some (.val (.int (d : Int)), m1) := a1
  have e1 : (1 : Int) + (d : Int) = ((d + 1 : Nat) : Int) := by omega
  have rg := rg1_nat (m := m1) (n := d + 1) (by omega)
  obtain ⟨S, m2, c1, c2, c3, c4⟩ := sets_drawn a3 (d + 1) (e1 := none) (e2 := none) (e3 := none) (e4 := none) (e5 := none) (e6 := none) (e7 := none) (e8 := none) (e9 := none) (e10 := none) (e11 := none) (e12 := none) (e13 := none) (e14 := none) (e15 := none) (e17 := none)
  have hl : ((List.range (d + 1)).map nI).length ≤ 16777216 := by simp; omega
  have cc : nComp (itRng1 (aCons (eBin pPlus (eC (.int 1)) (eAp m__law_draw (aCons (eVar 0) (aCons (eC (.int 6)) aNil)))) aNil)) (.nm 18) [18] tTrue e__law_covering3 [some (.ref 0), none, none, none, none, none, none, none, none, none, none, none, none, none, none, none, none, none, none] m = some (S.map encT, m2) := by
    rw [nComp_L (ds := (List.range (d + 1)).map nI) (m' := m1) (by simp only [it_rg1, ev_asg, ev_par, ev_if, ev_ret, ev_retN, ev_expr, ev_bin, ev_un, ev_ap, ev_cons, ev_nil, ev_varS, ev_var0, ev_c, ob_some, ev_gNm, ev_tOf, ev_asB, ev_asI, ev_tNot, ev_tAnd, ev_tOr, ev_eOf, ev_eIf, ev_chain, List.set_cons_succ, List.set_cons_zero, ev_then_nx, ev_then_rt, ev_next, ev_pTup, ev_valsC, ev_vals0, ev_eL, ev_bm, ev_aug, pix_t, pix_l, pixq0, pixq1, atI_0, atI_1, atI_2, pp_ii, ps_ii, pa_ii, plt_ii, ple_ii, pgt_ii, pge_ii, peq_ii, pne_ii, pneg_i, List.length_cons, List.length_nil, Nat.reduceAdd, Nat.reduceSub, Nat.reduceLeDiff, sz, if_true, Bool.false_eq_true, if_false, Bool.not_true, Bool.not_false, leave_v, List.take_length, plen_t, plen_l, ptup_l, ptup_t, pint_i, pis_n, pis_i, pis_t, pisnt_n, pisnt_i, pisnt_t, Int.cast_ofNat_Int, ne_eq, not_true_eq_false, not_false_eq_true, decide_true, decide_false, a1', e1, rg]) (by rw [sz]; exact hl)]
    exact c1
  have H : Ss S := ⟨by omega, by omega, fun s hs => (c3 s hs).1, fun s hs => (c3 s hs).2⟩
  obtain ⟨k, m3, b1, b2, b3⟩ := drawN c4 (k := 5) (by decide) (by decide)
  have b1' : m__law_draw [.ref 0, .val (.int 5)] m2 = some (.val (.int (k : Int)), m3) := b1
  have e2 : (1 : Int) + (k : Int) = ((k + 1 : Nat) : Int) := by omega
  have k1 : 1 ≤ k + 1 := by omega
  have k5 : k + 1 ≤ 5 := by omega
  obtain ⟨f4, f5, q4, hi⟩ := c4_ok (m := m3) H k1 k5 (e0 := some (.ref 0)) (e4 := none) (e5 := none) (e6 := none) (e7 := none) (e8 := none) (e9 := none) (e10 := none) (e11 := none) (e12 := none) (e13 := none) (e14 := none) (e15 := none) (e16 := none) (e17 := none)
  generalize ht : grd 8 S (k + 1) [] = t at q4 hi
  have tl : t.length ≤ 1000 := by
    have : ∀ (n : Nat) (t : List Nat), (grd 8 S n t).length ≤ t.length + n := fun n => by
      induction n with
      | zero => intro t; exact Nat.le_refl _
      | succ n ih =>
        intro t
        unfold grd
        split
        · omega
        · have := ih (t ++ [(gains 8 S (cov S t)).idxOf (mxl (gains 8 S (cov S t)))])
          rw [List.length_append, List.length_singleton] at this
          omega
    have := this (k + 1) []
    rw [ht] at this
    simp at this
    omega
  generalize hmm : m3 ++ [Ob.lst (encI t)] = mm at q4
  have gt : mm[m3.length]? = some (.lst (encI t)) := by rw [← hmm]; exact getN
  obtain ⟨top, r, T, hT, q8⟩ := c8_ok (m := mm) H k1 k5 (e0 := some (.ref 0)) (e3 := some (.ref m3.length)) (e4 := f4) (e5 := f5) (e8 := none) (e9 := none) (e10 := none) (e11 := none) (e12 := none) (e13 := none) (e14 := none) (e15 := none) (e16 := none) (e18 := none)
  have q7 := c7_ok (m := mm) (k := k + 1) H (e0 := some (.ref 0)) (e2 := some (.val (.int ((k + 1 : Nat) : Int)))) (e3 := some (.ref m3.length)) (e4 := f4) (e5 := f5) (e7 := none) (e8 := none) (e9 := none) (e10 := none) (e11 := none) (e12 := none) (e13 := none) (e14 := none) (e15 := none) (e16 := none) (e18 := none)
  rw [hT] at q7
  obtain ⟨f10, q10⟩ := c10_ok (m := mm) k1 k5 (e0 := some (.ref 0)) (e1 := some (.val (encS S))) (e3 := some (.ref m3.length)) (e4 := f4) (e5 := f5) (e6 := some (.val (.list ((sml S (k + 1)).map encT)))) (e7 := some (.val (.int (top : Int)))) (e10 := none) (e11 := none) (e12 := none) (e13 := none) (e14 := none) (e15 := none) (e16 := none) (e17 := none) (e18 := none)
  have q11 := c11_ok (m := mm) (j0 := m3.length) H k1 k5 T ht.symm hi gt (e0 := some (.ref 0)) (e2 := some (.val (.int ((k + 1 : Nat) : Int)))) (e4 := f4) (e5 := f5) (e6 := some (.val (.list ((sml S (k + 1)).map encT)))) (e10 := f10) (e11 := none) (e12 := none) (e13 := none) (e14 := none) (e15 := none) (e16 := none) (e17 := none) (e18 := none)
  obtain ⟨dd, D, q13⟩ := c13_ok (m := mm) H (e0 := some (.ref 0)) (e2 := some (.val (.int ((k + 1 : Nat) : Int)))) (e3 := some (.ref m3.length)) (e4 := f4) (e5 := f5) (e6 := some (.val (.list ((sml S (k + 1)).map encT)))) (e7 := some (.val (.int (top : Int)))) (e8 := some (.val (.int (((k + 1) ^ (k + 1) : Nat) : Int)))) (e9 := some (.val (.int (((k + 1 - 1) ^ (k + 1) : Nat) : Int)))) (e10 := f10) (e12 := none) (e13 := none) (e14 := none) (e15 := none) (e16 := none) (e18 := none)
  obtain ⟨M1, hM⟩ : ∃ M1, M1 = mxl (S.map List.length) := ⟨_, rfl⟩
  have M8 : M1 ≤ 8 := by rw [hM]; exact mx8 H
  have q15 := fun e14 e15 e16 => c15_ok (m := mm) H (e0 := some (.ref 0)) (e2 := some (.val (.int ((k + 1 : Nat) : Int)))) (e3 := some (.ref m3.length)) (e4 := f4) (e5 := f5) (e6 := some (.val (.list ((sml S (k + 1)).map encT)))) (e7 := some (.val (.int (top : Int)))) (e8 := some (.val (.int (((k + 1) ^ (k + 1) : Nat) : Int)))) (e9 := some (.val (.int (((k + 1 - 1) ^ (k + 1) : Nat) : Int)))) (e10 := f10) (e11 := some (.val (.int ((cv S (List.range S.length) : Nat) : Int)))) (e12 := some (.val (encT dd))) (e13 := none) (e14 := e14) (e15 := e15) (e16 := e16) (e18 := none)
  rw [← hM] at q15
  obtain ⟨f16, q17⟩ := c17_ok (m := mm) M8 (e0 := some (.ref 0)) (e1 := some (.val (encS S))) (e2 := some (.val (.int ((k + 1 : Nat) : Int)))) (e3 := some (.ref m3.length)) (e4 := f4) (e5 := f5) (e6 := some (.val (.list ((sml S (k + 1)).map encT)))) (e7 := some (.val (.int (top : Int)))) (e8 := some (.val (.int (((k + 1) ^ (k + 1) : Nat) : Int)))) (e9 := some (.val (.int (((k + 1 - 1) ^ (k + 1) : Nat) : Int)))) (e10 := f10) (e11 := some (.val (.int ((cv S (List.range S.length) : Nat) : Int)))) (e12 := some (.val (encT dd))) (e15 := some (.val (.int 0))) (e16 := none) (e17 := none) (e18 := none)
  obtain ⟨g16, q18⟩ := c18_ok (m := mm) M8 (e0 := some (.ref 0)) (e1 := some (.val (encS S))) (e2 := some (.val (.int ((k + 1 : Nat) : Int)))) (e3 := some (.ref m3.length)) (e4 := f4) (e5 := f5) (e6 := some (.val (.list ((sml S (k + 1)).map encT)))) (e7 := some (.val (.int (top : Int)))) (e8 := some (.val (.int (((k + 1) ^ (k + 1) : Nat) : Int)))) (e9 := some (.val (.int (((k + 1 - 1) ^ (k + 1) : Nat) : Int)))) (e10 := f10) (e11 := some (.val (.int ((cv S (List.range S.length) : Nat) : Int)))) (e12 := some (.val (encT dd))) (e16 := f16) (e17 := none) (e18 := none)
  have sg : ∀ (i j : Nat) (a b : R) (env : Sl), setAll [i, j] [a, b] env = some ((env.set i (some a)).set j (some b)) := fun _ _ _ _ _ => rfl
  have z0 : (0 : Nat) ≤ 16777216 := by decide
  have z2 : (0 + 1 + 1 : Nat) ≤ 16777216 := by decide
  refine ⟨mm.take m.length, ?_⟩
  simp only [m__law_covering, bodyF, List.length_cons, List.length_nil, Nat.reduceAdd, Nat.reduceSub, List.map_cons, List.map_nil, List.replicate, List.cons_append, List.nil_append, List.append_nil, b__law_covering, z__law_covering_1, z__law_covering_2, z__law_covering_3, z__law_covering_4, z__law_covering_5, z__law_covering_6, z__law_covering_7, z__law_covering_8, z__law_covering_9, z__law_covering_10, z__law_covering_11, z__law_covering_12, z__law_covering_13, z__law_covering_14, z__law_covering_15, z__law_covering_16, z__law_covering_17, z__law_covering_18, z__law_covering_19, ev_seq, q__law_covering_1, q__law_covering_2, q__law_covering_3, ev_asg, ev_par, ev_if, ev_ret, ev_retN, ev_expr, ev_bin, ev_un, ev_ap, ev_cons, ev_nil, ev_varS, ev_var0, ev_c, ob_some, ev_gNm, ev_tOf, ev_asB, ev_asI, ev_tNot, ev_tAnd, ev_tOr, ev_eOf, ev_eIf, ev_chain, List.set_cons_succ, List.set_cons_zero, ev_then_nx, ev_then_rt, ev_next, ev_pTup, ev_valsC, ev_vals0, ev_eL, ev_bm, ev_aug, pix_t, pix_l, pixq0, pixq1, atI_0, atI_1, atI_2, pp_ii, ps_ii, pa_ii, plt_ii, ple_ii, pgt_ii, pge_ii, peq_ii, pne_ii, pneg_i, List.length_cons, List.length_nil, Nat.reduceAdd, Nat.reduceSub, Nat.reduceLeDiff, sz, if_true, Bool.false_eq_true, if_false, Bool.not_true, Bool.not_false, leave_v, List.take_length, plen_t, plen_l, ptup_l, ptup_t, pint_i, pis_n, pis_i, pis_t, pisnt_n, pisnt_i, pisnt_t, Int.cast_ofNat_Int, ne_eq, not_true_eq_false, not_false_eq_true, decide_true, decide_false, cc, b1', e2, ev_eNew, ev_nLst, z0, q4, c5_ok H k1 k5 ht.symm hi tl gt, c6_ok H, q7, q8, q__law_covering_9, ev_parG, z2, sg, q10, q11, c12_ok H, q13, c14_ok H D, q15, q__law_covering_16, q17, q18, c19_ok H D hM]
end
theorem law_true (ns : List Int) (_ : ns.length ≤ 63) : ∃ m, m_law [.val (.list (ns.map .int))] [] = some (.val (.bool true), m) := by
  obtain ⟨c, hc⟩ : ∃ c : Int, m__law_cell [.val (.list (ns.map .int)), .val (.int 0)] [] = some (.val (.int c), []) := by
    by_cases h : 0 < ns.length
    · obtain ⟨a, l, rfl⟩ : ∃ a l, ns = a :: l := by
        cases ns with
        | nil => simp at h
        | cons a l => exact ⟨a, l, rfl⟩
      refine ⟨a, ?_⟩
      have h2 : (0 : Int) < (((a :: l).length : Nat) : Int) := by omega
      simp only [m__law_cell, bodyF, b__law_cell]
      simp
    · refine ⟨0, ?_⟩
      have : ns = [] := by
        cases ns with
        | nil => rfl
        | cons a l => simp at h
      subst this
      simp [m__law_cell, bodyF, b__law_cell]
  have hs : ∃ m, m__law_stream [.val (.list (ns.map .int)), .val (.int 0)] [] = some (.ref 0, m) ∧ Bx [] m := by
    have e : ∀ i : Int, pMod (.val (.int i)) (.val (.int 1000003)) [] = some (.val (.int (i % 1000003)), []) := fun i => pmd_ii (by decide)
    refine ⟨[Ob.lst [.int (if c < 0 then -c else c), .int ((if c < 0 then -c else c) % 1000003 + 7)]], ?_, ⟨_, _, rfl, ?_, ?_, ?_⟩⟩
    · simp [m__law_stream, bodyK, b__law_stream, hc, e]
    · split <;> omega
    · have := Int.emod_nonneg (if c < 0 then -c else c) (show (1000003 : Int) ≠ 0 by decide)
      omega
    · have := Int.emod_lt_of_pos (if c < 0 then -c else c) (show (0 : Int) < 1000003 by decide)
      omega
  obtain ⟨m, hs, hB⟩ := hs
  obtain ⟨m1, t1, h1⟩ := votes_true hB
  obtain ⟨m2, t2⟩ := covering_true h1
  refine ⟨[], ?_⟩
  simp [m_law, bodyF, b_law, hs, t1, t2]
end L35

open PySem PySem.W PyProof.Rows in
set_option maxRecDepth 100000 in
set_option maxHeartbeats 0 in
theorem PySem.Challenge.cw_allnights_k35_whole_nearest_orders_and_c_holds : PySem.Challenge.rw_allnights_k35_whole_nearest_orders_and_c.Holds := by
  w_on; o_law; k_head; (case hw => w_witness2)
  k_fill
  refine Ev.law_end (l := PySem.Challenge.rw_allnights_k35_whole_nearest_orders_and_c) (k := 7) (F := L35.m_law) (x := "script") rfl rfl ⟨rfl, by decide, by decide⟩ ?F L35.law_true
  case F =>
    intro w mg fa h Y G hmg
    have KX := PySem.W.km_in_of Y
    have hT := PySem.W.km_tabs_of Y
    refine' L35.fin KX ?kt hmg (Ev.hasCode KX G (fun _ _ _ _ _ _ us hl => match us, hl with | [_], _ => rfl) ?a__law_sets ?l__law_sets ?c__law_sets ?nf__law_sets ?nc__law_sets) ?lc__law_sets ?hp__law_sets ?hd__law_sets ?tT__law_sets ?nd ?d__law_cell ?d__law_stream ?d__law_orders ?d__law_apart ?d__law_nearest ?d__law_draw ?d__law_vote ?d_is_integer ?d_is_below ?d_check_order ?d_far ?d_distance ?d_check_votes ?d_nearest ?d__law_votes ?d__law_over ?d_is_set ?d_check_sets ?d_is_between ?d_check_most ?d_covered ?d_greedily ?d_sets_of ?d_most_covered_by ?d_fewest_sets ?d__law_covering ?d_law ?k_MOST_PLACES ?k_MOST_PLANS ?k_MOST_SETS ?k_MOST_VOTES ?z_abs ?z_all ?z_any ?z_bool ?z_enumerate ?z_int ?z_isinstance ?z_len ?z_list ?z_max ?z_min ?z_range ?z_repr ?z_sorted ?z_sum ?z_tuple
    (case kt => kernel_rfl)
    (case a__law_sets => k_is)
    (case l__law_sets => k_is)
    (case c__law_sets => k_is)
    (case lc__law_sets => k_is)
    (case hp__law_sets => rfl)
    (case hd__law_sets => kernel_rfl)
    (case tT__law_sets => exact hT _ (by decide))
    (case nf__law_sets => rfl)
    (case nc__law_sets => rfl)
    (case nd => decide)
    case d__law_cell =>
      refine' Ev.HasCode.def_ (Ev.hasCode KX G (fun _ _ _ _ _ _ us hl => match us, hl with | [_, _], _ => rfl) ?a ?l ?c ?nf ?nc)
      (case a => k_is)
      (case l => k_is)
      (case c => k_is)
      (case nf => rfl)
      (case nc => rfl)
    case d__law_stream =>
      refine' Ev.HasCode.def_ (Ev.hasCode KX G (fun _ _ _ _ _ _ us hl => match us, hl with | [_, _], _ => rfl) ?a ?l ?c ?nf ?nc)
      (case a => k_is)
      (case l => k_is)
      (case c => k_is)
      (case nf => rfl)
      (case nc => rfl)
    case d__law_orders =>
      refine' Ev.HasCode.def_ (Ev.hasCode KX G (fun _ _ _ _ _ _ us hl => match us, hl with | [_], _ => rfl) ?a ?l ?c ?nf ?nc)
      (case a => k_is)
      (case l => k_is)
      (case c => k_is)
      (case nf => rfl)
      (case nc => rfl)
    case d__law_apart =>
      refine' Ev.HasCode.def_ (Ev.hasCode KX G (fun _ _ _ _ _ _ us hl => match us, hl with | [_, _], _ => rfl) ?a ?l ?c ?nf ?nc)
      (case a => k_is)
      (case l => k_is)
      (case c => k_is)
      (case nf => rfl)
      (case nc => rfl)
    case d__law_nearest =>
      refine' Ev.HasCode.def_ (Ev.hasCode KX G (fun _ _ _ _ _ _ us hl => match us, hl with | [_, _], _ => rfl) ?a ?l ?c ?nf ?nc)
      (case a => k_is)
      (case l => k_is)
      (case c => k_is)
      (case nf => rfl)
      (case nc => rfl)
    case d__law_draw =>
      refine' Ev.HasCode.def_ (Ev.hasCode KX G (fun _ _ _ _ _ _ us hl => match us, hl with | [_, _], _ => rfl) ?a ?l ?c ?nf ?nc)
      (case a => k_is)
      (case l => k_is)
      (case c => k_is)
      (case nf => rfl)
      (case nc => rfl)
    case d__law_vote =>
      refine' Ev.HasCode.def_ (Ev.hasCode KX G (fun _ _ _ _ _ _ us hl => match us, hl with | [_, _], _ => rfl) ?a ?l ?c ?nf ?nc)
      (case a => k_is)
      (case l => k_is)
      (case c => k_is)
      (case nf => rfl)
      (case nc => rfl)
    case d_is_integer =>
      refine' Ev.HasCode.def_ (Ev.hasCode KX G (fun _ _ _ _ _ _ us hl => match us, hl with | [_], _ => rfl) ?a ?l ?c ?nf ?nc)
      (case a => k_is)
      (case l => k_is)
      (case c => k_is)
      (case nf => rfl)
      (case nc => rfl)
    case d_is_below =>
      refine' Ev.HasCode.def_ (Ev.hasCode KX G (fun _ _ _ _ _ _ us hl => match us, hl with | [_, _], _ => rfl) ?a ?l ?c ?nf ?nc)
      (case a => k_is)
      (case l => k_is)
      (case c => k_is)
      (case nf => rfl)
      (case nc => rfl)
    case d_check_order =>
      refine' Ev.HasCode.def_ (Ev.hasCode KX G (fun _ _ _ _ _ _ us hl => match us, hl with | [_], _ => rfl) ?a ?l ?c ?nf ?nc)
      (case a => k_is)
      (case l => k_is)
      (case c => k_is)
      (case nf => rfl)
      (case nc => rfl)
    case d_far =>
      refine' Ev.HasCode.def_ (Ev.hasCode KX G (fun _ _ _ _ _ _ us hl => match us, hl with | [_, _], _ => rfl) ?a ?l ?c ?nf ?nc)
      (case a => k_is)
      (case l => k_is)
      (case c => k_is)
      (case nf => rfl)
      (case nc => rfl)
    case d_distance =>
      refine' Ev.HasCode.def_ (Ev.hasCode KX G (fun _ _ _ _ _ _ us hl => match us, hl with | [_, _], _ => rfl) ?a ?l ?c ?nf ?nc)
      (case a => k_is)
      (case l => k_is)
      (case c => k_is)
      (case nf => rfl)
      (case nc => rfl)
    case d_check_votes =>
      refine' Ev.HasCode.def_ (Ev.hasCode KX G (fun _ _ _ _ _ _ us hl => match us, hl with | [_], _ => rfl) ?a ?l ?c ?nf ?nc)
      (case a => k_is)
      (case l => k_is)
      (case c => k_is)
      (case nf => rfl)
      (case nc => rfl)
    case d_nearest =>
      refine' Ev.HasCode.def_ (Ev.hasCode KX G (fun _ _ _ _ _ _ us hl => match us, hl with | [_], _ => rfl) ?a ?l ?c ?nf ?nc)
      (case a => k_is)
      (case l => k_is)
      (case c => k_is)
      (case nf => rfl)
      (case nc => rfl)
    case d__law_votes =>
      refine' Ev.HasCode.def_ (Ev.hasCode KX G (fun _ _ _ _ _ _ us hl => match us, hl with | [_], _ => rfl) ?a ?l ?c ?nf ?nc)
      (case a => k_is)
      (case l => k_is)
      (case c => k_is)
      (case nf => rfl)
      (case nc => rfl)
    case d__law_over =>
      refine' Ev.HasCode.def_ (Ev.hasCode KX G (fun _ _ _ _ _ _ us hl => match us, hl with | [_, _], _ => rfl) ?a ?l ?c ?nf ?nc)
      (case a => k_is)
      (case l => k_is)
      (case c => k_is)
      (case nf => rfl)
      (case nc => rfl)
    case d_is_set =>
      refine' Ev.HasCode.def_ (Ev.hasCode KX G (fun _ _ _ _ _ _ us hl => match us, hl with | [_, _], _ => rfl) ?a ?l ?c ?nf ?nc)
      (case a => k_is)
      (case l => k_is)
      (case c => k_is)
      (case nf => rfl)
      (case nc => rfl)
    case d_check_sets =>
      refine' Ev.HasCode.def_ (Ev.hasCode KX G (fun _ _ _ _ _ _ us hl => match us, hl with | [_], _ => rfl) ?a ?l ?c ?nf ?nc)
      (case a => k_is)
      (case l => k_is)
      (case c => k_is)
      (case nf => rfl)
      (case nc => rfl)
    case d_is_between =>
      refine' Ev.HasCode.def_ (Ev.hasCode KX G (fun _ _ _ _ _ _ us hl => match us, hl with | [_, _, _], _ => rfl) ?a ?l ?c ?nf ?nc)
      (case a => k_is)
      (case l => k_is)
      (case c => k_is)
      (case nf => rfl)
      (case nc => rfl)
    case d_check_most =>
      refine' Ev.HasCode.def_ (Ev.hasCode KX G (fun _ _ _ _ _ _ us hl => match us, hl with | [_], _ => rfl) ?a ?l ?c ?nf ?nc)
      (case a => k_is)
      (case l => k_is)
      (case c => k_is)
      (case nf => rfl)
      (case nc => rfl)
    case d_covered =>
      refine' Ev.HasCode.def_ (Ev.hasCode KX G (fun _ _ _ _ _ _ us hl => match us, hl with | [_, _], _ => rfl) ?a ?l ?c ?nf ?nc)
      (case a => k_is)
      (case l => k_is)
      (case c => k_is)
      (case nf => rfl)
      (case nc => rfl)
    case d_greedily =>
      refine' Ev.HasCode.def_ (Ev.hasCode KX G (fun _ _ _ _ _ _ us hl => match us, hl with | [_, _], _ => rfl) ?a ?l ?c ?nf ?nc)
      (case a => k_is)
      (case l => k_is)
      (case c => k_is)
      (case nf => rfl)
      (case nc => rfl)
    case d_sets_of =>
      refine' Ev.HasCode.def_ (Ev.hasCode KX G (fun _ _ _ _ _ _ us hl => match us, hl with | [_], _ => rfl) ?a ?l ?c ?nf ?nc)
      (case a => k_is)
      (case l => k_is)
      (case c => k_is)
      (case nf => rfl)
      (case nc => rfl)
    case d_most_covered_by =>
      refine' Ev.HasCode.def_ (Ev.hasCode KX G (fun _ _ _ _ _ _ us hl => match us, hl with | [_, _], _ => rfl) ?a ?l ?c ?nf ?nc)
      (case a => k_is)
      (case l => k_is)
      (case c => k_is)
      (case nf => rfl)
      (case nc => rfl)
    case d_fewest_sets =>
      refine' Ev.HasCode.def_ (Ev.hasCode KX G (fun _ _ _ _ _ _ us hl => match us, hl with | [_], _ => rfl) ?a ?l ?c ?nf ?nc)
      (case a => k_is)
      (case l => k_is)
      (case c => k_is)
      (case nf => rfl)
      (case nc => rfl)
    case d__law_covering =>
      refine' Ev.HasCode.def_ (Ev.hasCode KX G (fun _ _ _ _ _ _ us hl => match us, hl with | [_], _ => rfl) ?a ?l ?c ?nf ?nc)
      (case a => k_is)
      (case l => k_is)
      (case c => k_is)
      (case nf => rfl)
      (case nc => rfl)
    case d_law =>
      refine' Ev.HasCode.def_ (Ev.hasCode KX G (fun _ _ _ _ _ _ us hl => match us, hl with | [_], _ => rfl) ?a ?l ?c ?nf ?nc)
      (case a => k_is)
      (case l => k_is)
      (case c => k_is)
      (case nf => rfl)
      (case nc => rfl)
    case k_MOST_PLACES =>
      refine' Ev.cst_ KX G ?a ?e
      (case a => k_is)
      (case e => exact ⟨_, rfl⟩)
    case k_MOST_PLANS =>
      refine' Ev.cst_ KX G ?a ?e
      (case a => k_is)
      (case e => exact ⟨_, rfl⟩)
    case k_MOST_SETS =>
      refine' Ev.cst_ KX G ?a ?e
      (case a => k_is)
      (case e => exact ⟨_, rfl⟩)
    case k_MOST_VOTES =>
      refine' Ev.cst_ KX G ?a ?e
      (case a => k_is)
      (case e => exact ⟨_, rfl⟩)
    case z_abs =>
      refine' PySem.W.mg_none_of KX G ?a
      (case a => k_is)
    case z_all =>
      refine' PySem.W.mg_none_of KX G ?a
      (case a => k_is)
    case z_any =>
      refine' PySem.W.mg_none_of KX G ?a
      (case a => k_is)
    case z_bool =>
      refine' PySem.W.mg_none_of KX G ?a
      (case a => k_is)
    case z_enumerate =>
      refine' PySem.W.mg_none_of KX G ?a
      (case a => k_is)
    case z_int =>
      refine' PySem.W.mg_none_of KX G ?a
      (case a => k_is)
    case z_isinstance =>
      refine' PySem.W.mg_none_of KX G ?a
      (case a => k_is)
    case z_len =>
      refine' PySem.W.mg_none_of KX G ?a
      (case a => k_is)
    case z_list =>
      refine' PySem.W.mg_none_of KX G ?a
      (case a => k_is)
    case z_max =>
      refine' PySem.W.mg_none_of KX G ?a
      (case a => k_is)
    case z_min =>
      refine' PySem.W.mg_none_of KX G ?a
      (case a => k_is)
    case z_range =>
      refine' PySem.W.mg_none_of KX G ?a
      (case a => k_is)
    case z_repr =>
      refine' PySem.W.mg_none_of KX G ?a
      (case a => k_is)
    case z_sorted =>
      refine' PySem.W.mg_none_of KX G ?a
      (case a => k_is)
    case z_sum =>
      refine' PySem.W.mg_none_of KX G ?a
      (case a => k_is)
    case z_tuple =>
      refine' PySem.W.mg_none_of KX G ?a
      (case a => k_is)
