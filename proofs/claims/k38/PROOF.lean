import PyProof.Rows.All
import Wide.All
import OpenK.AllK
import Wide.FinOn
import HandS.ForMost
import HandS.Flow
import HandS.WideBits
import HandS.TupAny
import HandS.TupMul
import HandS.IsInst
import HandS.Lambda
import HandS.Nested
import KE.KDictKeyed
import HandS.Wide
import KE.DataMinMax
import PyProof.ReprRoads
import HandS.More
import HandS.SetFor
import HandS.Remove
import KE.GoesEnum
import HandS.Deep
import HandS.EndTab
import HandS.Style
import KE.SortKeyHeap
import HandS.Conv
import HandS.Sort
import HandS.Dict
import HandS.Iter
import HandS.TupLen
import HandS.WordsDict
import KE.KDictDisplayH
import PyProof.Rows.TupDisplay
import KE.KDictCopyH
import KE.KDictSum
import HandS.DictComp
import HandS.Comp
import HandS.Strs
import KE.KMinKey
import KE.KDictWalk
import KE.LtData
import PySem.Challenge.RW_allnights_k38_whole_marks
set_option Elab.async false
set_option linter.all false
set_option maxRecDepth 100000
/-! New tuples, their objects told: no namespace of their own. -/
namespace Ev
open PySem PySem.Spec PyProof.Rows L2
/-- no tuple but one whose object is told -/
def plO : HO → Prop
  | .tup _ => False
  | .frz o (.tup _) => o.dict = none
  | _ => True
/-- the written part's tuples have no namespace either -/
def KT (K : PySem.W.Frag) : Prop := ∀ a o, K.lookup a = some o → o.cls = .type "tuple" → o.dict = none
def tupB (K : PySem.W.Frag) : Bool := K.all fun q => match q.2.cls with
  | .type "tuple" => q.2.dict.isNone
  | _ => true
theorem lookup_in {K : PySem.W.Frag} {a : Addr} {o : Obj} : K.lookup a = some o → (a, o) ∈ K := by
  induction K with
  | nil => intro h; cases h
  | cons q K ih =>
    obtain ⟨b, u⟩ := q
    intro h
    rw [List.lookup_cons] at h
    split at h
    · rename_i hb
      cases h
      rw [eq_of_beq hb]
      exact List.mem_cons_self
    · exact List.mem_cons_of_mem _ (ih h)
theorem kt_of {K : PySem.W.Frag} (h : tupB K = true) : KT K := fun a o e c => by
  have q := List.all_eq_true.mp h _ (lookup_in e)
  simp only [c] at q
  cases d : o.dict with
  | none => rfl
  | some x => rw [d] at q; cases q
section
variable {X : Cx} {pins : List (Addr × Obj)} {σ : L2.St} {H : Hp} {s : Shared}
/-- what follows of a new tuple -/
def NewT (H : Hp) (xs : List V) (Q : VK) : Prop := ∀ p o, H p = none → o.dict = none → Q (.ref p) (upd H p (.frz o (.tup xs)))
theorem newT_run {h' : Heap} {t' : Nat} {xs : List V} {us : List Value} {Q : VK} (I : Inv X pins σ H s) (k : ∀ b u, s.heap.get? b = some u → h'.get? b = some u) (hp : s.heap.objs.size ≤ h'.objs.size - 1) (hn : h'.get? (h'.objs.size - 1) = some { cls := .type "tuple", data := .seq us.toArray }) (z : xs.length ≤ sizeLine) (r : Vals xs us) (q : NewT H xs Q) :
    EP X pins σ Q (.ref (h'.objs.size - 1)) { s with heap := h', toks := t' } :=
  ⟨.ref _, _, I.laid (t' := t') k hp (o := .frz { cls := .type "tuple", data := .seq us.toArray } (.tup xs)) ⟨hn, z, us, r, ⟨_, hn, rfl, _, rfl⟩⟩, rfl, q _ _ (I.hok.fresh hp) rfl⟩
theorem newT_push {t' : Nat} {xs : List V} {us : List Value} {Q : VK} (I : Inv X pins σ H s) (z : xs.length ≤ sizeLine) (r : Vals xs us) (q : NewT H xs Q) :
    EP X pins σ Q (.ref s.heap.objs.size) { s with heap := s.heap.push { cls := .type "tuple", data := .seq us.toArray }, toks := t' } := by
  have := newT_run (t' := t') (h' := s.heap.push { cls := .type "tuple", data := .seq us.toArray }) I (fun b u e => Heap.get?_push_of_some _ e) (by rw [Heap.size_push]; exact Nat.le_refl _) (by rw [Heap.size_push]; exact Heap.get?_push_size _ rfl) z r q
  rw [Heap.size_push] at this
  exact this
end
section
variable {X : Cx} {es : List Expr} {t : TA} {pos : Pos}
def tTupF (t : TA) : TE := fun σ H Q => t σ H fun xs Ha => xs.length ≤ sizeLine ∧ NewT Ha xs Q
theorem pe_tupF {x1} (h : PA X es t) : PE X (.Tuple es x1 pos) (tTupF t) := ⟨fun pins s σ H Q I hq =>
  wpAny_Tuple_spliced (thn (h.run pos pins s σ H _ I hq) fun us s1 ⟨xs, Ha, I1, r, z, q⟩ => ⟨by rw [← r.length]; exact z, newT_push (t' := s1.toks) I1 z r q⟩)⟩
theorem op_catF : OpR X (binaryOp .Add) (fun x y H Q => ∃ a b xs ys, x = .ref a ∧ y = .ref b ∧ SqT X.K H a xs ∧ SqT X.K H b ys ∧ xs.length + ys.length ≤ sizeLine ∧
    (xs = [] → Q (.ref b) H) ∧ (xs ≠ [] → ys = [] → Q (.ref a) H) ∧ (xs ≠ [] → ys ≠ [] → NewT H (xs ++ ys) Q)) := by
  intro pins s σ H x y v u Q I rx ry h
  obtain ⟨a, b, xs, ys, rfl, rfl, ha, hb, hz, q0, q1, q2⟩ := h
  by_cases hx : xs = []
  · exact op_catA pins s σ H _ _ v u Q I rx ry ⟨a, b, xs, ys, rfl, rfl, ha, hb, hz, q0, q1, fun z => absurd hx z⟩
  · cases rx
    cases ry
    obtain ⟨l1, r1, p1, _⟩ := I.tuple ha
    obtain ⟨l2, r2, p2, _⟩ := I.tuple hb
    exact HT.cat_tup p1 p2 (fun z => hx (r1.nil_iff.mp z)) (fun z => ⟨.ref a, H, I, rfl, q1 hx (r2.nil_iff.mp z)⟩) (fun z => newT_push (t' := s.toks) I (by rw [List.length_append]; exact hz) (r1.append r2) (q2 hx fun w => z (r2.nil_iff.mpr w))) (by rw [← r1.length, ← r2.length]; exact hz)
theorem sl_tupF : SlR X (fun x lo hi H Q => ∃ a xs, x = .ref a ∧ SqT X.K H a xs ∧
    (HT.sIx xs.length 0 lo = 0 ∧ HT.sIx xs.length xs.length hi = xs.length → Q (.ref a) H) ∧ (¬ (HT.sIx xs.length 0 lo = 0 ∧ HT.sIx xs.length xs.length hi = xs.length) → NewT H (cutV xs lo hi) Q)) := by
  intro pins s σ H x v vl vu lo hi sl Q I rx hs pl pu h
  obtain ⟨a, xs, rfl, hx, q1, q2⟩ := h
  by_cases hw : HT.sIx xs.length 0 lo = 0 ∧ HT.sIx xs.length xs.length hi = xs.length
  · exact sl_tupA pins s σ H _ v vl vu lo hi sl Q I rx hs pl pu ⟨a, xs, rfl, hx, q1, fun z => absurd hw z⟩
  · cases rx
    obtain ⟨its, r, ht, hz⟩ := I.tuple hx
    have hl : its.toArray.size = xs.length := by rw [List.size_toArray]; exact r.length.symm
    refine ⟨"tuple", _, PyProof.Rows.slot_tuple_getitem.lookup, ht.typeIs, ?_⟩
    refine HT.getItem_tuple_cut ht hs pl pu (by rw [hl]; exact hw) ?_ (by rw [hl]; exact hz)
    rw [hl]
    exact newT_push (t' := s.toks) I (Nat.le_trans (cutV_length xs lo hi) hz) ((r.drop (HT.sIx xs.length 0 lo)).take (HT.sIx xs.length xs.length hi - HT.sIx xs.length 0 lo)) (q2 hw)
theorem call_tupF : CallR X (.type "tuple") (fun xs H Q => ∃ p ys, xs = [.ref p] ∧ ((SqL X.K H p ys ∧ NewT H ys Q) ∨ (SqT X.K H p ys ∧ Q (.ref p) H))) := by
  intro pins s σ H xs us Q I r h
  obtain ⟨p, ys, rfl, h⟩ := h
  rcases h with ⟨hq, q⟩ | h
  · obtain ⟨u, rfl, rx⟩ := vals1 r
    cases rx
    obtain ⟨its, r2, pl, hz⟩ := I.list hq
    have hl := r2.length
    refine call_tuple_list pl.isList (fun h' kp => ?_) (by simp only [List.size_toArray] <;> omega)
    have I1 : Inv X pins σ H { s with heap := h' } := I.kept (t' := s.toks) kp
    exact newT_push (t' := s.toks) I1 hz r2 q
  · exact call_tuple_of pins s σ H _ us Q I r ⟨p, ys, rfl, .inr h⟩
theorem op_repF : OpR X (binaryOp .Mult) (fun x y H Q => ∃ (l : Addr) (k : Int) (xs : List V), x = .ref l ∧ y = .int k ∧ SqT X.K H l xs ∧ xs ≠ [] ∧ 2 ≤ k ∧ k ≤ 1000 ∧ xs.length ≤ 1000 ∧ NewT H (List.replicate k.toNat xs).flatten Q) := by
  intro pins s σ H x y v u Q I rx ry h
  obtain ⟨l, k, xs, rfl, rfl, hT, hne, h1, h2, hz, q⟩ := h
  cases rx
  obtain ⟨t, rfl⟩ := ry
  obtain ⟨its, r, ⟨⟨cls, dd, data, sl⟩, ho, hc, n, hd⟩, hs⟩ := I.tuple hT
  simp only at hc hd
  subst hc hd
  have hle : its.length = xs.length := r.length.symm
  have hi : its.toArray.isEmpty = false := by
    cases its with
    | nil => exact absurd (List.eq_nil_of_length_eq_zero hle.symm) hne
    | cons a b => rfl
  have hs0 : its.toArray.size = xs.length := by rw [List.size_toArray, hle]
  have hm : ((its.toArray.size : Nat) : Int) * k ≤ 1000000 := by
    rw [hs0]
    have : ((xs.length : Nat) : Int) * k ≤ 1000 * k := Int.mul_le_mul_of_nonneg_right (by omega) (by omega)
    omega
  have km : k.toNat * xs.length ≤ 1000 * 1000 := Nat.mul_le_mul (by omega) hz
  have fl : (List.replicate k.toNat its).flatten.length ≤ sizeLine := by
    rw [PyProof.Rows.lm_len_rep_flat, hle, sizeLine_eq]
    omega
  have b0 : (decide (k < -(2 ^ 63)) || decide (k ≥ 2 ^ 63)) = false := by
    rw [decide_eq_false (by omega), decide_eq_false (by omega)] <;> rfl
  have b1 : (its.toArray.isEmpty || k == 1) = false := by
    rw [hi, Bool.false_or]
    exact beq_eq_false_iff_ne.mpr (by omega)
  have b2 : (decide (k ≤ 0) || its.toArray.isEmpty) = false := by
    rw [hi, Bool.or_false]
    exact decide_eq_false (by omega)
  have b4 : Builtin.Tuple.tupleTooMany (((its.toArray.size : Nat) : Int) * k) = false := by
    unfold Builtin.Tuple.tupleTooMany
    rw [sizeLine_eq]
    exact decide_eq_false (by omega)
  refine wpAny_binaryOp_repeat_ref (T := "tuple") (U := "int") (by decide) ⟨_, ho, rfl⟩ (fun s' => typeIs_int s' k t) noFill_tuple_mul F.fills_int_mul F.slot_int_rmul repeat_tuple F.slot_int_index.lookup
    (call_meets F.slot_int_rmul (typeIs_int s k t) F.entry_int_rmul (F.args_int_rmul_2 _ _) (int_rmul_tuple k t l its.toArray n dd sl)
      ⟨ho, rfl, ⟨_, ho, rfl⟩, call_meets F.slot_tuple_mul ⟨_, ho, rfl⟩ F.entry_tuple_mul (F.args_tuple_mul_2 _ _) (tuple_mulW l its.toArray n dd sl k t b0 b1 b2 (by omega) b4 (by rw [size_rep, List.size_toArray]; exact fl)) ⟨ho, ?_⟩⟩)
  rw [size_rep]
  exact newT_push (t' := s.toks) I (by rw [PyProof.Rows.lm_len_rep_flat, sizeLine_eq]; omega) (r.rep k.toNat) q
end
/-! enumerate of a list -/
section
def ItL (K : PySem.W.Frag) (a : Addr) : It :=
  ⟨fun i H => ∃ (xs : List V) (x : V), SqL K H a xs ∧ xs[i]? = some x, fun i H v Hb => ∃ T o x, v = .ref T ∧ H T = none ∧ o.dict = none ∧ Hb = upd H T (.frz o (.tup [.int (i : Nat), x])) ∧ ∀ xs, SqL K H a xs → xs[i]? = some x, fun i H => ∃ xs : List V, SqL K H a xs ∧ xs.length ≤ i⟩
theorem turn_enumL {P : Program} {w : World} {K : PySem.W.Frag} {elts : List Expr} {kk : Nat} {tpos : Pos} (a e it : Addr) :
    Turn P w K (.Tuple elts kk tpos) (ItL K a) [e, it] e (fun i h => (∃ old, IsEnum h e it ((i : Nat) : Int) old) ∧ h.IsListIter it a i ∧ e ≠ it) where
  mem := List.mem_cons_self
  obj := by
    rintro i h ⟨⟨old, he⟩, ⟨o, ho, hc, hd⟩, _⟩ b hb
    rcases List.mem_cons.mp hb with rfl | hb
    · exact ⟨_, he, fun v q => nomatch q⟩
    · obtain rfl := List.mem_singleton.mp hb
      exact ⟨o, ho, fun v q => by rw [hd] at q; cases q⟩
  keep := by
    rintro i h h' ⟨⟨old, he⟩, hi, hne⟩ k
    exact ⟨⟨old, k e List.mem_cons_self _ he⟩, hi.at fun o q => k it (by simp) o q, hne⟩
  item := by
    rintro X rfl rfl rfl hc i pins s σ H E I hf ⟨⟨old, he⟩, hit, hne⟩ ⟨xs, x, hq, hx⟩
    obtain ⟨its, rv, p, hz⟩ := I.list hq
    obtain ⟨u, hu, ru⟩ := rv.get hx
    have le : e < s.heap.objs.size := Heap.lt_size he
    have li : it < s.heap.objs.size := by
      obtain ⟨_, q, _⟩ := hit
      exact Heap.lt_size q
    refine wpAny_pyNext_enum_item he hit p.isList (x := u) (by simpa using hu) hne fun h' ho hit' hT hsz hk => ?_
    refine ⟨_, rfl, wpAny_letOwnedTupleGo_enum (s := { s with heap := h', toks := s.toks + 1 }) ho fun hb2 he' sb => ?_⟩
    have hT2 : hb2.get? s.heap.objs.size = some { cls := .type "tuple", data := .seq #[.int i s.toks, u] } := (sb.2 _ (Nat.ne_of_gt le)).trans hT
    have new : ObjOk X.prog X.w (upd H s.heap.objs.size (.frz { cls := .type "tuple", data := .seq #[.int i s.toks, u] } (.tup [.int (i : Nat), x]))) hb2 s.heap.objs.size (.frz { cls := .type "tuple", data := .seq #[.int i s.toks, u] } (.tup [.int (i : Nat), x])) :=
      ⟨hT2, by show 2 ≤ sizeLine; decide, [.int i s.toks, u], .cons ⟨_, rfl⟩ (.cons ru .nil), ⟨_, hT2, rfl, _, rfl⟩⟩
    have I1 : Inv X pins σ (upd H s.heap.objs.size (.frz { cls := .type "tuple", data := .seq #[.int i s.toks, u] } (.tup [.int (i : Nat), x]))) { s with heap := hb2, toks := s.toks + 1 } :=
      I.turnedNew (ch := [e, it]) (fun b ob hb q => (sb.2 b (fun z => hb (by simp [z]))).trans (hk b ob (fun z => hb (by simp [z])) (fun z => hb (by simp [z])) q)) hf (Nat.le_refl _) new
    refine ⟨.ref s.heap.objs.size, _, I1, rfl, ⟨_, _, x, rfl, I.hok.fresh (Nat.le_refl _), rfl, rfl, fun ys hy => by rw [I.list_inj hy hq]; exact hx⟩, ⟨⟨u, ?_⟩, hit'.at fun o q => (sb.2 it (Ne.symm hne)).trans q, hne⟩, fun b hb => ?_⟩
    · rw [show ((i + 1 : Nat) : Int) = (i : Int) + 1 by omega]
      exact he'
    · have hb' : b < s.heap.objs.size := by
        rcases List.mem_cons.mp hb with rfl | hb
        · exact le
        · obtain rfl := List.mem_singleton.mp hb
          exact li
      rw [upd_ne (Nat.ne_of_lt hb')]
      exact (hf b hb).1
  done := by
    rintro X rfl rfl rfl hc i pins s σ H E I hf ⟨⟨old, he⟩, hit, hne⟩ ⟨xs, hq, hx⟩
    obtain ⟨its, rv, p, hz⟩ := I.list hq
    obtain ⟨f0, f1, f2, f3, f4, f5⟩ := hf it (by simp)
    have hl := rv.length
    exact wpAny_pyNext_enum_end (I.ok.hd hc) he hit p.isList (by simp; omega) fun h' eb => ⟨rfl, I.turned (t' := s.toks) (fun b o hb q => eb b o hb q) f0 f1 f3 f4 f5⟩
  self := fun A i s Q E st h => by
    obtain ⟨⟨_, he⟩, _⟩ := st
    exact wpAny_pyIter_enum he h
def iEnumF (K : PySem.W.Frag) (ta : TA) : TI := fun σ H R => ta σ H fun vs Ha => ∃ a xs, vs = [.ref a] ∧ SqL K Ha a xs ∧ R (ItL K a) Ha
theorem pi_enumF {X : Cx} {e : Expr} {ta : TA} {p pos tpos : Pos} {elts : List Expr} {kk : Nat} (hg : Gl X "enumerate") (hm : X.mg "enumerate" = none) (ha : PA X [e] ta) (hs : starEach [e] X.env = [(false, eval e X.env)] := by rfl) :
    PI X (.Tuple elts kk tpos) (.Call (.Name "enumerate" p) [e] [] pos) (iEnumF X.K ta) := ⟨fun pins s σ H R I h => by
  refine Call_ (ld_blt I hg hm boot_enumerate (PyProof.Rows.callWith_type1 (thn (ha.run pos pins s σ H _ I h)
    fun us s1 ⟨vs, Ha, I1, r1, a, xs, e0, hq, q⟩ => ?_) hs rfl))
  subst e0
  obtain ⟨u, rfl, r⟩ := vals1 r1
  cases r
  obtain ⟨its, rv, pl, hz⟩ := I1.list hq
  refine call_enumerate_list pl.isList fun h' he hit hsz hk => wpAny_pyIter_enum he ?_
  have I2 : Inv X pins σ Ha { s1 with heap := h' } := I1.kept (t' := s1.toks) hk
  refine ⟨s1.heap.objs.size + 1, [s1.heap.objs.size + 1, s1.heap.objs.size], _, _, Ha, rfl, I2, turn_enumL a (s1.heap.objs.size + 1) s1.heap.objs.size, ⟨⟨.none, he⟩, hit, Nat.succ_ne_self _⟩, fun b hb => ?_, q⟩
  have hle : s1.heap.objs.size ≤ b := by
    rcases List.mem_cons.mp hb with rfl | hb
    · exact Nat.le_add_right _ _
    · rw [List.mem_singleton.mp hb]
      exact Nat.le_refl _
  exact I1.fpOk hle (I1.hok.fresh hle)⟩
end
end Ev

set_option Elab.async false
set_option linter.all false
set_option maxRecDepth 100000
/-! Values as PyData, an abstract store of mutable lists, and readings made of pure functions. -/
namespace Ev
open PySem PySem.Spec PyProof.Rows L2

abbrev D := PyData
/-- a mutable object of the store -/
inductive Ob where
  | lst (l : List D)
  /-- a dict: t: its keys are tuples; lk: locked (walked by a loop) -/
  | dct (t lk : Bool) (kvs : List (D × D))
/-- a value: data that nobody changes, or an object of the store -/
inductive R where
  | val (d : D)
  | ref (i : Nat)
  /-- a tuple that holds objects of the store -/
  | tp (rs : List (D ⊕ Nat))
abbrev M := List Ob
abbrev Sl := List (Option R)

/-- the tables of code objects, with the name of what they tell -/
abbrev Tbs := List (Addr × Str)
/-- the addresses of the store's objects; those that are hidden (lists that comprehensions fill) -/
structure Ad where
  s : List Addr
  h : List Addr
  t : List (Addr × Str)
def Ad.all (φ : Ad) : List Addr := φ.s ++ φ.h
def Ad.add (φ : Ad) (p : Addr) : Ad := ⟨φ.s ++ [p], φ.h, φ.t⟩
def Ad.hide (φ : Ad) (p : Addr) : Ad := ⟨φ.s, p :: φ.h, φ.t⟩
theorem Ad.mem {φ : Ad} {a : Addr} : a ∈ φ.all ↔ a ∈ φ.s ∨ a ∈ φ.h := List.mem_append
/-- no table -/
def noT : Option HO → Option HO
  | some (.tbl _) => none
  | o => o
def isTb : HO → Bool
  | .tbl _ => true
  | _ => false
theorem noT_some {x : Option HO} {o : HO} : noT x = some o ↔ x = some o ∧ isTb o = false := by
  cases x with
  | none => exact ⟨fun z => (nomatch z), fun z => (nomatch z.1)⟩
  | some y =>
    cases y with
    | tbl ps => exact ⟨fun z => (nomatch z), fun z => by
        obtain ⟨z1, z2⟩ := z
        cases z1
        exact (nomatch z2)⟩
    | _ => exact ⟨fun z => ⟨z, by cases z; rfl⟩, fun z => z.1⟩
/-- the heap without the store's objects, the hidden ones and tables -/
def off (φ : Ad) (H : Hp) : Hp := fun a => if a ∈ φ.all then none else noT (H a)
theorem off_some {φ : Ad} {H : Hp} {a : Addr} {o : HO} : off φ H a = some o ↔ a ∉ φ.all ∧ H a = some o ∧ isTb o = false := by
  unfold off
  by_cases h : a ∈ φ.all
  · rw [if_pos h]
    exact Iff.intro (fun z => nomatch z) (fun z => absurd h z.1)
  · rw [if_neg h]
    exact Iff.intro (fun z => And.intro h (noT_some.mp z)) (fun z => noT_some.mpr z.2)
theorem sqT_mono {K : PySem.W.Frag} {H H' : Hp} {a : Addr} {xs : List V} (e : Same H H') (h : SqT K H a xs) : SqT K H' a xs := by
  rcases h with (h | ⟨o, h⟩) | h
  · exact Or.inl (Or.inl (e _ _ h))
  · exact Or.inl (Or.inr ⟨o, e _ _ h⟩)
  · exact Or.inr h
mutual
theorem dp_mono {K : PySem.W.Frag} {H H' : Hp} (e : Same H H') : ∀ {d : D} {v : V}, Dp K H v d → Dp K H' v d
  | _, _, .non => .non
  | _, _, .bl b => .bl b
  | _, _, .int i => .int i
  | _, _, .str x => .str x
  | _, _, .lst h ha => .lst (e.seq h) (dps_mono e ha)
  | _, _, .tup h ha => .tup (sqT_mono e h) (dps_mono e ha)
theorem dps_mono {K : PySem.W.Frag} {H H' : Hp} (e : Same H H') : ∀ {ds : List D} {vs : List V}, DpAll K H vs ds → DpAll K H' vs ds
  | _, _, .nil => .nil
  | _, _, .cons h t => .cons (dp_mono e h) (dps_mono e t)
end
theorem DpAll.len {K : PySem.W.Frag} {H : Hp} : ∀ {ds : List D} {vs : List V}, DpAll K H vs ds → vs.length = ds.length
  | _, _, .nil => rfl
  | _, _, .cons _ t => by
    rw [List.length_cons, List.length_cons, DpAll.len t]
theorem DpAll.append {K : PySem.W.Frag} {H : Hp} : ∀ {ds es : List D} {vs us : List V}, DpAll K H vs ds → DpAll K H us es → DpAll K H (vs ++ us) (ds ++ es)
  | _, _, _, _, .nil, h => h
  | _, _, _, _, .cons a t, h => .cons a (DpAll.append t h)
theorem DpAll.get {K : PySem.W.Frag} {H : Hp} : ∀ {ds : List D} {vs : List V} {i : Nat} {d : D}, DpAll K H vs ds → ds[i]? = some d → ∃ v, vs[i]? = some v ∧ Dp K H v d
  | _, _, _, _, .nil, e => by simp at e
  | _, _, 0, _, .cons (v := v) a t, e => by
    simp at e
    subst e
    exact ⟨v, rfl, a⟩
  | _, _, i + 1, _, .cons a t, e => by
    obtain ⟨v, h1, h2⟩ := DpAll.get (i := i) t (by simpa using e)
    exact ⟨v, by simpa using h1, h2⟩
theorem DpAll.get' {K : PySem.W.Frag} {H : Hp} : ∀ {ds : List D} {vs : List V} {i : Nat} {v : V}, DpAll K H vs ds → vs[i]? = some v → ∃ d, ds[i]? = some d ∧ Dp K H v d
  | _, _, _, _, .nil, e => by simp at e
  | _, _, 0, _, .cons (d := d) a t, e => by
    simp at e
    subst e
    exact ⟨d, rfl, a⟩
  | _, _, i + 1, _, .cons a t, e => by
    obtain ⟨v, h1, h2⟩ := DpAll.get' (i := i) t (by simpa using e)
    exact ⟨v, by simpa using h1, h2⟩
theorem DpAll.set {K : PySem.W.Frag} {H : Hp} {v : V} {d : D} (h : Dp K H v d) : ∀ {ds : List D} {vs : List V} (i : Nat), DpAll K H vs ds → DpAll K H (vs.set i v) (ds.set i d)
  | _, _, _, .nil => .nil
  | _, _, 0, .cons _ t => .cons h t
  | _, _, i + 1, .cons a t => .cons a (DpAll.set h i t)
theorem DpAll.take {K : PySem.W.Frag} {H : Hp} : ∀ {ds : List D} {vs : List V} (n : Nat), DpAll K H vs ds → DpAll K H (vs.take n) (ds.take n)
  | _, _, 0, _ => by simp; exact .nil
  | _, _, _ + 1, .nil => by simp; exact .nil
  | _, _, n + 1, .cons a t => by simp; exact .cons a (DpAll.take n t)
theorem DpAll.drop {K : PySem.W.Frag} {H : Hp} : ∀ {ds : List D} {vs : List V} (n : Nat), DpAll K H vs ds → DpAll K H (vs.drop n) (ds.drop n)
  | _, _, 0, h => by simpa using h
  | _, _, _ + 1, .nil => by simp; exact .nil
  | _, _, n + 1, .cons _ t => by simpa using DpAll.drop n t
theorem dpAll_ints {K : PySem.W.Frag} {H : Hp} : ∀ ns : List Int, DpAll K H (ns.map V.int) (ns.map PyData.int)
  | [] => .nil
  | n :: r => .cons (.int n) (dpAll_ints r)
theorem ints_of_dpAll {K : PySem.W.Frag} {H : Hp} : ∀ {ns : List Int} {vs : List V}, DpAll K H vs (ns.map PyData.int) → vs = ns.map V.int
  | [], _, h => by cases h; rfl
  | n :: r, _, h => by
    cases h with
    | cons a t =>
      cases a
      rw [ints_of_dpAll t]
      rfl

/-! ### keys of dicts -/
mutual
/-- keys that are tuples: of whole numbers, None, tuples of such -/
def keyN : D → Option NestedKey
  | .none => some .none
  | .int i => some (.num i)
  | .tuple ds => (keyNs ds).map .tup
  | _ => none
def keyNs : List D → Option (List NestedKey)
  | [] => some []
  | d :: ds => (keyN d).bind fun k => (keyNs ds).map fun ks => k :: ks
end
/-- keys that are whole numbers or texts -/
def keyK : D → Option Key
  | .int i => some (.inl i)
  | .str x => some (.inr x)
  | _ => none
/-- what stands at a dict of tuple keys (its entries' addresses known) -/
def XD (P : Program) (w : World) (a : Addr) (es : List (NestedKey × Addr × V)) : Heap → Prop := fun h => es.length ≤ sizeLine ∧ (a == sysModules) = false ∧ ∃ xs : List (NestedKey × Addr × Value),
  Paired (fun (p : NestedKey × Addr × V) (q : NestedKey × Addr × Value) => p.1 = q.1 ∧ p.2.1 = q.2.1 ∧ RelV p.2.2 q.2.2) es xs ∧
  ∃ o ea ep, h.get? a = some o ∧ o.ExactDict ∧ o.data = .dict ea ep ∧ ea.toList = xs.map (entryOfKey (nestedKind P w)) ∧ (xs.map (·.1)).Nodup
def lkd (lk : Bool) (u : HO) (x : Option HO) : Prop := match lk with
  | false => x = some u
  | true => ∃ o, x = some (.frz o u)
theorem lkd_mono {lk : Bool} {u : HO} {x y : Option HO} (k : ∀ v, x = some v → y = some v) (h : lkd lk u x) : lkd lk u y := by
  cases lk with
  | false => exact k _ h
  | true =>
    obtain ⟨o, h⟩ := h
    exact ⟨o, k _ h⟩
theorem lkd_here {lk : Bool} {u : HO} {x : Option HO} (h : lkd lk u x) : ∃ v, x = some v := by
  cases lk with
  | false => exact ⟨_, h⟩
  | true =>
    obtain ⟨o, h⟩ := h
    exact ⟨_, h⟩
abbrev KOk (K : PySem.W.Frag) (Ho : Hp) : List (Key × V) → List (D × D) → Prop := Paired fun p q => keyK q.1 = some p.1 ∧ Dp K Ho p.2 q.2
abbrev NOk (K : PySem.W.Frag) (Ho : Hp) : List (NestedKey × Addr × V) → List (D × D) → Prop := Paired fun p q => (keyN q.1 = some p.1 ∧ p.1.depth ≤ 8) ∧ Dp K Ho (.ref p.2.1) q.1 ∧ Dp K Ho p.2.2 q.2
/-- an object of the store at an address -/
def OR (K : PySem.W.Frag) (Ho H : Hp) (a : Addr) : Ob → Prop
  | .lst ds => ∃ xs, H a = some (.lst xs) ∧ DpAll K Ho xs ds
  | .dct false lk kvs => ∃ ks, lkd lk (.dK ks) (H a) ∧ KOk K Ho ks kvs
  | .dct true lk kvs => ∃ P w es, lkd lk (.ext (XD P w a es)) (H a) ∧ NOk K Ho es kvs
theorem OR.mono {K : PySem.W.Frag} {Ho Ho' H H' : Hp} {a : Addr} {o : Ob} (e : Same Ho Ho') (k : ∀ u, H a = some u → H' a = some u) (h : OR K Ho H a o) : OR K Ho' H' a o := by
  match o, h with
  | .lst ds, ⟨xs, h1, h2⟩ => exact ⟨xs, k _ h1, dps_mono e h2⟩
  | .dct false lk kvs, ⟨ks, h1, h2⟩ => exact ⟨ks, lkd_mono k h1, Paired.mapP h2 fun p q z => ⟨z.1, dp_mono e z.2⟩⟩
  | .dct true lk kvs, ⟨P, w, es, h1, h2⟩ => exact ⟨P, w, es, lkd_mono k h1, Paired.mapP h2 fun p q z => ⟨z.1, dp_mono e z.2.1, dp_mono e z.2.2⟩⟩
theorem OR.mono' {K : PySem.W.Frag} {Ho Ho' H H' : Hp} {a : Addr} {o : Ob} (h : OR K Ho H a o) (e : Same Ho Ho') (k : ∀ u, H a = some u → H' a = some u) : OR K Ho' H' a o := h.mono e k
theorem OR.here {K : PySem.W.Frag} {Ho H : Hp} {a : Addr} {o : Ob} (h : OR K Ho H a o) : ∃ u, H a = some u := by
  match o, h with
  | .lst ds, ⟨xs, h1, h2⟩ => exact ⟨_, h1⟩
  | .dct false lk kvs, ⟨ks, h1, h2⟩ => exact lkd_here h1
  | .dct true lk kvs, ⟨P, w, es, h1, h2⟩ => exact lkd_here h1

structure SR (ζ : Tbs) (K : PySem.W.Frag) (φ : Ad) (H : Hp) (m : M) : Prop where
  len : φ.s.length = m.length
  nd : φ.all.Nodup
  obj : ∀ (i : Nat) (o : Ob) (a : Addr), m[i]? = some o → φ.s[i]? = some a → OR K (off φ H) H a o
  hid : ∀ a ∈ φ.h, (∃ u, H a = some u ∧ isTb u = false) ∨ ∃ q, (a, q) ∈ φ.t
  teq : φ.t = ζ
  tin : ∀ p ∈ φ.t, p.1 ∈ φ.h
  tab : LamX.Tabs φ.t H
  pl : ∀ a u, H a = some u → plO u
  kt : KT K
structure Gr (φ : Ad) (H : Hp) (φ' : Ad) (H' : Hp) : Prop where
  pre : φ.s <+: φ'.s
  eqh : φ'.h = φ.h
  eqt : φ'.t = φ.t
  same : Same (off φ H) (off φ' H')
  stay : ∀ a ∈ φ.h, ∀ u, H a = some u → (∀ ps, u ≠ .tbl ps) → H' a = some u
  frz : ∀ a o u, H a = some (.frz o u) → H' a = some (.frz o u)
/-- growth that says nothing of the hidden ones -/
structure Gw (φ : Ad) (H : Hp) (φ' : Ad) (H' : Hp) : Prop where
  pre : φ.s <+: φ'.s
  same : Same (off φ H) (off φ' H')
  frz : ∀ a o u, H a = some (.frz o u) → H' a = some (.frz o u)
theorem Gr.w {φ φ' : Ad} {H H' : Hp} (g : Gr φ H φ' H') : Gw φ H φ' H' := ⟨g.pre, g.same, g.frz⟩
theorem Gw.trans {φ φ' φ2 : Ad} {H H' H2 : Hp} (a : Gw φ H φ' H') (b : Gw φ' H' φ2 H2) : Gw φ H φ2 H2 := ⟨a.pre.trans b.pre, a.same.trans b.same, fun c o u e => b.frz c o u (a.frz c o u e)⟩
def RI (K : PySem.W.Frag) (φ : Ad) (H : Hp) (v : V) : D ⊕ Nat → Prop
  | .inl d => Dp K (off φ H) v d
  | .inr i => ∃ a, v = .ref a ∧ φ.s[i]? = some a
def RR (K : PySem.W.Frag) (φ : Ad) (H : Hp) (v : V) : R → Prop
  | .val d => Dp K (off φ H) v d
  | .ref i => ∃ a, v = .ref a ∧ φ.s[i]? = some a
  | .tp rs => ∃ a vs, v = .ref a ∧ SqT K (off φ H) a vs ∧ Paired (RI K φ H) vs rs
abbrev RRs (K : PySem.W.Frag) (φ : Ad) (H : Hp) : List V → List R → Prop := Paired (RR K φ H)
structure ER (K : PySem.W.Frag) (φ : Ad) (H : Hp) (σ : L2.St) (env : Sl) : Prop where
  len : σ.length = env.length
  at_ : ∀ (i : Nat) (r : R), env[i]? = some (some r) → ∃ v, σ[i]? = some (some v) ∧ RR K φ H v r

section
variable {K : PySem.W.Frag} {φ φ' φ2 : Ad} {H H' H2 : Hp} {m m' : M} {σ : L2.St} {env : Sl} {v : V} {r : R}
theorem Gr.refl : Gr φ H φ H := ⟨List.prefix_refl _, rfl, rfl, fun _ _ h => h, fun _ _ _ h _ => h, fun _ _ _ h => h⟩
theorem Gr.trans (a : Gr φ H φ' H') (b : Gr φ' H' φ2 H2) : Gr φ H φ2 H2 := ⟨a.pre.trans b.pre, b.eqh.trans a.eqh, b.eqt.trans a.eqt, a.same.trans b.same, fun c hc u e n => b.stay c (by rw [a.eqh]; exact hc) u (a.stay c hc u e n) n, fun c o u e => b.frz c o u (a.frz c o u e)⟩
theorem prefix_get {α : Type} {l l' : List α} (h : l <+: l') {i : Nat} {x : α} (e : l[i]? = some x) : l'[i]? = some x := by
  obtain ⟨t, rfl⟩ := h
  rw [List.getElem?_append_left (List.getElem?_eq_some_iff.mp e).1]
  exact e
theorem RI.monoS (hp : φ.s <+: φ'.s) (hs : Same (off φ H) (off φ' H')) : ∀ {r : D ⊕ Nat} {v : V}, RI K φ H v r → RI K φ' H' v r
  | .inl _, _, h => dp_mono hs h
  | .inr _, _, ⟨a, e, h⟩ => ⟨a, e, prefix_get hp h⟩
theorem RR.monoS (hp : φ.s <+: φ'.s) (hs : Same (off φ H) (off φ' H')) : ∀ {r : R} {v : V}, RR K φ H v r → RR K φ' H' v r
  | .val _, _, h => dp_mono hs h
  | .ref _, _, ⟨a, e, h⟩ => ⟨a, e, prefix_get hp h⟩
  | .tp _, _, ⟨a, vs, e, h, t⟩ => ⟨a, vs, e, sqT_mono hs h, Paired.mapP t fun _ _ z => RI.monoS hp hs z⟩
theorem RR.monoW (g : Gw φ H φ' H') {r : R} {v : V} (h : RR K φ H v r) : RR K φ' H' v r := RR.monoS g.pre g.same h
theorem RR.mono (g : Gr φ H φ' H') {r : R} {v : V} (h : RR K φ H v r) : RR K φ' H' v r := h.monoW g.w
theorem RRs.mono (g : Gr φ H φ' H') : ∀ {rs : List R} {vs : List V}, RRs K φ H vs rs → RRs K φ' H' vs rs
  | _, _, .nil => .nil
  | _, _, .cons a t => .cons (RR.mono g a) (RRs.mono g t)
theorem ER.monoW (g : Gw φ H φ' H') (e : ER K φ H σ env) : ER K φ' H' σ env := ⟨e.len, fun i r h => by
  obtain ⟨v, h1, h2⟩ := e.at_ i r h
  exact ⟨v, h1, h2.monoW g⟩⟩
theorem ER.mono (g : Gr φ H φ' H') (e : ER K φ H σ env) : ER K φ' H' σ env := e.monoW g.w
theorem SR.in_ (s : SR ζ K φ H m) {a : Addr} (h : a ∈ φ.all) : ∃ u, H a = some u := by
  rcases Ad.mem.mp h with h | h
  · obtain ⟨i, hi, e⟩ := List.mem_iff_getElem.mp h
    have hm : i < m.length := by rw [← s.len]; exact hi
    exact (s.obj i m[i] a (List.getElem?_eq_getElem hm) (by rw [List.getElem?_eq_getElem hi, e])).here
  · rcases s.hid a h with ⟨u, e, _⟩ | ⟨q, e⟩
    · exact ⟨u, e⟩
    · obtain ⟨ps, e1, _⟩ := s.tab _ e
      exact ⟨_, e1⟩
theorem SR.new (s : SR ζ K φ H m) {p : Addr} (h : H p = none) : p ∉ φ.all := fun z => by
  obtain ⟨u, e⟩ := s.in_ z
  rw [h] at e
  cases e
theorem upd_stay {p b : Addr} {o u : HO} (h : H p = none) (e : H b = some u) : upd H p o b = some u := by
  rw [upd_ne (ne_of_none e h)]
  exact e
theorem gr_alloc {p : Addr} {o : HO} (h : H p = none) : Gr φ H φ (upd H p o) := ⟨List.prefix_refl _, rfl, rfl, fun b u e => by
  rw [off_some] at e ⊢
  exact ⟨e.1, upd_stay h e.2.1, e.2.2⟩, fun _ _ _ e _ => upd_stay h e, fun _ _ _ e => upd_stay h e⟩
theorem pl_upd {p : Addr} {o : HO} (h : ∀ a u, H a = some u → plO u) (ho : plO o) : ∀ a u, upd H p o a = some u → plO u := fun a u e => by
  by_cases z : a = p
  · subst z
    rw [upd_same] at e
    cases e
    exact ho
  · rw [upd_ne z] at e
    exact h a u e
theorem SR.alloc (s : SR ζ K φ H m) {p : Addr} {o : HO} (h : H p = none) (ho : plO o := by exact trivial) : SR ζ K φ (upd H p o) m := ⟨s.len, s.nd, fun i ob a e1 e2 =>
  (s.obj i ob a e1 e2).mono (gr_alloc h).same fun u z => upd_stay h z, fun a ha => by
    exact (s.hid a ha).imp (fun ⟨u, e, n⟩ => ⟨u, upd_stay h e, n⟩) id, s.teq, s.tin, s.tab.ext fun b u e => upd_stay h e, pl_upd s.pl ho, s.kt⟩
/-- the new object enters the store -/
theorem gr_enter {p : Addr} {o : HO} (h : H p = none) : Gr φ H (φ.add p) (upd H p o) := ⟨List.prefix_append _ _, rfl, rfl, fun b u e => by
  rw [off_some] at e ⊢
  have hb : b ≠ p := ne_of_none e.2.1 h
  refine ⟨fun z => ?_, upd_stay h e.2.1, e.2.2⟩
  rcases Ad.mem.mp z with z | z
  · rcases List.mem_append.mp z with z | z
    · exact e.1 (Ad.mem.mpr (.inl z))
    · simp at z
      exact hb z
  · exact e.1 (Ad.mem.mpr (.inr z)), fun _ _ _ e _ => upd_stay h e, fun _ _ _ e => upd_stay h e⟩
theorem nodup_add {p : Addr} (h : φ.all.Nodup) (np : p ∉ φ.all) : (φ.add p).all.Nodup := by
  unfold Ad.all Ad.add at *
  rw [List.append_assoc, List.nodup_append] at *
  obtain ⟨h1, h2, h3⟩ := h
  refine ⟨h1, ?_, fun a ha b hb => ?_⟩
  · show (p :: φ.h).Nodup
    exact List.nodup_cons.mpr ⟨fun z => np (List.mem_append_right _ z), h2⟩
  · rcases List.mem_cons.mp (show b ∈ p :: φ.h from hb) with e | e
    · subst e
      exact fun z => np (List.mem_append_left _ (z ▸ ha))
    · exact h3 a ha b e
theorem SR.enterO (s : SR ζ K φ H m) {p : Addr} {o : HO} {ob : Ob} (h : H p = none) (hd : OR K (off φ H) (upd H p o) p ob) (ho : plO o := by exact trivial) : SR ζ K (φ.add p) (upd H p o) (m ++ [ob]) := by
  have np := s.new h
  have g : Gr φ H (φ.add p) (upd H p o) := gr_enter h
  refine ⟨by unfold Ad.add; rw [List.length_append, List.length_append, s.len]; rfl, nodup_add s.nd np, fun i ob a e1 e2 => ?_, fun a ha => ?_, s.teq, s.tin, s.tab.ext fun b u e => upd_stay h e, pl_upd s.pl ho, s.kt⟩
  · unfold Ad.add at e2
    simp only at e2
    by_cases hi : i < m.length
    · rw [List.getElem?_append_left hi] at e1
      rw [List.getElem?_append_left (by rw [s.len]; exact hi)] at e2
      exact (s.obj i ob a e1 e2).mono g.same fun u z => upd_stay h z
    · have e : i = m.length := by
        have := (List.getElem?_eq_some_iff.mp e1).1
        rw [List.length_append] at this
        simp at this
        omega
      subst e
      rw [List.getElem?_append_right (Nat.le_refl _), Nat.sub_self] at e1
      rw [← s.len, List.getElem?_append_right (Nat.le_refl _), Nat.sub_self] at e2
      simp at e1 e2
      subst e1 e2
      exact hd.mono g.same fun u z => z
  · exact (s.hid a ha).imp (fun ⟨u, e, n⟩ => ⟨u, upd_stay h e, n⟩) id
theorem SR.enter (s : SR ζ K φ H m) {p : Addr} {xs : List V} {ds : List D} (h : H p = none) (hd : DpAll K (off φ H) xs ds) : SR ζ K (φ.add p) (upd H p (.lst xs)) (m ++ [.lst ds]) :=
  s.enterO h ⟨xs, upd_same, hd⟩
/-- an object of the store is changed -/
theorem nodup_at {α : Type} : ∀ {l : List α} {i j : Nat} {x : α}, l.Nodup → l[i]? = some x → l[j]? = some x → i = j := fun {l i j x} hn a b => by
  obtain ⟨h1, e1⟩ := List.getElem?_eq_some_iff.mp a
  obtain ⟨h2, e2⟩ := List.getElem?_eq_some_iff.mp b
  exact (List.getElem_inj hn).mp (e1.trans e2.symm)
theorem SR.nds (s : SR ζ K φ H m) : φ.s.Nodup := (List.nodup_append.mp s.nd).1
theorem SR.apart (s : SR ζ K φ H m) {a : Addr} (h : a ∈ φ.s) : a ∉ φ.h := fun z => (List.nodup_append.mp s.nd).2.2 a h a z rfl
/-- tables do not mind what is no table and no code object -/
theorem tabs_keep {T : List (Addr × Str)} {H H' : Hp} (t : LamX.Tabs T H) (e : ∀ b o, H b = some o → ((∃ ps, o = .tbl ps) ∨ ∃ q, o = LamX.CodeO b q) → H' b = some o) : LamX.Tabs T H' := fun p hp => by
  obtain ⟨ps, h1, h2, h3⟩ := t p hp
  refine ⟨ps, e _ _ h1 (.inl ⟨ps, rfl⟩), h2, fun pos cv hc => ?_⟩
  obtain ⟨c, e1, e2⟩ := h3 pos cv hc
  exact ⟨c, e1, e _ _ e2 (.inr ⟨_, rfl⟩)⟩
theorem codeO_lst {b : Addr} {q : Str} {xs : List V} : HO.lst xs ≠ LamX.CodeO b q := fun z => by
  unfold LamX.CodeO at z
  cases z
/-- neither a table nor a code object -/
def NoTC (a : Addr) (o : HO) : Prop := (∀ ps, o ≠ .tbl ps) ∧ ∀ q, o ≠ LamX.CodeO a q
theorem xd_code {P : Program} {w : World} {a : Addr} {es : List (NestedKey × Addr × V)} {q : Str} : HO.ext (XD P w a es) ≠ LamX.CodeO a q := fun z => by
  unfold LamX.CodeO at z
  injection z with z
  let oc : Obj := { cls := .none, data := .fields #[.none, .str q 0] }
  have hg : (⟨Array.replicate (a + 1) oc, {}⟩ : Heap).get? a = some oc := by
    unfold Heap.get?
    rw [show (⟨Array.replicate (a + 1) oc, {}⟩ : Heap).objs[a]? = some oc by simp]
  have e := congrFun z ⟨Array.replicate (a + 1) oc, {}⟩
  have f : XD P w a es ⟨Array.replicate (a + 1) oc, {}⟩ := by
    rw [e]
    exact ⟨oc, _, 0, hg, rfl, rfl⟩
  obtain ⟨_, _, xs, _, o, ea, ep, h1, _, h2, _⟩ := f
  rw [hg] at h1
  cases h1
  cases h2
theorem lkd_tc {lk : Bool} {u v : HO} {x : Option HO} {a : Addr} (hu : NoTC a u) (h : lkd lk u x) (e : x = some v) : NoTC a v := by
  cases lk with
  | false =>
    rw [show x = some u from h] at e
    cases e
    exact hu
  | true =>
    obtain ⟨o, h⟩ := h
    rw [h] at e
    cases e
    exact ⟨fun _ z => (nomatch z), fun _ z => (by unfold LamX.CodeO at z; cases z)⟩
theorem OR.tc {K : PySem.W.Frag} {Ho H : Hp} {a : Addr} {ob : Ob} {v : HO} (h : OR K Ho H a ob) (e : H a = some v) : NoTC a v := by
  match ob, h with
  | .lst ds, ⟨xs, h1, h2⟩ =>
    rw [h1] at e
    cases e
    exact ⟨fun _ z => (nomatch z), fun _ z => (by unfold LamX.CodeO at z; cases z)⟩
  | .dct false lk kvs, ⟨ks, h1, h2⟩ => exact lkd_tc (u := .dK ks) ⟨fun _ z => (nomatch z), fun _ z => (by unfold LamX.CodeO at z; cases z)⟩ h1 e
  | .dct true lk kvs, ⟨P, w, es, h1, h2⟩ => exact lkd_tc (u := .ext (XD P w a es)) ⟨fun _ z => (nomatch z), fun _ => xd_code⟩ h1 e
theorem tabs_writeO {T : List (Addr × Str)} {H : Hp} {a : Addr} {v o : HO} (t : LamX.Tabs T H) (h : H a = some v) (n : NoTC a v) : LamX.Tabs T (upd H a o) := tabs_keep t fun b u e k => by
  have nb : b ≠ a := fun z => by
    rw [z, h] at e
    cases e
    rcases k with ⟨ps, k⟩ | ⟨q, k⟩
    · exact n.1 ps k
    · exact n.2 q (z ▸ k)
  rw [upd_ne nb]
  exact e
theorem tabs_write {T : List (Addr × Str)} {H : Hp} {a : Addr} {xs : List V} {o : HO} (t : LamX.Tabs T H) (h : H a = some (.lst xs)) : LamX.Tabs T (upd H a o) :=
  tabs_writeO t h ⟨fun _ z => (nomatch z), fun _ z => (by unfold LamX.CodeO at z; cases z)⟩
theorem gr_write {a : Addr} {o : HO} (h : a ∈ φ.s) (hn : a ∉ φ.h) (nf : ∀ ob u, H a ≠ some (.frz ob u)) : Gr φ H φ (upd H a o) := ⟨List.prefix_refl _, rfl, rfl, fun b u e => by
  rw [off_some] at e ⊢
  refine ⟨e.1, ?_, e.2.2⟩
  rw [upd_ne (fun z : b = a => e.1 (Ad.mem.mpr (.inl (by rw [z]; exact h))))]
  exact e.2.1, fun b hb u e _ => by
  rw [upd_ne (fun z : b = a => hn (by rw [← z]; exact hb))]
  exact e, fun b ob u e => by
  rw [upd_ne (fun z : b = a => nf ob u (by rw [← z]; exact e))]
  exact e⟩
/-- the object of an address changes; off stays -/
theorem off_write {a : Addr} {o : HO} (h : a ∈ φ.s) : Same (off φ H) (off φ (upd H a o)) := fun b u e => by
  rw [off_some] at e ⊢
  refine ⟨e.1, ?_, e.2.2⟩
  rw [upd_ne (fun z : b = a => e.1 (Ad.mem.mpr (.inl (by rw [z]; exact h))))]
  exact e.2.1
theorem SR.writeO (s : SR ζ K φ H m) {a : Addr} {i : Nat} {o : HO} {ob : Ob} (h : φ.s[i]? = some a) (hd : OR K (off φ H) (upd H a o) a ob) (ho : plO o := by exact trivial) : SR ζ K φ (upd H a o) (m.set i ob) := by
  have ha : a ∈ φ.s := List.mem_of_getElem? h
  have hn := s.apart ha
  have g : Same (off φ H) (off φ (upd H a o)) := off_write ha
  have hi : i < m.length := by rw [← s.len]; exact (List.getElem?_eq_some_iff.mp h).1
  obtain ⟨ob0, hob0⟩ : ∃ ob, m[i]? = some ob := ⟨m[i], List.getElem?_eq_getElem hi⟩
  have q := s.obj i ob0 a hob0 h
  obtain ⟨v0, hv0⟩ := q.here
  refine ⟨by rw [List.length_set]; exact s.len, s.nd, fun j ob b e1 e2 => ?_, fun b hb => ?_, s.teq, s.tin, tabs_writeO s.tab hv0 (q.tc hv0), pl_upd s.pl ho, s.kt⟩
  · by_cases hj : j = i
    · subst hj
      rw [List.getElem?_set_self hi] at e1
      rw [h] at e2
      cases e1
      cases e2
      exact hd.mono g fun u z => z
    · rw [List.getElem?_set_ne (fun z => hj z.symm)] at e1
      have nb : b ≠ a := fun z => hj (nodup_at s.nds (z ▸ e2) h)
      exact (s.obj j ob b e1 e2).mono g fun u z => by rw [upd_ne nb]; exact z
  · exact (s.hid b hb).imp (fun ⟨u, e, n⟩ => ⟨u, by rw [upd_ne (fun z : b = a => hn (by rw [← z]; exact hb))]; exact e, n⟩) id
theorem SR.write (s : SR ζ K φ H m) {a : Addr} {i : Nat} {xs : List V} {ds : List D} (h : φ.s[i]? = some a) (hd : DpAll K (off φ H) xs ds) : SR ζ K φ (upd H a (.lst xs)) (m.set i (.lst ds)) :=
  s.writeO h ⟨xs, upd_same, hd⟩
theorem nf_lst {H : Hp} {a : Addr} {xs : List V} (h : H a = some (.lst xs)) : ∀ ob u, H a ≠ some (.frz ob u) := fun ob u e => by
  rw [h] at e
  cases e
theorem nf_dK {H : Hp} {a : Addr} {xs : List (Key × V)} (h : H a = some (.dK xs)) : ∀ ob u, H a ≠ some (.frz ob u) := fun ob u e => by
  rw [h] at e
  cases e
theorem nf_ext {H : Hp} {a : Addr} {x : Heap → Prop} (h : H a = some (.ext x)) : ∀ ob u, H a ≠ some (.frz ob u) := fun ob u e => by
  rw [h] at e
  cases e
theorem ER.get (e : ER K φ H σ env) {i : Nat} {r : R} (h : env[i]? = some (some r)) : ∃ v, σ[i]? = some (some v) ∧ RR K φ H v r := e.at_ i r h
theorem ER.set (e : ER K φ H σ env) (h : RR K φ H v r) (i : Nat) : ER K φ H (σ.set i (some v)) (env.set i (some r)) := ⟨by rw [List.length_set, List.length_set]; exact e.len, fun j r' he => by
  by_cases hj : j = i
  · subst hj
    have hlt : j < env.length := by
      have := (List.getElem?_eq_some_iff.mp he).1
      rwa [List.length_set] at this
    rw [List.getElem?_set_self hlt] at he
    cases he
    exact ⟨v, by rw [List.getElem?_set_self (by rw [e.len]; exact hlt)], h⟩
  · rw [List.getElem?_set_ne (fun z => hj z.symm)] at he ⊢
    exact e.at_ j r' he⟩
end

/-! ### readings of functions -/
abbrev EF := Sl → M → Option (R × M)
abbrev AF := Sl → M → Option (List R × M)
abbrev TF := Sl → M → Option (Bool × M)
def tE (ζ : Tbs) (K : PySem.W.Frag) (f : EF) : TE := fun σ H Q => ∃ φ env m r m', SR ζ K φ H m ∧ ER K φ H σ env ∧ f env m = some (r, m') ∧
  ∀ φ' H' v, Gr φ H φ' H' → SR ζ K φ' H' m' → RR K φ' H' v r → Q v H'
def tA (ζ : Tbs) (K : PySem.W.Frag) (f : AF) : TA := fun σ H Q => ∃ φ env m rs m', SR ζ K φ H m ∧ ER K φ H σ env ∧ f env m = some (rs, m') ∧
  ∀ φ' H' vs, Gr φ H φ' H' → SR ζ K φ' H' m' → RRs K φ' H' vs rs → Q vs H'
def tT (ζ : Tbs) (K : PySem.W.Frag) (f : TF) : TT := fun σ H Q => ∃ φ env m b m', SR ζ K φ H m ∧ ER K φ H σ env ∧ f env m = some (b, m') ∧
  ∀ φ' H', Gr φ H φ' H' → SR ζ K φ' H' m' → Q b H'
/-- an operation of two values -/
def r2P (ζ : Tbs) (K : PySem.W.Frag) (p : R → R → M → Option (R × M)) : R2 := fun x y H Q => ∃ φ m r1 r2 r m', SR ζ K φ H m ∧ RR K φ H x r1 ∧ RR K φ H y r2 ∧ p r1 r2 m = some (r, m') ∧
  ∀ φ' H' v, Gr φ H φ' H' → SR ζ K φ' H' m' → RR K φ' H' v r → Q v H'
def r1P (ζ : Tbs) (K : PySem.W.Frag) (p : R → M → Option (R × M)) : V → Hp → VK → Prop := fun x H Q => ∃ φ m r1 r m', SR ζ K φ H m ∧ RR K φ H x r1 ∧ p r1 m = some (r, m') ∧
  ∀ φ' H' v, Gr φ H φ' H' → SR ζ K φ' H' m' → RR K φ' H' v r → Q v H'
def rsP (ζ : Tbs) (K : PySem.W.Frag) (p : List R → M → Option (R × M)) : List V → Hp → VK → Prop := fun xs H Q => ∃ φ m rs r m', SR ζ K φ H m ∧ RRs K φ H xs rs ∧ p rs m = some (r, m') ∧
  ∀ φ' H' v, Gr φ H φ' H' → SR ζ K φ' H' m' → RR K φ' H' v r → Q v H'

theorem pe_imp {X : Cx} {e : Expr} {t t' : TE} (h : PE X e t) (k : ∀ σ H Q, t' σ H Q → t σ H Q) : PE X e t' := ⟨fun pins s σ H Q I q => h.run pins s σ H Q I (k σ H Q q)⟩
theorem pt_imp {X : Cx} {e : Expr} {t t' : TT} (h : PT X e t) (k : ∀ σ H Q, t' σ H Q → t σ H Q) : PT X e t' := ⟨fun pins s σ H Q I q => h.run pins s σ H Q I (k σ H Q q)⟩
theorem pw_imp {X : Cx} {e : Expr} {t t' : TT} (h : PW X e t) (k : ∀ σ H Q, t' σ H Q → t σ H Q) : PW X e t' := ⟨fun wh pins s σ H Q I q => h.run wh pins s σ H Q I (k σ H Q q)⟩
theorem pa_imp {X : Cx} {e : List Expr} {t t' : TA} (h : PA X e t) (k : ∀ σ H Q, t' σ H Q → t σ H Q) : PA X e t' := ⟨fun ps pins s σ H Q I q => h.run ps pins s σ H Q I (k σ H Q q)⟩
theorem ps_imp {X : Cx} {e : Stmt} {t t' : TS} (h : PS X e t) (k : ∀ D σ H, t' D σ H → t D σ H) : PS X e t' := ⟨fun pins s σ H D I q => h.run pins s σ H D I (k D σ H q)⟩
theorem pss_imp {X : Cx} {e : List Stmt} {t t' : TS} (h : PSs X e t) (k : ∀ D σ H, t' D σ H → t D σ H) : PSs X e t' := ⟨fun pins s σ H D I q => h.run pins s σ H D I (k D σ H q)⟩
theorem pi_imp {X : Cx} {tg e : Expr} {t t' : TI} (h : PI X tg e t) (k : ∀ σ H R, t' σ H R → t σ H R) : PI X tg e t' := ⟨fun pins s σ H R I q => h.run pins s σ H R I (k σ H R q)⟩

/-! ### the functions -/
def eVar (i : Nat) : EF := fun env m => match env[i]? with
  | some (some r) => some (r, m)
  | _ => none
def eC (d : D) : EF := fun _ m => some (.val d, m)
def eBin (p : R → R → M → Option (R × M)) (f g : EF) : EF := fun env m => (f env m).bind fun x => (g env x.2).bind fun y => p x.1 y.1 y.2
def eUn (p : R → M → Option (R × M)) (f : EF) : EF := fun env m => (f env m).bind fun x => p x.1 x.2
def aNil : AF := fun _ m => some ([], m)
def aCons (f : EF) (g : AF) : AF := fun env m => (f env m).bind fun x => (g env x.2).bind fun y => some (x.1 :: y.1, y.2)
def eAp (p : List R → M → Option (R × M)) (f : AF) : EF := fun env m => (f env m).bind fun x => p x.1 x.2
def asB : R → Option Bool
  | .val (.bool b) => some b
  | _ => none
def tOf (f : EF) : TF := fun env m => (f env m).bind fun x => (asB x.1).bind fun b => some (b, x.2)
def tNotF (f : TF) : TF := fun env m => (f env m).bind fun x => some (!x.1, x.2)
def tAndF (f g : TF) : TF := fun env m => (f env m).bind fun x => if x.1 = true then g env x.2 else some (false, x.2)
def tOrF (f g : TF) : TF := fun env m => (f env m).bind fun x => if x.1 = true then some (true, x.2) else g env x.2
def eOf (f : TF) : EF := fun env m => (f env m).bind fun x => some (.val (.bool x.1), x.2)
def eIf (c : TF) (f g : EF) : EF := fun env m => (c env m).bind fun x => if x.1 = true then f env x.2 else g env x.2
/-- a op b op' c -/
def eChain (p q : R → R → M → Option (R × M)) (f g h : EF) : EF := fun env m => (f env m).bind fun x => (g env x.2).bind fun y => (p x.1 y.1 y.2).bind fun z =>
  (asB z.1).bind fun b => if b = true then (h env z.2).bind fun w => q y.1 w.1 w.2 else some (.val (.bool false), z.2)
theorem bind_some_iff {α β : Type} {o : Option α} {f : α → Option β} {b : β} (h : o.bind f = some b) : ∃ a, o = some a ∧ f a = some b := by
  cases o with
  | none => cases h
  | some a => exact ⟨a, rfl, h⟩
theorem asB_some {r : R} {b : Bool} (h : asB r = some b) : r = .val (.bool b) := by
  cases r with
  | ref i => cases h
  | tp i => cases h
  | val d =>
    cases d with
    | bool c =>
      cases h
      rfl
    | _ => cases h
theorem rr_bool {K : PySem.W.Frag} {φ : Ad} {H : Hp} {v : V} {b : Bool} (h : RR K φ H v (.val (.bool b))) : v = .bl b := by
  have h' : Dp K (off φ H) v (.bool b) := h
  cases h'
  rfl

section
variable {X : Cx} {a b c e : Expr} {es : List Expr} {f g h : EF} {fa : AF} {tf tg : TF} {pos : Pos}
theorem x_var {i : Nat} {x : Str} (hp : PE X (.Name x pos) (tVar i)) : PE X (.Name x pos) (tE ζ X.K (eVar i)) := pe_imp hp fun σ H Q q => by
  obtain ⟨φ, env, m, r, m', S, E, hf, k⟩ := q
  have hr : env[i]? = some (some r) ∧ m = m' := by
    unfold eVar at hf
    split at hf
    · rename_i r' h
      cases hf
      exact ⟨h, rfl⟩
    · cases hf
  obtain ⟨v, h1, h2⟩ := E.get hr.1
  exact ⟨v, h1, k φ H v .refl (hr.2 ▸ S) h2⟩
theorem x_c {d : D} {v : V} (hp : PE X e (tC v)) (hv : ∀ H, Dp X.K H v d) : PE X e (tE ζ X.K (eC d)) := pe_imp hp fun σ H Q q => by
  obtain ⟨φ, env, m, r, m', S, E, hf, k⟩ := q
  cases hf
  exact k φ H v .refl S (hv _)
theorem x_int {i : Int} {j : Nat} : PE X (.Constant (.int i) j pos) (tE ζ X.K (eC (.int i))) := x_c pe_int fun _ => .int i
theorem x_bl {i : Bool} {j : Nat} : PE X (.Constant (.bool i) j pos) (tE ζ X.K (eC (.bool i))) := x_c pe_bl fun _ => .bl i
theorem x_non {j : Nat} : PE X (.Constant .none j pos) (tE ζ X.K (eC .none)) := x_c pe_non fun _ => .non
theorem x_str {z : Str} {j : Nat} : PE X (.Constant (.str z) j pos) (tE ζ X.K (eC (.str z))) := x_c pe_str fun _ => .str z
/-- two values one after the other, then an operation -/
theorem two_imp {K : PySem.W.Frag} {p : R → R → M → Option (R × M)} {σ : L2.St} {H : Hp} {Q : VK} (q : tE ζ K (eBin p f g) σ H Q) : tOp (r2P ζ K p) (tE ζ K f) (tE ζ K g) σ H Q := by
  obtain ⟨φ, env, m, r, m', S, E, hf, k⟩ := q
  obtain ⟨⟨r1, m1⟩, h1, hf⟩ := bind_some_iff hf
  obtain ⟨⟨r2, m2⟩, h2, hf⟩ := bind_some_iff hf
  refine ⟨φ, env, m, r1, m1, S, E, h1, fun φ1 H1 v1 g1 S1 R1 => ?_⟩
  refine ⟨φ1, env, m1, r2, m2, S1, E.mono g1, h2, fun φ2 H2 v2 g2 S2 R2 => ?_⟩
  exact ⟨φ2, m2, r1, r2, r, m', S2, R1.mono g2, R2, hf, fun φ3 H3 v3 g3 S3 R3 => k φ3 H3 v3 (g1.trans (g2.trans g3)) S3 R3⟩
theorem x_bin {op : Operator} {p : R → R → M → Option (R × M)} (ho : OpR X (binaryOp op) (r2P ζ X.K p)) (ha : PE X a (tE ζ X.K f)) (hb : PE X b (tE ζ X.K g)) : PE X (.BinOp a op b pos) (tE ζ X.K (eBin p f g)) :=
  pe_imp (pe_op ho ha hb) fun _ _ _ q => two_imp q
theorem x_cmp {op : CmpOp} {p : R → R → M → Option (R × M)} (ho : OpR X (compareOp op) (r2P ζ X.K p)) (ha : PE X a (tE ζ X.K f)) (hb : PE X b (tE ζ X.K g)) (hm : behindInMarks op b = false) : PE X (.Compare a [op] [b] pos) (tE ζ X.K (eBin p f g)) :=
  pe_imp (pe_cmpR ho ha hb hm) fun _ _ _ q => two_imp q
theorem x_un {op : UnaryOp} {p : R → M → Option (R × M)} (ho : UnR X (unaryOp op) (r1P ζ X.K p)) (ha : PE X a (tE ζ X.K f)) : PE X (.UnaryOp op a pos) (tE ζ X.K (eUn p f)) :=
  pe_imp (pe_un ho ha) fun σ H Q q => by
    obtain ⟨φ, env, m, r, m', S, E, hf, k⟩ := q
    obtain ⟨⟨r1, m1⟩, h1, hf⟩ := bind_some_iff hf
    refine ⟨φ, env, m, r1, m1, S, E, h1, fun φ1 H1 v1 g1 S1 R1 => ?_⟩
    exact ⟨φ1, m1, r1, r, m', S1, R1, hf, fun φ3 H3 v3 g3 S3 R3 => k φ3 H3 v3 (g1.trans g3) S3 R3⟩
/-- a value known to be a bool, as a test -/
theorem tst_imp {K : PySem.W.Frag} {σ : L2.St} {H : Hp} {Q : Bool → Hp → Prop} (q : tT ζ K (tOf f) σ H Q) : tTest (tE ζ K f) σ H Q := by
  obtain ⟨φ, env, m, r, m', S, E, hf, k⟩ := q
  obtain ⟨⟨r1, m1⟩, h1, hf⟩ := bind_some_iff hf
  obtain ⟨b, hb, hf⟩ := bind_some_iff hf
  cases hf
  have hb' := asB_some hb
  simp only at hb'
  subst hb'
  exact ⟨φ, env, m, _, m1, S, E, h1, fun φ1 H1 v1 g1 S1 R1 => ⟨_, rr_bool R1, k φ1 H1 g1 S1⟩⟩
theorem y_cmp {op : CmpOp} {p : R → R → M → Option (R × M)} (ho : OpR X (compareOp op) (r2P ζ X.K p)) (ha : PE X a (tE ζ X.K f)) (hb : PE X b (tE ζ X.K g)) (hm : behindInMarks op b = false) : PT X (.Compare a [op] [b] pos) (tT ζ X.K (tOf (eBin p f g))) :=
  pt_imp (pt_cmpR ho ha hb hm) fun σ H Q q => by
    have h1 := tst_imp q
    exact two_imp (Q := fun x H' => ∃ k, x = .bl k ∧ Q k H') h1
/-- any expression without a way of its own as a test -/
theorem y_val (he : PE X e (tE ζ X.K f)) (hw : ∀ whole, isTrue e X.env whole = (do let v ← whole; standAt e.pos; holding [v] (truthy v)) := by intro _; rfl) : PT X e (tT ζ X.K (tOf f)) :=
  pt_imp (pt_val he hw) fun _ _ _ q => tst_imp q
theorem chain_imp {K : PySem.W.Frag} {p p' : R → R → M → Option (R × M)} {σ : L2.St} {H : Hp} {Q : VK} (q : tE ζ K (eChain p p' f g h) σ H Q) : tChain (r2P ζ K p) (r2P ζ K p') (tE ζ K f) (tE ζ K g) (tE ζ K h) σ H Q := by
  obtain ⟨φ, env, m, r, m', S, E, hf, k⟩ := q
  obtain ⟨⟨r1, m1⟩, h1, hf⟩ := bind_some_iff hf
  obtain ⟨⟨r2, m2⟩, h2, hf⟩ := bind_some_iff hf
  obtain ⟨⟨r3, m3⟩, h3, hf⟩ := bind_some_iff hf
  obtain ⟨b, hb, hf⟩ := bind_some_iff hf
  have hb' := asB_some hb
  simp only at hb'
  subst hb'
  refine ⟨φ, env, m, r1, m1, S, E, h1, fun φ1 H1 v1 g1 S1 R1 => ?_⟩
  refine ⟨φ1, env, m1, r2, m2, S1, E.mono g1, h2, fun φ2 H2 v2 g2 S2 R2 => ?_⟩
  refine ⟨φ2, m2, r1, r2, _, m3, S2, R1.mono g2, R2, h3, fun φ3 H3 v3 g3 S3 R3 => ⟨b, rr_bool R3, ?_⟩⟩
  cases b with
  | false =>
    rw [if_neg Bool.false_ne_true]
    simp only [Bool.false_eq_true, if_false] at hf
    cases hf
    exact k φ3 H3 _ (g1.trans (g2.trans g3)) S3 (Dp.bl false)
  | true =>
    rw [if_pos rfl]
    simp only [if_true] at hf
    obtain ⟨⟨r4, m4⟩, h4, hf⟩ := bind_some_iff hf
    refine ⟨φ3, env, m3, r4, m4, S3, E.mono (g1.trans (g2.trans g3)), h4, fun φ4 H4 v4 g4 S4 R4 => ?_⟩
    exact ⟨φ4, m4, r2, r4, r, m', S4, R2.mono (g3.trans g4), R4, hf, fun φ5 H5 v5 g5 S5 R5 => k φ5 H5 v5 (g1.trans (g2.trans (g3.trans (g4.trans g5)))) S5 R5⟩
theorem x_chain {op op' : CmpOp} {p p' : R → R → M → Option (R × M)} (ho : OpR X (compareOp op) (r2P ζ X.K p)) (ho' : OpR X (compareOp op') (r2P ζ X.K p')) (ha : PE X a (tE ζ X.K f)) (hb : PE X b (tE ζ X.K g)) (hc : PE X c (tE ζ X.K h))
    (hm : lastMarks [op, op'] [b, c] = false := by with_unfolding_all rfl) : PE X (.Compare a [op, op'] [b, c] pos) (tE ζ X.K (eChain p p' f g h)) :=
  pe_imp (pe_chain ho ho' ha hb hc hm) fun _ _ _ q => chain_imp q
theorem y_chain {op op' : CmpOp} {p p' : R → R → M → Option (R × M)} (ho : OpR X (compareOp op) (r2P ζ X.K p)) (ho' : OpR X (compareOp op') (r2P ζ X.K p')) (ha : PE X a (tE ζ X.K f)) (hb : PE X b (tE ζ X.K g)) (hc : PE X c (tE ζ X.K h))
    (hm : lastMarks [op, op'] [b, c] = false := by with_unfolding_all rfl) : PT X (.Compare a [op, op'] [b, c] pos) (tT ζ X.K (tOf (eChain p p' f g h))) :=
  pt_imp (pt_chain ho ho' ha hb hc hm) fun σ H Q q => by
    have h1 := tst_imp q
    exact chain_imp (Q := fun x H' => ∃ k, x = .bl k ∧ Q k H') h1
theorem y_not (ha : PT X a (tT ζ X.K tf)) : PT X (.UnaryOp .Not a pos) (tT ζ X.K (tNotF tf)) := pt_imp (pt_not ha) fun σ H Q q => by
  obtain ⟨φ, env, m, r, m', S, E, hf, k⟩ := q
  obtain ⟨⟨r1, m1⟩, h1, hf⟩ := bind_some_iff hf
  cases hf
  exact ⟨φ, env, m, r1, m1, S, E, h1, fun φ1 H1 g1 S1 => k φ1 H1 g1 S1⟩
theorem w_and1 (ha : PT X a (tT ζ X.K tf)) : PW X (.BoolOp .And [a] pos) (tT ζ X.K tf) := pw_and1 ha
theorem w_or1 (ha : PT X a (tT ζ X.K tf)) : PW X (.BoolOp .Or [a] pos) (tT ζ X.K tf) := pw_or1 ha
theorem w_and (ha : PT X a (tT ζ X.K tf)) (hb : PW X (.BoolOp .And (b :: es) pos) (tT ζ X.K tg)) : PW X (.BoolOp .And (a :: b :: es) pos) (tT ζ X.K (tAndF tf tg)) := pw_imp (pw_and ha hb) fun σ H Q q => by
  obtain ⟨φ, env, m, r, m', S, E, hf, k⟩ := q
  obtain ⟨⟨r1, m1⟩, h1, hf⟩ := bind_some_iff hf
  refine ⟨φ, env, m, r1, m1, S, E, h1, fun φ1 H1 g1 S1 => ?_⟩
  cases r1 with
  | false =>
    rw [if_neg Bool.false_ne_true]
    simp only [Bool.false_eq_true, if_false] at hf
    cases hf
    exact k φ1 H1 g1 S1
  | true =>
    rw [if_pos rfl]
    simp only [if_true] at hf
    exact ⟨φ1, env, m1, r, m', S1, E.mono g1, hf, fun φ2 H2 g2 S2 => k φ2 H2 (g1.trans g2) S2⟩
theorem w_or (ha : PT X a (tT ζ X.K tf)) (hb : PW X (.BoolOp .Or (b :: es) pos) (tT ζ X.K tg)) : PW X (.BoolOp .Or (a :: b :: es) pos) (tT ζ X.K (tOrF tf tg)) := pw_imp (pw_or ha hb) fun σ H Q q => by
  obtain ⟨φ, env, m, r, m', S, E, hf, k⟩ := q
  obtain ⟨⟨r1, m1⟩, h1, hf⟩ := bind_some_iff hf
  refine ⟨φ, env, m, r1, m1, S, E, h1, fun φ1 H1 g1 S1 => ?_⟩
  cases r1 with
  | true =>
    rw [if_pos rfl]
    simp only [if_true] at hf
    cases hf
    exact k φ1 H1 g1 S1
  | false =>
    rw [if_neg Bool.false_ne_true]
    simp only [Bool.false_eq_true, if_false] at hf
    exact ⟨φ1, env, m1, r, m', S1, E.mono g1, hf, fun φ2 H2 g2 S2 => k φ2 H2 (g1.trans g2) S2⟩
/-- the same as values (bools) -/
theorem x_not (ha : PE X a (tE ζ X.K (eOf tf))) : PE X (.UnaryOp .Not a pos) (tE ζ X.K (eOf (tNotF tf))) := pe_imp (pe_not ha) fun σ H Q q => by
  obtain ⟨φ, env, m, r, m', S, E, hf, k⟩ := q
  obtain ⟨⟨r0, m0⟩, h0, hf⟩ := bind_some_iff hf
  obtain ⟨⟨r1, m1⟩, h1, h0⟩ := bind_some_iff h0
  cases h0
  cases hf
  exact ⟨φ, env, m, .val (.bool r1), m1, S, E, by unfold eOf; rw [h1]; rfl, fun φ1 H1 v1 g1 S1 R1 => ⟨r1, rr_bool R1, k φ1 H1 _ g1 S1 (Dp.bl _)⟩⟩
theorem x_eOf (ha : PE X a (tE ζ X.K f)) : PE X a (tE ζ X.K (eOf (tOf f))) := pe_imp ha fun σ H Q q => by
  obtain ⟨φ, env, m, r, m', S, E, hf, k⟩ := q
  obtain ⟨⟨r0, m0⟩, h0, hf⟩ := bind_some_iff hf
  obtain ⟨⟨r1, m1⟩, h1, h0⟩ := bind_some_iff h0
  obtain ⟨b, hb, h0⟩ := bind_some_iff h0
  cases h0
  cases hf
  have hb' := asB_some hb
  simp only at hb'
  subst hb'
  exact ⟨φ, env, m, _, m1, S, E, h1, fun φ1 H1 v1 g1 S1 R1 => k φ1 H1 v1 g1 S1 R1⟩
theorem x_and1 (ha : PE X a (tE ζ X.K (eOf tf))) : PE X (.BoolOp .And [a] pos) (tE ζ X.K (eOf tf)) := pe_one ha
theorem x_or1 (ha : PE X a (tE ζ X.K (eOf tf))) : PE X (.BoolOp .Or [a] pos) (tE ζ X.K (eOf tf)) := pe_one ha
theorem x_and (ha : PE X a (tE ζ X.K (eOf tf))) (hb : PE X (.BoolOp .And (b :: es) pos) (tE ζ X.K (eOf tg))) : PE X (.BoolOp .And (a :: b :: es) pos) (tE ζ X.K (eOf (tAndF tf tg))) := pe_imp (pe_and ha hb) fun σ H Q q => by
  obtain ⟨φ, env, m, r, m', S, E, hf, k⟩ := q
  obtain ⟨⟨r0, m0⟩, h0, hf⟩ := bind_some_iff hf
  obtain ⟨⟨r1, m1⟩, h1, h0⟩ := bind_some_iff h0
  cases hf
  refine ⟨φ, env, m, .val (.bool r1), m1, S, E, by unfold eOf; rw [h1]; rfl, fun φ1 H1 v1 g1 S1 R1 => ⟨r1, rr_bool R1, ?_⟩⟩
  cases r1 with
  | false =>
    rw [if_neg Bool.false_ne_true]
    simp only [Bool.false_eq_true, if_false] at h0
    cases h0
    exact k φ1 H1 _ g1 S1 (Dp.bl _)
  | true =>
    rw [if_pos rfl]
    simp only [if_true] at h0
    exact ⟨φ1, env, m1, _, m0, S1, E.mono g1, by unfold eOf; rw [h0]; rfl, fun φ2 H2 v2 g2 S2 R2 => k φ2 H2 v2 (g1.trans g2) S2 R2⟩
theorem x_or (ha : PE X a (tE ζ X.K (eOf tf))) (hb : PE X (.BoolOp .Or (b :: es) pos) (tE ζ X.K (eOf tg))) : PE X (.BoolOp .Or (a :: b :: es) pos) (tE ζ X.K (eOf (tOrF tf tg))) := pe_imp (pe_or ha hb) fun σ H Q q => by
  obtain ⟨φ, env, m, r, m', S, E, hf, k⟩ := q
  obtain ⟨⟨r0, m0⟩, h0, hf⟩ := bind_some_iff hf
  obtain ⟨⟨r1, m1⟩, h1, h0⟩ := bind_some_iff h0
  cases hf
  refine ⟨φ, env, m, .val (.bool r1), m1, S, E, by unfold eOf; rw [h1]; rfl, fun φ1 H1 v1 g1 S1 R1 => ⟨r1, rr_bool R1, ?_⟩⟩
  cases r1 with
  | true =>
    rw [if_pos rfl]
    simp only [if_true] at h0
    cases h0
    exact k φ1 H1 _ g1 S1 (Dp.bl _)
  | false =>
    rw [if_neg Bool.false_ne_true]
    simp only [Bool.false_eq_true, if_false] at h0
    exact ⟨φ1, env, m1, _, m0, S1, E.mono g1, by unfold eOf; rw [h0]; rfl, fun φ2 H2 v2 g2 S2 R2 => k φ2 H2 v2 (g1.trans g2) S2 R2⟩
theorem x_if (hc : PT X c (tT ζ X.K tf)) (ha : PE X a (tE ζ X.K f)) (hb : PE X b (tE ζ X.K g)) : PE X (.IfExp c a b pos) (tE ζ X.K (eIf tf f g)) := pe_imp (pe_ifExp hc ha hb) fun σ H Q q => by
  obtain ⟨φ, env, m, r, m', S, E, hf, k⟩ := q
  obtain ⟨⟨r1, m1⟩, h1, hf⟩ := bind_some_iff hf
  refine ⟨φ, env, m, r1, m1, S, E, h1, fun φ1 H1 g1 S1 => ?_⟩
  cases r1 with
  | false =>
    rw [if_neg Bool.false_ne_true]
    simp only [Bool.false_eq_true, if_false] at hf
    exact ⟨φ1, env, m1, r, m', S1, E.mono g1, hf, fun φ2 H2 v2 g2 S2 R2 => k φ2 H2 v2 (g1.trans g2) S2 R2⟩
  | true =>
    rw [if_pos rfl]
    simp only [if_true] at hf
    exact ⟨φ1, env, m1, r, m', S1, E.mono g1, hf, fun φ2 H2 v2 g2 S2 R2 => k φ2 H2 v2 (g1.trans g2) S2 R2⟩
theorem x_nil : PA X [] (tA ζ X.K aNil) := pa_imp pa_nil fun σ H Q q => by
  obtain ⟨φ, env, m, r, m', S, E, hf, k⟩ := q
  cases hf
  exact k φ H [] .refl S .nil
theorem x_cons (ha : PE X e (tE ζ X.K f)) (hr : PA X es (tA ζ X.K fa)) (hs : starEach (e :: es) X.env = (false, eval e X.env) :: starEach es X.env := by rfl) : PA X (e :: es) (tA ζ X.K (aCons f fa)) := pa_imp (pa_cons ha hr hs) fun σ H Q q => by
  obtain ⟨φ, env, m, r, m', S, E, hf, k⟩ := q
  obtain ⟨⟨r1, m1⟩, h1, hf⟩ := bind_some_iff hf
  obtain ⟨⟨r2, m2⟩, h2, hf⟩ := bind_some_iff hf
  cases hf
  refine ⟨φ, env, m, r1, m1, S, E, h1, fun φ1 H1 v1 g1 S1 R1 => ?_⟩
  exact ⟨φ1, env, m1, r2, m2, S1, E.mono g1, h2, fun φ2 H2 v2 g2 S2 R2 => k φ2 H2 _ (g1.trans g2) S2 (.cons (R1.mono g2) R2)⟩
/-- all of them data -/
def vals : List R → Option (List D)
  | [] => some []
  | .val d :: rs => (vals rs).bind fun ds => some (d :: ds)
  | .ref _ :: _ => none
  | .tp _ :: _ => none
theorem vals_rr {K : PySem.W.Frag} {φ : Ad} {H : Hp} : ∀ {rs : List R} {ds : List D} {vs : List V}, vals rs = some ds → RRs K φ H vs rs → DpAll K (off φ H) vs ds
  | [], _, _, e, h => by
    cases e
    cases h
    exact .nil
  | .val d :: rs, _, _, e, h => by
    obtain ⟨ds', e1, e2⟩ := bind_some_iff e
    cases e2
    cases h with
    | cons a t => exact .cons a (vals_rr e1 t)
  | .ref _ :: _, _, _, e, _ => by cases e
  | .tp _ :: _, _, _, e, _ => by cases e
def pTup (rs : List R) (m : M) : Option (R × M) := (vals rs).bind fun ds => if ds.length ≤ sizeLine then some (.val (.tuple ds), m) else none
def pLst (rs : List R) (m : M) : Option (R × M) := (vals rs).bind fun ds => if ds.length ≤ sizeLine then some (.val (.list ds), m) else none
theorem rr_newT {K : PySem.W.Frag} {φ : Ad} {H : Hp} {m : M} {vs : List V} {ds : List D} {p : Addr} {o : Obj} (S : SR ζ K φ H m) (hp : H p = none) (h : DpAll K (off φ H) vs ds) : RR K φ (upd H p (.frz o (.tup vs))) (.ref p) (.val (.tuple ds)) :=
  Dp.tup (.inl (.inr ⟨o, off_some.mpr ⟨S.new hp, upd_same, rfl⟩⟩)) (dps_mono (gr_alloc hp).same h)
theorem rr_newL {K : PySem.W.Frag} {φ : Ad} {H : Hp} {m : M} {vs : List V} {ds : List D} {p : Addr} (S : SR ζ K φ H m) (hp : H p = none) (h : DpAll K (off φ H) vs ds) : RR K φ (upd H p (.lst vs)) (.ref p) (.val (.list ds)) :=
  Dp.lst (.inl (.inl (off_some.mpr ⟨S.new hp, upd_same, rfl⟩))) (dps_mono (gr_alloc hp).same h)
theorem x_tup {x1} (h : PA X es (tA ζ X.K fa)) : PE X (.Tuple es x1 pos) (tE ζ X.K (eAp pTup fa)) := pe_imp (pe_tupF h) fun σ H Q q => by
  obtain ⟨φ, env, m, r, m', S, E, hf, k⟩ := q
  obtain ⟨⟨rs, m1⟩, h1, hf⟩ := bind_some_iff hf
  obtain ⟨ds, h2, hf⟩ := bind_some_iff hf
  split at hf
  · rename_i hl
    cases hf
    refine ⟨φ, env, m, rs, m1, S, E, h1, fun φ1 H1 vs g1 S1 R1 => ?_⟩
    have hd := vals_rr h2 R1
    exact ⟨by rw [DpAll.len hd]; exact hl, fun p o hp ho => k φ1 _ _ (g1.trans (gr_alloc hp)) (S1.alloc hp ho) (rr_newT S1 hp hd)⟩
  · cases hf
theorem x_lst (h : PA X es (tA ζ X.K fa)) : PE X (.List es pos) (tE ζ X.K (eAp pLst fa)) := pe_imp (pe_lst h) fun σ H Q q => by
  obtain ⟨φ, env, m, r, m', S, E, hf, k⟩ := q
  obtain ⟨⟨rs, m1⟩, h1, hf⟩ := bind_some_iff hf
  obtain ⟨ds, h2, hf⟩ := bind_some_iff hf
  split at hf
  · rename_i hl
    cases hf
    refine ⟨φ, env, m, rs, m1, S, E, h1, fun φ1 H1 vs g1 S1 R1 => ?_⟩
    have hd := vals_rr h2 R1
    exact ⟨by rw [DpAll.len hd]; exact hl, fun p hp => k φ1 _ _ (g1.trans (gr_alloc hp)) (S1.alloc hp) (rr_newL S1 hp hd)⟩
  · cases hf
/-- a call of a builtin by values -/
theorem ap_imp {K : PySem.W.Frag} {p : List R → M → Option (R × M)} {σ : L2.St} {H : Hp} {Q : VK} (q : tE ζ K (eAp p fa) σ H Q) : tCB (rsP ζ K p) (tA ζ K fa) σ H Q := by
  obtain ⟨φ, env, m, r, m', S, E, hf, k⟩ := q
  obtain ⟨⟨rs, m1⟩, h1, hf⟩ := bind_some_iff hf
  exact ⟨φ, env, m, rs, m1, S, E, h1, fun φ1 H1 vs g1 S1 R1 => ⟨φ1, m1, rs, r, m', S1, R1, hf, fun φ2 H2 v g2 S2 R2 => k φ2 H2 v (g1.trans g2) S2 R2⟩⟩
theorem x_callB {id : String} {x : Str} {p0 : Pos} {p : List R → M → Option (R × M)} (hc : CallR X (.builtin id) (rsP ζ X.K p)) (hg : Gl X x) (hm : X.mg x = none) (hv : bootBuiltins x = some (.builtin id)) (ha : PA X (e :: es) (tA ζ X.K fa)) (hn : x ≠ "__name__" := by decide) (hdb : (x == ("__debug__" : Str)) = false := by decide)
    (he : starEach (e :: es) X.env = (false, eval e X.env) :: starEach es X.env := by rfl) (hpl : (backTo pos (starEach es X.env)).any (·.1) = false := by rfl) : PE X (.Call (.Name x p0) (e :: es) [] pos) (tE ζ X.K (eAp p fa)) :=
  pe_imp (pe_callB hc hg hm hv ha hn hdb he hpl) fun _ _ _ q => ap_imp q
theorem x_callTy {T : String} {x : Str} {p0 : Pos} {p : List R → M → Option (R × M)} (hc : CallR X (.type T) (rsP ζ X.K p)) (hg : Gl X x) (hm : X.mg x = none) (hv : bootBuiltins x = some (.type T)) (ha : PA X (e :: es) (tA ζ X.K fa)) (hn : x ≠ "__name__" := by decide) (hdb : (x == ("__debug__" : Str)) = false := by decide)
    (he : starEach (e :: es) X.env = (false, eval e X.env) :: starEach es X.env := by rfl) (hpl : (backTo pos (starEach es X.env)).any (·.1) = false := by rfl) : PE X (.Call (.Name x p0) (e :: es) [] pos) (tE ζ X.K (eAp p fa)) :=
  pe_imp (pe_callTy hc hg hm hv ha hn hdb he hpl) fun _ _ _ q => ap_imp q
end
end Ev

set_option Elab.async false
set_option linter.all false
set_option maxRecDepth 100000
/-! Statements, loops, functions. -/
namespace Ev
open PySem PySem.Spec PyProof.Rows L2

inductive Fl where
  | nx (env : Sl) (m : M)
  | rt (r : R) (m : M)
  | bk (env : Sl) (m : M)
  | ct (env : Sl) (m : M)
abbrev SF := Sl → M → Option Fl
abbrev GF := R → Sl → M → Option (Sl × M)
abbrev GsF := List R → Sl → M → Option (Sl × M)

def EnvK (ζ : Tbs) (K : PySem.W.Frag) (φ : Ad) (H : Hp) (env : Sl) (m : M) (Q : L2.St → Hp → Prop) : Prop := ∀ φ' σ' H', Gr φ H φ' H' → SR ζ K φ' H' m → ER K φ' H' σ' env → Q σ' H'
def ValK (ζ : Tbs) (K : PySem.W.Frag) (φ : Ad) (H : Hp) (r : R) (m : M) (Q : VK) : Prop := ∀ φ' H' v, Gr φ H φ' H' → SR ζ K φ' H' m → RR K φ' H' v r → Q v H'
def FlOk (ζ : Tbs) (K : PySem.W.Frag) (φ : Ad) (H : Hp) (W : Ends) : Fl → Prop
  | .nx env m => EnvK ζ K φ H env m W.nx
  | .rt r m => ValK ζ K φ H r m W.rt
  | .bk env m => EnvK ζ K φ H env m W.bk
  | .ct env m => EnvK ζ K φ H env m W.ct
def tS (ζ : Tbs) (K : PySem.W.Frag) (f : SF) : TS := fun W σ H => ∃ φ env m fl, SR ζ K φ H m ∧ ER K φ H σ env ∧ f env m = some fl ∧ FlOk ζ K φ H W fl
def tG (ζ : Tbs) (K : PySem.W.Frag) (g : GF) : TG := fun v σ H Q => ∃ φ env m r env' m', SR ζ K φ H m ∧ ER K φ H σ env ∧ RR K φ H v r ∧ g r env m = some (env', m') ∧ EnvK ζ K φ H env' m' Q
def tGs (ζ : Tbs) (K : PySem.W.Frag) (g : GsF) : TGs := fun vs σ H Q => ∃ φ env m rs env' m', SR ζ K φ H m ∧ ER K φ H σ env ∧ RRs K φ H vs rs ∧ g rs env m = some (env', m') ∧ EnvK ζ K φ H env' m' Q
section
variable {K : PySem.W.Frag} {φ φ' : Ad} {H H' : Hp} {m : M} {env : Sl} {r : R} {Q : L2.St → Hp → Prop} {P : VK} {W : Ends} {fl : Fl}
theorem EnvK.mono (g : Gr φ H φ' H') (h : EnvK ζ K φ H env m Q) : EnvK ζ K φ' H' env m Q := fun _ _ _ g2 S E => h _ _ _ (g.trans g2) S E
theorem ValK.mono (g : Gr φ H φ' H') (h : ValK ζ K φ H r m P) : ValK ζ K φ' H' r m P := fun _ _ _ g2 S E => h _ _ _ (g.trans g2) S E
theorem FlOk.mono (g : Gr φ H φ' H') (h : FlOk ζ K φ H W fl) : FlOk ζ K φ' H' W fl := by
  cases fl with
  | nx e m => exact EnvK.mono g h
  | rt e m => exact ValK.mono g h
  | bk e m => exact EnvK.mono g h
  | ct e m => exact EnvK.mono g h
end
theorem tg_imp {X : Cx} {e : Expr} {t t' : TG} (h : PG X e t) (k : ∀ v σ H Q, t' v σ H Q → t v σ H Q) : PG X e t' := ⟨fun pins s σ H v u Q I r q => h.run pins s σ H v u Q I r (k v σ H Q q)⟩
theorem tgs_imp {X : Cx} {e : List Expr} {t t' : TGs} (h : PGs X e t) (k : ∀ v σ H Q, t' v σ H Q → t v σ H Q) : PGs X e t' := ⟨fun pins s σ H v u Q I r q => h.run pins s σ H v u Q I r (k v σ H Q q)⟩

/-! ### the functions -/
def sNext : SF := fun env m => some (.nx env m)
def sNever : SF := fun _ _ => none
def sBreak : SF := fun env m => some (.bk env m)
def sCont : SF := fun env m => some (.ct env m)
def thenF (fl : Fl) (g : SF) : Option Fl := match fl with
  | .nx e m => g e m
  | x => some x
def sSeq (f g : SF) : SF := fun env m => (f env m).bind fun fl => thenF fl g
def sRet (f : EF) : SF := fun env m => (f env m).bind fun x => some (.rt x.1 x.2)
def sRetN : SF := fun _ m => some (.rt (.val .none) m)
def sExpr (f : EF) : SF := fun env m => (f env m).bind fun x => some (.nx env x.2)
def sIf (c : TF) (f g : SF) : SF := fun env m => (c env m).bind fun x => if x.1 = true then f env x.2 else g env x.2
def sAsg (f : EF) (g : GF) : SF := fun env m => (f env m).bind fun x => (g x.1 env x.2).bind fun y => some (.nx y.1 y.2)
def gNm (i : Nat) : GF := fun r env m => some (env.set i (some r), m)
def gsNil : GsF := fun rs env m => match rs with
  | [] => some (env, m)
  | _ => none
def gsCons (g : GF) (h : GsF) : GsF := fun rs env m => match rs with
  | r :: rs => (g r env m).bind fun x => h rs x.1 x.2
  | [] => none
def gTp (n : Nat) (g : GsF) : GF := fun r env m => match r with
  | .val (.tuple ds) => if ds.length = n then g (ds.map R.val) env m else none
  | _ => none
/-- a, b = x, y by names -/
def sPar (i j : Nat) (f : AF) : SF := fun env m => (f env m).bind fun x => match x.1 with
  | [a, b] => some (.nx ((env.set i (some a)).set j (some b)) x.2)
  | _ => none

theorem dpAll_rrs {K : PySem.W.Frag} {φ : Ad} {H : Hp} : ∀ {ds : List D} {vs : List V}, DpAll K (off φ H) vs ds → RRs K φ H vs (ds.map R.val)
  | _, _, .nil => .nil
  | _, _, .cons a t => .cons a (dpAll_rrs t)
theorem off_same {φ : Ad} {H : Hp} : Same (off φ H) H := fun b o e => (off_some.mp e).2.1

section
variable {X : Cx} {e e2 c : Expr} {es : List Expr} {st : Stmt} {sts sts2 : List Stmt} {f : EF} {fa : AF} {tc : TF} {sf sg : SF} {gf : GF} {gsf : GsF} {pos : Pos}
theorem z_nil : PSs X [] (tS ζ X.K sNext) := pss_imp pss_nil fun W σ H q => by
  obtain ⟨φ, env, m, fl, S, E, hf, k⟩ := q
  cases hf
  exact k φ σ H .refl S E
theorem z_cons (h1 : PS X st (tS ζ X.K sf)) (h2 : PSs X sts (tS ζ X.K sg)) : PSs X (st :: sts) (tS ζ X.K (sSeq sf sg)) := pss_imp (pss_cons h1 h2) fun W σ H q => by
  obtain ⟨φ, env, m, fl, S, E, hf, k⟩ := q
  obtain ⟨fl1, h1, hf⟩ := bind_some_iff hf
  refine ⟨φ, env, m, fl1, S, E, h1, ?_⟩
  cases fl1 with
  | nx e1 m1 => exact fun φ1 σ1 H1 g1 S1 E1 => ⟨φ1, e1, m1, fl, S1, E1, hf, k.mono g1⟩
  | rt r1 m1 =>
    cases hf
    exact k
  | bk e1 m1 =>
    cases hf
    exact k
  | ct e1 m1 =>
    cases hf
    exact k
theorem z_one (h1 : PS X st (tS ζ X.K sf)) : PSs X [st] (tS ζ X.K sf) := pss_one h1
theorem s_pass : PS X (.Pass pos) (tS ζ X.K sNext) := ps_imp ps_pass fun W σ H q => by
  obtain ⟨φ, env, m, fl, S, E, hf, k⟩ := q
  cases hf
  exact k φ σ H .refl S E
theorem s_break : PS X (.Break pos) (tS ζ X.K sBreak) := ps_imp ps_break fun W σ H q => by
  obtain ⟨φ, env, m, fl, S, E, hf, k⟩ := q
  cases hf
  exact k φ σ H .refl S E
theorem s_cont : PS X (.Continue pos) (tS ζ X.K sCont) := ps_imp ps_continue fun W σ H q => by
  obtain ⟨φ, env, m, fl, S, E, hf, k⟩ := q
  cases hf
  exact k φ σ H .refl S E
theorem s_never : PS X st (tS ζ X.K sNever) := ps_imp ps_never fun W σ H q => by
  obtain ⟨φ, env, m, fl, S, E, hf, k⟩ := q
  cases hf
theorem s_expr (he : PE X e (tE ζ X.K f)) (hs : swapsWith e none pos.line X.env = pure false := by rfl) : PS X (.Expr e pos) (tS ζ X.K (sExpr f)) := ps_imp (ps_expr he hs) fun W σ H q => by
  obtain ⟨φ, env, m, fl, S, E, hf, k⟩ := q
  obtain ⟨⟨r1, m1⟩, h1, hf⟩ := bind_some_iff hf
  cases hf
  exact ⟨φ, env, m, r1, m1, S, E, h1, fun φ1 H1 v g1 S1 R1 => k φ1 σ H1 g1 S1 (E.mono g1)⟩
theorem s_ret (he : PE X e (tE ζ X.K f)) : PS X (.Return (some e) pos) (tS ζ X.K (sRet f)) := ps_imp (ps_ret he) fun W σ H q => by
  obtain ⟨φ, env, m, fl, S, E, hf, k⟩ := q
  obtain ⟨⟨r1, m1⟩, h1, hf⟩ := bind_some_iff hf
  cases hf
  exact ⟨φ, env, m, r1, m1, S, E, h1, fun φ1 H1 v g1 S1 R1 => k φ1 H1 v g1 S1 R1⟩
theorem s_retN : PS X (.Return none pos) (tS ζ X.K sRetN) := ps_imp ps_retN fun W σ H q => by
  obtain ⟨φ, env, m, fl, S, E, hf, k⟩ := q
  cases hf
  exact k φ H _ .refl S Dp.non
theorem s_if (hc : PT X c (tT ζ X.K tc)) (ha : PSs X sts (tS ζ X.K sf)) (hb : PSs X sts2 (tS ζ X.K sg)) : PS X (.If c sts sts2 pos) (tS ζ X.K (sIf tc sf sg)) := ps_imp (ps_if hc ha hb) fun W σ H q => by
  obtain ⟨φ, env, m, fl, S, E, hf, k⟩ := q
  obtain ⟨⟨r1, m1⟩, h1, hf⟩ := bind_some_iff hf
  refine ⟨φ, env, m, r1, m1, S, E, h1, fun φ1 H1 g1 S1 => ?_⟩
  cases r1 with
  | false =>
    rw [if_neg Bool.false_ne_true]
    simp only [Bool.false_eq_true, if_false] at hf
    exact ⟨φ1, env, m1, fl, S1, E.mono g1, hf, k.mono g1⟩
  | true =>
    rw [if_pos rfl]
    simp only [if_true] at hf
    exact ⟨φ1, env, m1, fl, S1, E.mono g1, hf, k.mono g1⟩
theorem g_imp {K : PySem.W.Frag} {W : Ends} {σ : L2.St} {H : Hp} (q : tS ζ K (sAsg f gf) W σ H) : tAsg (tE ζ K f) (tG ζ K gf) W σ H := by
  obtain ⟨φ, env, m, fl, S, E, hf, k⟩ := q
  obtain ⟨⟨r1, m1⟩, h1, hf⟩ := bind_some_iff hf
  obtain ⟨⟨e2, m2⟩, h2, hf⟩ := bind_some_iff hf
  cases hf
  exact ⟨φ, env, m, r1, m1, S, E, h1, fun φ1 H1 v g1 S1 R1 => ⟨φ1, env, m1, r1, e2, m2, S1, E.mono g1, R1, h2, EnvK.mono g1 k⟩⟩
theorem gnm_imp {K : PySem.W.Frag} {i : Nat} {v : V} {σ : L2.St} {H : Hp} {Q : L2.St → Hp → Prop} (q : tG ζ K (gNm i) v σ H Q) : gName i v σ H Q := by
  obtain ⟨φ, env, m, r, e', m', S, E, Rv, hf, k⟩ := q
  cases hf
  exact k φ _ H .refl S (E.set Rv i)
theorem s_set {i : Nat} {x : Str} {pos' : Pos} (hN : X.N.Nodup) (hi : X.N[i]? = some x) (hx : Loc X.env.scope x) (he : PE X e (tE ζ X.K f)) (hs : swapsWith e (some (.Name x pos')) pos.line X.env = pure false := by rfl) (hf : X.fn x = true ∨ X.env.scope.names.lookup x = some .local := by first | exact .inl rfl | exact .inr rfl | assumption) :
    PS X (.Assign [.Name x pos'] e pos) (tS ζ X.K (sAsg f (gNm i))) := ps_imp (ps_set hN hi hx he hs hf) fun W σ H q => by
  obtain ⟨φ, env, m, r, m', S, E, h1, k⟩ := g_imp q
  exact ⟨φ, env, m, r, m', S, E, h1, fun φ1 H1 v g1 S1 R1 => gnm_imp (k φ1 H1 v g1 S1 R1)⟩
theorem g_name {i : Nat} {x : Str} (hN : X.N.Nodup) (hi : X.N[i]? = some x) (hx : Loc X.env.scope x) (hf : X.fn x = true ∨ X.env.scope.names.lookup x = some .local := by first | exact .inl rfl | exact .inr rfl | assumption) : PG X (.Name x pos) (tG ζ X.K (gNm i)) :=
  tg_imp (pg_name hN hi hx hf) fun _ _ _ _ q => gnm_imp q
theorem g_nil : PGs X [] (tGs ζ X.K gsNil) := tgs_imp pgs_nil fun vs σ H Q q => by
  obtain ⟨φ, env, m, rs, e', m', S, E, Rv, hf, k⟩ := q
  cases Rv with
  | nil =>
    cases hf
    exact ⟨rfl, k φ σ H .refl S E⟩
  | cons a t => cases hf
theorem g_cons (h1 : PG X e (tG ζ X.K gf)) (h2 : PGs X es (tGs ζ X.K gsf)) (hs : (assignEach (e :: es) X.env).map (·.2) = assign e X.env :: (assignEach es X.env).map (·.2) := by rfl) : PGs X (e :: es) (tGs ζ X.K (gsCons gf gsf)) :=
  tgs_imp (pgs_cons h1 h2 hs) fun vs σ H Q q => by
  obtain ⟨φ, env, m, rs, e', m', S, E, Rv, hf, k⟩ := q
  cases Rv with
  | nil => cases hf
  | cons a t =>
    obtain ⟨⟨e1, m1⟩, h1, hf⟩ := bind_some_iff hf
    exact ⟨_, _, rfl, φ, env, m, _, e1, m1, S, E, a, h1, fun φ1 σ1 H1 g1 S1 E1 => ⟨φ1, e1, m1, _, e', m', S1, E1, RRs.mono g1 t, hf, EnvK.mono g1 k⟩⟩
theorem g_tup {k n : Nat} (hc : X.calm = true) (h : PGs X es (tGs ζ X.K gsf)) (hn : (assignEach es X.env).length = n := by rfl) (hst : (assignEach es X.env).findIdx? (·.1) = none := by rfl) : PG X (.Tuple es k pos) (tG ζ X.K (gTp n gsf)) :=
  tg_imp (pg_tup hc h hn hst) fun v σ H Q q => by
  obtain ⟨φ, env, m, r, e', m', S, E, Rv, hf, k⟩ := q
  unfold gTp at hf
  split at hf
  · rename_i ds
    split at hf
    · rename_i hl
      have Rv' : Dp X.K (off φ H) v (.tuple ds) := Rv
      cases Rv' with
      | tup hs ha => exact ⟨_, _, rfl, sqT_mono off_same hs, by rw [DpAll.len ha]; exact hl, φ, env, m, _, e', m', S, E, dpAll_rrs ha, hf, k⟩
    · cases hf
  · cases hf
theorem s_asg {tg : Expr} (he : PE X e (tE ζ X.K f)) (hg : PG X tg (tG ζ X.K gf)) (hs : swapsWithSole [tg] e pos.line X.env = pure false := by rfl) (hw : swappedStores [tg] e X.env = pure none := by rfl)
    (h1 : (assignEach [tg] X.env).map (·.2) = [assign tg X.env] := by rfl) : PS X (.Assign [tg] e pos) (tS ζ X.K (sAsg f gf)) := ps_imp (ps_asg he hg hs hw h1) fun _ _ _ q => g_imp q
theorem s_par {i j : Nat} {x y : Str} {a b : Expr} {px py pt : Pos} {kt k2 : Nat} {pt2 : Pos} (hc : X.calm = true) (hN : X.N.Nodup) (hi : X.N[i]? = some x) (hj : X.N[j]? = some y) (hij : i ≠ j)
    (hx : X.env.scope.names.lookup x = some .local) (hy : X.env.scope.names.lookup y = some .local) (ha : PA X [a, b] (tA ζ X.K fa))
    (hw : swappedStores [.Tuple [.Name x px, .Name y py] kt pt] (.Tuple [a, b] k2 pt2) X.env = pure (some [x, y]))
    (hs : swapsWithSole [.Tuple [.Name x px, .Name y py] kt pt] (.Tuple [a, b] k2 pt2) pos.line X.env = pure false := by rfl) :
    PS X (.Assign [.Tuple [.Name x px, .Name y py] kt pt] (.Tuple [a, b] k2 pt2) pos) (tS ζ X.K (sPar i j fa)) := ps_imp (ps_par hc hN hi hj hij hx hy ha hw hs) fun W σ H q => by
  obtain ⟨φ, env, m, fl, S, E, hf, k⟩ := q
  obtain ⟨⟨rs, m1⟩, h1, hf⟩ := bind_some_iff hf
  simp only at hf
  split at hf
  · cases hf
    refine ⟨φ, env, m, _, m1, S, E, h1, fun φ1 H1 vs g1 S1 R1 => ?_⟩
    cases R1 with
    | cons a1 t1 =>
      cases t1 with
      | cons a2 t2 =>
        cases t2
        exact ⟨_, _, rfl, k φ1 _ H1 g1 S1 (((E.mono g1).set a1 i).set a2 j)⟩
  · cases hf
end

/-! ### loops -/
/-- where the items come from: stuck, at the end, or an item -/
abbrev Src := Nat → M → Option (Option D)
def srcL (ds : List D) : Src := fun i _ => some ds[i]?
def srcR (k : Nat) : Src := fun i m => match m[k]? with
  | some (.lst ds) => some ds[i]?
  | _ => none
structure JOk (ζ : Tbs) (K : PySem.W.Frag) (J : It) (φ : Ad) (H : Hp) (src : Src) : Prop where
  stop : ∀ φ' H' m i, Gw φ H φ' H' → SR ζ K φ' H' m → src i m = some none → J.stop i H'
  go : ∀ φ' H' m i d, Gw φ H φ' H' → SR ζ K φ' H' m → src i m = some (some d) → J.go i H'
  yld : ∀ φ' H' m i d x H'', Gw φ H φ' H' → SR ζ K φ' H' m → src i m = some (some d) → J.yld i H' x H'' → Gr φ' H' φ' H'' ∧ SR ζ K φ' H'' m ∧ RR K φ' H'' x (.val d)
/-- the source, a bound of turns, the store -/
abbrev IF := Sl → M → Option ((Src × Nat) × M)
def tI (ζ : Tbs) (K : PySem.W.Frag) (f : IF) : TI := fun σ H Q => ∃ φ env m src n m', SR ζ K φ H m ∧ ER K φ H σ env ∧ f env m = some ((src, n), m') ∧
  ∀ φ' H' J, Gr φ H φ' H' → SR ζ K φ' H' m' → JOk ζ K J φ' H' src → Q J H'
/-- behind a turn: on, or out -/
def aftF (fl : Fl) (next : Sl → M → Option Fl) : Option Fl := match fl with
  | .nx e m => next e m
  | .ct e m => next e m
  | .bk e m => some (.nx e m)
  | .rt r m => some (.rt r m)
def loop (src : Src) (g : GF) (body : SF) : Nat → Nat → SF
  | 0, i => fun env m => (src i m).bind fun o => match o with
    | none => some (.nx env m)
    | some _ => none
  | n + 1, i => fun env m => (src i m).bind fun o => match o with
    | none => some (.nx env m)
    | some d => (g (.val d) env m).bind fun x => (body x.1 x.2).bind fun fl => aftF fl (loop src g body n (i + 1))
def sFor (it : IF) (g : GF) (body : SF) : SF := fun env m => (it env m).bind fun x => loop x.1.1 g body x.1.2 0 env x.2
/-- the same over a list -/
def loopL (g : GF) (body : SF) : List D → SF
  | [] => sNext
  | d :: ds => fun env m => (g (.val d) env m).bind fun x => (body x.1 x.2).bind fun fl => aftF fl (loopL g body ds)
def iL (ds : List D) (m : M) : Option ((Src × Nat) × M) := some ((srcL ds, ds.length), m)
theorem loop_srcL {g : GF} {body : SF} : ∀ (ds all : List D) (i : Nat) (env : Sl) (m : M), all.drop i = ds → loop (srcL all) g body ds.length i env m = loopL g body ds env m
  | [], all, i, env, m, h => by
    have e : all[i]? = none := List.getElem?_eq_none (by simpa using h)
    simp [loop, srcL, e, loopL, sNext]
  | d :: ds, all, i, env, m, h => by
    have e : all[i]? = some d := by
      have := congrArg (·[0]?) h
      simpa using this
    have h' : all.drop (i + 1) = ds := by
      have := congrArg (List.drop 1) h
      simpa [List.drop_drop, Nat.add_comm] using this
    have ih := fun env m => loop_srcL (g := g) (body := body) ds all (i + 1) env m h'
    have ih' : loop (srcL all) g body ds.length (i + 1) = loopL g body ds := by
      funext env m
      exact ih env m
    simp only [List.length_cons, loop, srcL, e, Option.bind_some, loopL]
    rw [ih']
theorem sFor_L {it : IF} {g : GF} {body : SF} {env : Sl} {m m' : M} {ds : List D} (h : it env m = iL ds m') : sFor it g body env m = loopL g body ds env m' := by
  unfold sFor
  rw [h]
  exact loop_srcL ds ds 0 env m' rfl
def wloop (c : TF) (body : SF) : Nat → SF
  | 0 => fun _ _ => none
  | n + 1 => fun env m => (c env m).bind fun x => if x.1 = true then (body env x.2).bind fun fl => aftF fl (wloop c body n) else some (.nx env x.2)
section
variable {X : Cx} {c e tg : Expr} {sts : List Stmt} {tc : TF} {sf : SF} {gf : GF} {it : IF} {pos : Pos}
theorem s_while {n : Nat} (hp : PassesOwn (model X.prog X.w) X.A X.env X.xe) (hc : PT X c (tT ζ X.K tc)) (hb : PSs X sts (tS ζ X.K sf)) : PS X (.While c sts [] pos) (tS ζ X.K (wloop tc sf n)) := ps_imp (ps_while hp hc hb) fun W σ H q => by
  obtain ⟨φ, env, m, fl, S, E, hf, k⟩ := q
  refine ⟨fun n σ1 H1 => ∃ φ1 env1 m1 fl1, SR ζ X.K φ1 H1 m1 ∧ ER X.K φ1 H1 σ1 env1 ∧ wloop tc sf n env1 m1 = some fl1 ∧ FlOk ζ X.K φ1 H1 W fl1, ⟨n, φ, env, m, fl, S, E, hf, k⟩, ?_⟩
  intro n σ1 H1 ⟨φ1, env1, m1, fl1, S1, E1, hf1, k1⟩
  cases n with
  | zero => cases hf1
  | succ n =>
    obtain ⟨⟨b, m2⟩, h1, hf1⟩ := bind_some_iff hf1
    refine ⟨φ1, env1, m1, b, m2, S1, E1, h1, fun φ2 H2 g2 S2 => ?_⟩
    cases b with
    | false =>
      rw [if_neg Bool.false_ne_true]
      simp only [Bool.false_eq_true, if_false] at hf1
      cases hf1
      exact k1 φ2 σ1 H2 g2 S2 (E1.mono g2)
    | true =>
      rw [if_pos rfl]
      simp only [if_true] at hf1
      obtain ⟨fl2, h2, hf1⟩ := bind_some_iff hf1
      refine ⟨fun σ3 H3 => ∃ φ3 env3 m3, SR ζ X.K φ3 H3 m3 ∧ ER X.K φ3 H3 σ3 env3 ∧ wloop tc sf n env3 m3 = some fl1 ∧ FlOk ζ X.K φ3 H3 W fl1, fun σ3 H3 ⟨φ3, env3, m3, S3, E3, h3, k3⟩ => ⟨n, Nat.lt_succ_self n, φ3, env3, m3, fl1, S3, E3, h3, k3⟩, ?_⟩
      refine ⟨φ2, env1, m2, fl2, S2, E1.mono g2, h2, ?_⟩
      cases fl2 with
      | nx e4 m4 => exact fun φ3 σ3 H3 g3 S3 E3 => ⟨φ3, e4, m4, S3, E3, hf1, k1.mono (g2.trans g3)⟩
      | ct e4 m4 => exact fun φ3 σ3 H3 g3 S3 E3 => ⟨φ3, e4, m4, S3, E3, hf1, k1.mono (g2.trans g3)⟩
      | bk e4 m4 =>
        cases hf1
        exact EnvK.mono g2 k1
      | rt e4 m4 =>
        cases hf1
        exact ValK.mono g2 k1
theorem for_imp {K : PySem.W.Frag} {W : Ends} {σ : L2.St} {H : Hp} (q : tS ζ K (sFor it gf sf) W σ H) : tFor (tI ζ K it) (tG ζ K gf) (tS ζ K sf) W σ H := by
  obtain ⟨φ, env, m, fl, S, E, hf, k⟩ := q
  obtain ⟨⟨⟨src, n⟩, m'⟩, h1, hf⟩ := bind_some_iff hf
  refine ⟨φ, env, m, src, n, m', S, E, h1, fun φ1 H1 J g1 S1 JJ => ?_⟩
  refine ⟨fun i n σ2 H2 => ∃ φ2 env2 m2, Gr φ1 H1 φ2 H2 ∧ SR ζ K φ2 H2 m2 ∧ ER K φ2 H2 σ2 env2 ∧ loop src gf sf n i env2 m2 = some fl ∧ FlOk ζ K φ2 H2 W fl, ⟨n, φ1, env, m', .refl, S1, E.mono g1, hf, k.mono g1⟩, ?_⟩
  intro i n σ2 H2 ⟨φ2, env2, m2, g2, S2, E2, h2, k2⟩
  have cas : ∃ o, src i m2 = some o := by
    cases n <;> (obtain ⟨o, ho, _⟩ := bind_some_iff h2; exact ⟨o, ho⟩)
  obtain ⟨o, ho⟩ := cas
  cases o with
  | none =>
    refine .inl ⟨JJ.stop φ2 H2 m2 i g2.w S2 ho, ?_⟩
    have e : loop src gf sf n i env2 m2 = some (.nx env2 m2) := by
      cases n <;> simp [loop, ho]
    rw [e] at h2
    cases h2
    exact k2 φ2 σ2 H2 .refl S2 E2
  | some d =>
    cases n with
    | zero => simp [loop, ho] at h2
    | succ n =>
      refine .inr ⟨JJ.go φ2 H2 m2 i d g2.w S2 ho, fun σ3 H3 => ∃ φ3 env3 m3, Gr φ1 H1 φ3 H3 ∧ SR ζ K φ3 H3 m3 ∧ ER K φ3 H3 σ3 env3 ∧ loop src gf sf n (i + 1) env3 m3 = some fl ∧ FlOk ζ K φ3 H3 W fl, fun σ3 H3 z => ⟨n, Nat.lt_succ_self n, z⟩, fun x H3 hy => ?_⟩
      obtain ⟨g3, S3, R3⟩ := JJ.yld φ2 H2 m2 i d x H3 g2.w S2 ho hy
      simp only [loop, ho, Option.bind_some] at h2
      obtain ⟨⟨e4, m4⟩, h4, h2⟩ := bind_some_iff h2
      obtain ⟨fl5, h5, h2⟩ := bind_some_iff h2
      refine ⟨φ2, env2, m2, .val d, e4, m4, S3, E2.mono g3, R3, h4, fun φ6 σ6 H6 g6 S6 E6 => ?_⟩
      refine ⟨φ6, e4, m4, fl5, S6, E6, h5, ?_⟩
      cases fl5 with
      | nx e7 m7 => exact fun φ7 σ7 H7 g7 S7 E7 => ⟨φ7, e7, m7, g2.trans (g3.trans (g6.trans g7)), S7, E7, h2, k2.mono (g3.trans (g6.trans g7))⟩
      | ct e7 m7 => exact fun φ7 σ7 H7 g7 S7 E7 => ⟨φ7, e7, m7, g2.trans (g3.trans (g6.trans g7)), S7, E7, h2, k2.mono (g3.trans (g6.trans g7))⟩
      | bk e7 m7 =>
        cases h2
        exact EnvK.mono (g3.trans g6) k2
      | rt e7 m7 =>
        cases h2
        exact ValK.mono (g3.trans g6) k2
theorem s_for (hp : PassesOwn (model X.prog X.w) X.A X.env X.xe) (hc : X.calm = true) (hi : PI X tg e (tI ζ X.K it)) (hg : PG X tg (tG ζ X.K gf)) (hb : PSs X sts (tS ζ X.K sf)) (hs : ∀ x, foldedSetIterable e X.env x = pure x := by intro _; rfl) :
    PS X (.For tg e sts [] pos) (tS ζ X.K (sFor it gf sf)) := ps_imp (ps_for hp hc hi hg hb hs) fun _ _ _ q => for_imp q
end

/-! ### what is walked -/
theorem off_of_same {φ φ' : Ad} {H H' : Hp} (g : Gr φ H φ' H') {a : Addr} {o : HO} (h : off φ H a = some o) : H' a = some o := (off_some.mp (g.same a o h)).2.1
theorem jok_list {K : PySem.W.Frag} {φ : Ad} {H : Hp} {a : Addr} {xs : List V} {ds : List D} (h : SqL K (off φ H) a xs) (hd : DpAll K (off φ H) xs ds) : JOk ζ K (Itl K a) φ H (srcL ds) where
  stop := fun φ' H' m i g S e => ⟨xs, (off_same.seq (g.same.seq h)), by
    have e' : ds[i]? = none := Option.some.inj e
    rw [DpAll.len hd]
    exact List.getElem?_eq_none_iff.mp e'⟩
  go := fun φ' H' m i d g S e => by
    have e' : ds[i]? = some d := Option.some.inj e
    obtain ⟨v, h1, h2⟩ := DpAll.get hd e'
    exact ⟨xs, v, off_same.seq (g.same.seq h), h1⟩
  yld := fun φ' H' m i d x H'' g S e y => by
    have e' : ds[i]? = some d := Option.some.inj e
    obtain ⟨v, h1, h2⟩ := DpAll.get hd e'
    obtain ⟨rfl, y⟩ := y
    have q := y xs (off_same.seq (g.same.seq h))
    rw [h1] at q
    cases q
    exact ⟨.refl, S, dp_mono g.same h2⟩
theorem jok_tup {K : PySem.W.Frag} {φ : Ad} {H : Hp} {a : Addr} {xs : List V} {ds : List D} (h : SqT K (off φ H) a xs) (hd : DpAll K (off φ H) xs ds) : JOk ζ K (Itt K a) φ H (srcL ds) where
  stop := fun φ' H' m i g S e => ⟨xs, (sqT_mono off_same (sqT_mono g.same h)), by
    have e' : ds[i]? = none := Option.some.inj e
    rw [DpAll.len hd]
    exact List.getElem?_eq_none_iff.mp e'⟩
  go := fun φ' H' m i d g S e => by
    have e' : ds[i]? = some d := Option.some.inj e
    obtain ⟨v, h1, h2⟩ := DpAll.get hd e'
    exact ⟨xs, v, sqT_mono off_same (sqT_mono g.same h), h1⟩
  yld := fun φ' H' m i d x H'' g S e y => by
    have e' : ds[i]? = some d := Option.some.inj e
    obtain ⟨v, h1, h2⟩ := DpAll.get hd e'
    obtain ⟨rfl, y⟩ := y
    have q := y xs (sqT_mono off_same (sqT_mono g.same h))
    rw [h1] at q
    cases q
    exact ⟨.refl, S, dp_mono g.same h2⟩
theorem jok_live {K : PySem.W.Frag} {φ : Ad} {H : Hp} {k : Nat} {a : Addr} (h : φ.s[k]? = some a) : JOk ζ K (Itl K a) φ H (srcR k) where
  stop := fun φ' H' m i g S e => by
    unfold srcR at e
    split at e
    · rename_i ds hm
      obtain ⟨xs, h1, h2⟩ := S.obj k _ a hm (prefix_get g.pre h)
      have e' : ds[i]? = none := Option.some.inj e
      exact ⟨xs, .inl (.inl h1), by rw [DpAll.len h2]; exact List.getElem?_eq_none_iff.mp e'⟩
    · cases e
  go := fun φ' H' m i d g S e => by
    unfold srcR at e
    split at e
    · rename_i ds hm
      obtain ⟨xs, h1, h2⟩ := S.obj k _ a hm (prefix_get g.pre h)
      have e' : ds[i]? = some d := Option.some.inj e
      obtain ⟨v, h3, h4⟩ := DpAll.get h2 e'
      exact ⟨xs, v, .inl (.inl h1), h3⟩
    · cases e
  yld := fun φ' H' m i d x H'' g S e y => by
    unfold srcR at e
    split at e
    · rename_i ds hm
      obtain ⟨xs, h1, h2⟩ := S.obj k _ a hm (prefix_get g.pre h)
      have e' : ds[i]? = some d := Option.some.inj e
      obtain ⟨v, h3, h4⟩ := DpAll.get h2 e'
      obtain ⟨rfl, y⟩ := y
      have q := y xs (.inl (.inl h1))
      rw [h3] at q
      cases q
      exact ⟨.refl, S, h4⟩
    · cases e
theorem jok_range {K : PySem.W.Frag} {φ : Ad} {H : Hp} {lo : Int} {n : Nat} : JOk ζ K (Itr lo n) φ H (srcL ((List.range n).map fun j : Nat => PyData.int (lo + (j : Int)))) where
  stop := fun φ' H' m i g S e => by
    have e' := List.getElem?_eq_none_iff.mp (Option.some.inj e)
    have e2 : n ≤ i := by simpa using e'
    exact e2
  go := fun φ' H' m i d g S e => by
    have e' := (List.getElem?_eq_some_iff.mp (Option.some.inj e)).1
    have e2 : i < n := by simpa using e'
    exact e2
  yld := fun φ' H' m i d x H'' g S e y => by
    obtain ⟨hi, e'⟩ := List.getElem?_eq_some_iff.mp (Option.some.inj e)
    simp at e'
    obtain ⟨rfl, rfl⟩ := y
    subst e'
    exact ⟨.refl, S, Dp.int _⟩
/-- a list (of the store or not) or a tuple walked -/
def itSeq (f : EF) : IF := fun env m => (f env m).bind fun x => match x.1 with
  | .val (.list ds) => iL ds x.2
  | .ref k => match x.2[k]? with
    | some (.lst ds) => some ((srcR k, ds.length), x.2)
    | _ => none
  | _ => none
def itTup (f : EF) : IF := fun env m => (f env m).bind fun x => match x.1 with
  | .val (.tuple ds) => iL ds x.2
  | _ => none
def rngD (lo : Int) (n : Nat) : List D := (List.range n).map fun j : Nat => PyData.int (lo + (j : Int))
def itRng1 (f : AF) : IF := fun env m => (f env m).bind fun x => match x.1 with
  | [.val (.int j)] => if -(2 ^ 62) ≤ j ∧ j < 2 ^ 62 then iL (rngD 0 j.toNat) x.2 else none
  | _ => none
def itRng2 (f : AF) : IF := fun env m => (f env m).bind fun x => match x.1 with
  | [.val (.int i), .val (.int j)] => if -(2 ^ 62) ≤ i ∧ i < 2 ^ 62 ∧ -(2 ^ 62) ≤ j ∧ j < 2 ^ 62 then iL (rngD i (j - i).toNat) x.2 else none
  | _ => none
section
variable {X : Cx} {tg e a b : Expr} {f : EF} {fa : AF} {p pos : Pos}
theorem i_list (he : PE X e (tE ζ X.K f)) : PI X tg e (tI ζ X.K (itSeq f)) := pi_imp (pi_list he) fun σ H Q q => by
  obtain ⟨φ, env, m, src, n, m', S, E, hf, k⟩ := q
  obtain ⟨⟨r, m1⟩, h1, hf⟩ := bind_some_iff hf
  refine ⟨φ, env, m, r, m1, S, E, h1, fun φ1 H1 v g1 S1 R1 => ?_⟩
  cases r with
  | tp j => cases hf
  | val d =>
    cases d with
    | list ds =>
      cases hf
      have R1' : Dp X.K (off φ1 H1) v (.list ds) := R1
      cases R1' with
      | lst hs ha => exact ⟨_, rfl, ⟨_, off_same.seq hs⟩, k φ1 H1 _ g1 S1 (jok_list hs ha)⟩
    | _ => cases hf
  | ref j =>
    simp only at hf
    split at hf
    · rename_i ds hm
      cases hf
      obtain ⟨ad, e1, e2⟩ := R1
      obtain ⟨xs, h3, h4⟩ := S1.obj j _ ad hm e2
      exact ⟨ad, e1, ⟨xs, .inl (.inl h3)⟩, k φ1 H1 _ g1 S1 (jok_live e2)⟩
    · cases hf
theorem i_tup (he : PE X e (tE ζ X.K f)) : PI X tg e (tI ζ X.K (itTup f)) := pi_imp (pi_tup he) fun σ H Q q => by
  obtain ⟨φ, env, m, src, n, m', S, E, hf, k⟩ := q
  obtain ⟨⟨r, m1⟩, h1, hf⟩ := bind_some_iff hf
  refine ⟨φ, env, m, r, m1, S, E, h1, fun φ1 H1 v g1 S1 R1 => ?_⟩
  cases r with
  | tp j => cases hf
  | val d =>
    cases d with
    | tuple ds =>
      cases hf
      have R1' : Dp X.K (off φ1 H1) v (.tuple ds) := R1
      cases R1' with
      | tup hs ha => exact ⟨_, rfl, ⟨_, sqT_mono off_same hs⟩, k φ1 H1 _ g1 S1 (jok_tup hs ha)⟩
    | _ => cases hf
  | ref j => cases hf
theorem i_range1 (hg : Gl X "range") (hm : X.mg "range" = none) (ha : PA X [a] (tA ζ X.K fa)) (hs : starEach [a] X.env = [(false, eval a X.env)] := by rfl) : PI X tg (.Call (.Name "range" p) [a] [] pos) (tI ζ X.K (itRng1 fa)) :=
  pi_imp (pi_range1 hg hm ha hs) fun σ H Q q => by
  obtain ⟨φ, env, m, src, n, m', S, E, hf, k⟩ := q
  obtain ⟨⟨rs, m1⟩, h1, hf⟩ := bind_some_iff hf
  simp only at hf
  split at hf
  · rename_i j
    split at hf
    · rename_i hj
      cases hf
      refine ⟨φ, env, m, _, _, S, E, h1, fun φ1 H1 vs g1 S1 R1 => ?_⟩
      cases R1 with
      | cons a1 t1 =>
        cases t1
        have a1' : Dp X.K (off φ1 H1) _ (.int j) := a1
        cases a1'
        exact ⟨j, rfl, hj.1, hj.2, k φ1 H1 _ g1 S1 jok_range⟩
    · cases hf
  · cases hf
theorem i_range2 (hg : Gl X "range") (hm : X.mg "range" = none) (ha : PA X [a, b] (tA ζ X.K fa)) (hs : starEach [a, b] X.env = [(false, eval a X.env), (false, eval b X.env)] := by rfl) (hs2 : starEach [b] X.env = [(false, eval b X.env)] := by rfl) : PI X tg (.Call (.Name "range" p) [a, b] [] pos) (tI ζ X.K (itRng2 fa)) :=
  pi_imp (pi_range2 hg hm ha hs hs2) fun σ H Q q => by
  obtain ⟨φ, env, m, src, n, m', S, E, hf, k⟩ := q
  obtain ⟨⟨rs, m1⟩, h1, hf⟩ := bind_some_iff hf
  simp only at hf
  split at hf
  · rename_i i j
    split at hf
    · rename_i hj
      cases hf
      refine ⟨φ, env, m, _, _, S, E, h1, fun φ1 H1 vs g1 S1 R1 => ?_⟩
      cases R1 with
      | cons a1 t1 =>
        cases t1 with
        | cons a2 t2 =>
          cases t2
          have a1' : Dp X.K (off φ1 H1) _ (.int i) := a1
          have a2' : Dp X.K (off φ1 H1) _ (.int j) := a2
          cases a1'
          cases a2'
          exact ⟨i, j, rfl, hj, k φ1 H1 _ g1 S1 jok_range⟩
    · cases hf
  · cases hf
end

/-! ### functions -/
abbrev Fn := List R → M → Option (R × M)
def spF (ζ : Tbs) (K : PySem.W.Frag) (n : Nat) (F : Fn) : Sp := fun vs H Q _ => vs.length = n ∧ ∃ φ m rs r m', SR ζ K φ H m ∧ RRs K φ H vs rs ∧ F rs m = some (r, m') ∧ ValK ζ K φ H r m' Q
/-- a tuple's own objects become data -/
def freezeT (b : Nat) (m : M) : List (D ⊕ Nat) → Option (List D)
  | [] => some []
  | .inl d :: rs => (freezeT b m rs).bind fun ds => some (d :: ds)
  | .inr i :: rs => if i < b then none else match m[i]? with
    | some (.lst ds) => (freezeT b m rs).bind fun es => some (.list ds :: es)
    | _ => none
/-- what a function hands back, its own objects dropped -/
def leave (b : Nat) (r : R) (m : M) : Option (R × M) := match r with
  | .val d => some (.val d, m.take b)
  | .ref i => if i < b then some (.ref i, m.take b) else match m[i]? with
    | some (.lst ds) => some (.val (.list ds), m.take b)
    | some (.dct t false kvs) => some (.ref b, m.take b ++ [.dct t false kvs])
    | _ => none
  | .tp rs => (freezeT b m rs).bind fun ds => some (.val (.tuple ds), m.take b)
def bodyF (n : Nat) (body : SF) : Fn := fun rs m => (body (rs.map some ++ List.replicate (n - rs.length) none) m).bind fun fl => match fl with
  | .rt r m' => leave m.length r m'
  | .nx _ m' => some (.val .none, m'.take m.length)
  | _ => none
/-- .. its own objects kept -/
def bodyK (n : Nat) (body : SF) : Fn := fun rs m => (body (rs.map some ++ List.replicate (n - rs.length) none) m).bind fun fl => match fl with
  | .rt r m' => some (r, m')
  | .nx _ m' => some (.val .none, m')
  | _ => none
section
variable {K : PySem.W.Frag} {φ φ' : Ad} {H H' : Hp} {m m' : M}
theorem Paired.len {α β : Type} {F : α → β → Prop} : ∀ {l₁ : List α} {l₂ : List β}, Paired F l₁ l₂ → l₁.length = l₂.length
  | _, _, .nil => rfl
  | _, _, .cons _ t => by rw [List.length_cons, List.length_cons, Paired.len t]
theorem Paired.at_ {α β : Type} {F : α → β → Prop} : ∀ {l₁ : List α} {l₂ : List β} {i : Nat} {b : β}, Paired F l₁ l₂ → l₂[i]? = some b → ∃ a, l₁[i]? = some a ∧ F a b
  | _, _, _, _, .nil, e => by simp at e
  | _, _, 0, _, .cons (a := a) h t, e => by
    simp at e
    subst e
    exact ⟨a, rfl, h⟩
  | _, _, i + 1, _, .cons _ t, e => by
    obtain ⟨v, h1, h2⟩ := Paired.at_ (i := i) t (by simpa using e)
    exact ⟨v, by simpa using h1, h2⟩
theorem er_start {N : List Str} {vs : List V} {rs : List R} (h : RRs K φ H vs rs) : ER K φ H (L2.start N vs) (rs.map some ++ List.replicate (N.length - rs.length) none) := by
  have hl := Paired.len h
  unfold L2.start
  refine ⟨by simp [hl], fun i r e => ?_⟩
  by_cases hi : i < rs.length
  · rw [List.getElem?_append_left (by simpa using hi), List.getElem?_map] at e
    cases q : rs[i]? with
    | none => rw [q] at e; cases e
    | some r' =>
      rw [q] at e
      cases e
      obtain ⟨v, h1, h2⟩ := Paired.at_ h q
      exact ⟨v, by rw [List.getElem?_append_left (by rw [List.length_map, hl]; exact hi), List.getElem?_map, h1]; rfl, h2⟩
  · rw [List.getElem?_append_right (by simpa using hi), List.getElem?_replicate] at e
    split at e <;> cases e
theorem gr_cut (g : Gr φ H φ' H') : Same (off φ' H') (off φ H') := fun b o e => by
  rw [off_some] at e ⊢
  refine ⟨fun z => e.1 ?_, e.2⟩
  rcases Ad.mem.mp z with z | z
  · exact Ad.mem.mpr (.inl (g.pre.subset z))
  · exact Ad.mem.mpr (.inr (by rw [g.eqh]; exact z))
theorem Gr.cut (g : Gr φ H φ' H') : Gr φ H φ H' := ⟨List.prefix_refl _, rfl, rfl, fun b o e => gr_cut g b o (g.same b o e), g.stay, g.frz⟩
theorem SR.cut (S : SR ζ K φ H m) (S' : SR ζ K φ' H' m') (g : Gr φ H φ' H') : SR ζ K φ H' (m'.take m.length) := by
  obtain ⟨t, ht⟩ := g.pre
  refine ⟨?_, S.nd, fun i o a e1 e2 => ?_, fun a ha => ?_, S.teq, S.tin, by have q := S'.tab; rw [g.eqt] at q; exact q, S'.pl, S.kt⟩
  · rw [List.length_take, ← S'.len, ← ht, List.length_append, S.len]
    omega
  · have hi : i < m.length := by
      rw [← S.len]
      exact (List.getElem?_eq_some_iff.mp e2).1
    rw [List.getElem?_take_of_lt hi] at e1
    exact (S'.obj i o a e1 (prefix_get g.pre e2)).mono (gr_cut g) fun _ z => z
  · have q := S'.hid a (by rw [g.eqh]; exact ha)
    rw [g.eqt] at q
    exact q
theorem own_out (S : SR ζ K φ H m) (S' : SR ζ K φ' H' m') (g : Gr φ H φ' H') {i : Nat} {a : Addr} (hi : ¬ i < m.length) (h : φ'.s[i]? = some a) : a ∉ φ.all := fun z => by
  rcases Ad.mem.mp z with z | z
  · obtain ⟨j, hj, e⟩ := List.mem_iff_getElem.mp z
    have q : φ'.s[j]? = some a := prefix_get g.pre (by rw [List.getElem?_eq_getElem hj, e])
    have := nodup_at S'.nds h q
    rw [S.len] at hj
    omega
  · exact S'.apart (List.mem_of_getElem? h) (by rw [g.eqh]; exact z)
theorem freeze_ok (S : SR ζ K φ H m) (S' : SR ζ K φ' H' m') (g : Gr φ H φ' H') : ∀ {rs : List (D ⊕ Nat)} {vs : List V} {ds : List D}, Paired (RI K φ' H') vs rs → freezeT m.length m' rs = some ds → DpAll K (off φ H') vs ds
  | [], _, _, .nil, e => by
    cases e
    exact .nil
  | .inl d :: rs, _, _, .cons h t, e => by
    obtain ⟨es, e1, e2⟩ := bind_some_iff e
    cases e2
    exact .cons (dp_mono (gr_cut g) h) (freeze_ok S S' g t e1)
  | .inr i :: rs, _, _, .cons h t, e => by
    obtain ⟨a, rfl, h⟩ := h
    unfold freezeT at e
    split at e
    · cases e
    · rename_i hi
      split at e
      · rename_i ds hm
        obtain ⟨es, e1, e2⟩ := bind_some_iff e
        cases e2
        obtain ⟨xs, h1, h2⟩ := S'.obj i _ a hm h
        exact .cons (Dp.lst (.inl (.inl (off_some.mpr ⟨own_out S S' g hi h, h1, rfl⟩))) (dps_mono (gr_cut g) h2)) (freeze_ok S S' g t e1)
      · cases e
theorem leave_ok {v : V} {r r2 : R} {m2 : M} (S : SR ζ K φ H m) (S' : SR ζ K φ' H' m') (g : Gr φ H φ' H') (h : RR K φ' H' v r) (e : leave m.length r m' = some (r2, m2)) : ∃ φ2, Gr φ H φ2 H' ∧ SR ζ K φ2 H' m2 ∧ RR K φ2 H' v r2 := by
  cases r with
  | tp rs =>
    obtain ⟨a, vs, rfl, h1, h2⟩ := h
    obtain ⟨ds, e1, e2⟩ := bind_some_iff e
    cases e2
    exact ⟨φ, g.cut, S.cut S' g, Dp.tup (sqT_mono (gr_cut g) h1) (freeze_ok S S' g h2 e1)⟩
  | val d =>
    cases e
    exact ⟨φ, g.cut, S.cut S' g, dp_mono (gr_cut g) h⟩
  | ref i =>
    obtain ⟨a, rfl, h⟩ := h
    unfold leave at e
    simp only at e
    split at e
    · rename_i hi
      cases e
      refine ⟨φ, g.cut, S.cut S' g, a, rfl, ?_⟩
      obtain ⟨t, ht⟩ := g.pre
      rw [← ht, List.getElem?_append_left (by rw [S.len]; exact hi)] at h
      exact h
    · rename_i hi
      have na : a ∉ φ.all := fun z => by
        rcases Ad.mem.mp z with z | z
        · obtain ⟨j, hj, e⟩ := List.mem_iff_getElem.mp z
          have q : φ'.s[j]? = some a := prefix_get g.pre (by rw [List.getElem?_eq_getElem hj, e])
          have := nodup_at S'.nds h q
          rw [S.len] at hj
          omega
        · exact S'.apart (List.mem_of_getElem? h) (by rw [g.eqh]; exact z)
      split at e
      · rename_i ds hm
        cases e
        obtain ⟨xs, h1, h2⟩ := S'.obj i _ a hm h
        exact ⟨φ, g.cut, S.cut S' g, Dp.lst (.inl (.inl (off_some.mpr ⟨na, h1, rfl⟩))) (dps_mono (gr_cut g) h2)⟩
      · rename_i t kvs hm
        cases e
        have C := S.cut S' g
        have sm : Same (off φ' H') (off (φ.add a) H') := fun b o e => by
          rw [off_some] at e ⊢
          refine ⟨fun z => e.1 ?_, e.2⟩
          rcases Ad.mem.mp z with z | z
          · rcases List.mem_append.mp z with z | z
            · exact Ad.mem.mpr (.inl (g.pre.subset z))
            · simp at z
              subst z
              exact Ad.mem.mpr (.inl (List.mem_of_getElem? h))
          · exact Ad.mem.mpr (.inr (by rw [g.eqh]; exact z))
        refine ⟨φ.add a, ⟨List.prefix_append _ _, rfl, rfl, fun b o e => sm b o (g.same b o e), g.stay, g.frz⟩, ⟨?_, nodup_add S.nd na, fun j o b e1 e2 => ?_, C.hid, C.teq, C.tin, C.tab, C.pl, C.kt⟩, a, rfl, ?_⟩
        · show (φ.s ++ [a]).length = _
          rw [List.length_append, List.length_append, C.len]
          rfl
        · have e2' : (φ.s ++ [a])[j]? = some b := e2
          by_cases hj : j < φ.s.length
          · have hj' : j < m.length := by rw [← S.len]; exact hj
            have hm' : m.length ≤ m'.length := by
              rw [← S.len, ← S'.len]
              exact g.pre.length_le
            rw [List.getElem?_append_left hj] at e2'
            rw [List.getElem?_append_left (by rw [List.length_take]; omega), List.getElem?_take_of_lt hj'] at e1
            exact (S'.obj j o b e1 (prefix_get g.pre e2')).mono sm fun _ z => z
          · have hl : (m'.take m.length).length = φ.s.length := C.len.symm
            have q : j = φ.s.length := by
              have := (List.getElem?_eq_some_iff.mp e2').1
              rw [List.length_append] at this
              simp at this
              omega
            subst q
            rw [List.getElem?_append_right (Nat.le_refl _), Nat.sub_self] at e2'
            rw [← hl, List.getElem?_append_right (Nat.le_refl _), Nat.sub_self] at e1
            simp at e1 e2'
            subst e1 e2'
            exact (S'.obj i _ a hm h).mono sm fun _ z => z
        · show (φ.s ++ [a])[m.length]? = some a
          rw [← S.len, List.getElem?_append_right (Nat.le_refl _), Nat.sub_self]
          rfl
      · cases e
end
structure FnG (P : Program) (w : World) (K : PySem.W.Frag) (mg : Str → Option Value) (base : Heap) (k : Nat) (f : Addr) (fd : FuncData) (ps : List Str) (sp : Sp) : Prop where
  len : ∀ vs H Q E, sp vs H Q E → vs.length = ps.length
  go : ∀ (A : Around) (outer : List Env) (s : Shared) (H : Hp) (args : Args) (us : List Value) (vs : List V) (Q : VK) (E : XK), A.guards = some [] → Room k A → Env0 P w K mg base A outer s H → BindsTo s fd args (ps.zip us) → Vals vs us → sp vs H Q E →
    codeAny (model P w) A (.call (.ref f) args) (CR CX0 outer P w H s Q E) s
section
variable {P : Program} {w : World} {K : PySem.W.Frag} {mg : Str → Option Value} {base : Heap}
theorem guards_deeper {A : Around} {env : Env} (h : A.guards = some []) : (A.deeper env).guards = some [] := h
/-- the context of a def's body -/
abbrev Cf (P : Program) (w : World) (K : PySem.W.Frag) (mg : Str → Option Value) (base : Heap) (N : List Str) (qual : Str) (st : Stmt) (f : Addr) (cdv : Value) (A : Around) (outer : List Env) (s : Shared) (H : Hp) (E : XK) : Cx := (cxOf CX0 P w K mg base N qual (defScope st) f cdv A outer s H E).nox
/-- the rule of a def -/
theorem fnG {x qual : Str} {st : Stmt} {f : Addr} {fd : FuncData} {N ps : List Str} {k : Nat} {sp : Sp} {t : TS} (F : Fun K x qual st f fd) (S : FnScope N ps (defScope st)) (len : ∀ vs H Q E, sp vs H Q E → vs.length = ps.length)
    (hb : ∀ cdv A outer s H E, fd.code = cdv → A.guards = some [] → Room k (A.deeper (envOfC qual (defScope st) s.heap.objs.size f cdv)) → PSs (Cf P w K mg base N qual st f cdv A outer s H E) (defBody st) t)
    (hq : ∀ vs H Q E, sp vs H Q E → t { nx := fun _ H' => Q .non H', rt := Q } (L2.start N vs) H) : FnG P w K mg base (k + 1) f fd ps sp := by
  obtain ⟨oc, od, kV, doc, pm, an, cdv, ct, osl, rfl, lk, hcd⟩ := F.ex
  refine ⟨len, fun A outer s H args us vs Q E hg hr e0 hbd r hsp => ?_⟩
  have hl := len _ _ _ _ hsp
  have stay : ∀ b o, base.get? b = some o → s.heap.get? b = some o := fun b o e => (e0.bs b o e).1
  have KX : K.In s.heap := e0.mod.kin.keeps stay
  have lim : s.heap.NoLimit := e0.mod.nolimit.keeps stay
  have kinds : ∀ y ∈ ps.zip us, (defScope st).names.lookup y.1 = some .local ∨ ((defScope st).names.lookup y.1 = some .cell ∧ ((cellsFrom (s.heap.objs.size + 1) (defScope st).names []).lookup y.1).isSome = true) := by
    rintro ⟨n, v⟩ hy
    rcases S.par n (List.of_mem_zip hy).1 with q | q
    · exact Or.inl q
    · exact Or.inr ⟨q, PySem.W.cellsFrom_some _ _ _ (Or.inl q)⟩
  refine codeAny_call_function hr.depth (KX _ _ lk) rfl S.co S.gen rfl (PySem.W.codeRec_of KX hcd) (hbd _ _ _ _ ?_)
  refine wpAny_newFunctionEnv_cells S.kind kinds fun env he s1 x => ?_
  subst he
  refine ⟨lim.keeps x.toInCall.keep, codeAny_func ?_⟩
  have ht := hb cdv A outer s H E rfl hg (hr.deeper _)
  have I : Inv (cxOf CX0 P w K mg base N qual (defScope st) f cdv A outer s H E) [] (L2.start N vs) H s1 := inv_start S hr.hd e0 hl r x
  refine wpAny_mono ((PSs.nox ht).run [] s1 (L2.start N vs) H _ I (hq vs H Q E hsp)) (fun fl s' hs => ?_) fun e s' hs => hs
  have fin : ∀ {σ' : L2.St} {H' : Hp} {v : V} {u : Value}, Inv (cxOf CX0 P w K mg base N qual (defScope st) f cdv A outer s H E) [] σ' H' s' → RelV v u → Q v H' → CE outer P w H s Q u s' :=
    fun {σ' H' v u} J rv q => ⟨v, H', J.os, J.bare, J.base, J.hok, rv, q⟩
  cases fl with
  | ret u =>
    obtain ⟨v, σ', H', J, rv, q⟩ := hs
    exact fin J rv q
  | next =>
    obtain ⟨σ', H', J, q⟩ := hs
    exact fin (v := V.non) (u := Value.none) J rfl q
  | brk =>
    obtain ⟨_, _, _, q⟩ := hs
    exact q.elim
  | cont =>
    obtain ⟨_, _, _, q⟩ := hs
    exact q.elim
/-- .. by its function -/
theorem fnF {x qual : Str} {st : Stmt} {f : Addr} {fd : FuncData} {N ps : List Str} {k n : Nat} {body : SF} (F : Fun K x qual st f fd) (S : FnScope N ps (defScope st)) (hn : N.length = n)
    (hb : ∀ cdv A outer s H E, fd.code = cdv → A.guards = some [] → Room k (A.deeper (envOfC qual (defScope st) s.heap.objs.size f cdv)) → PSs (Cf P w K mg base N qual st f cdv A outer s H E) (defBody st) (tS ζ K body)) :
    FnG P w K mg base (k + 1) f fd ps (spF ζ K ps.length (bodyF n body)) := by
  refine fnG F S (fun vs H Q E h => h.1) hb fun vs H Q E h => ?_
  obtain ⟨_, φ, m, rs, r, m', SS, RS, hf, k⟩ := h
  obtain ⟨fl, hfl, hf⟩ := bind_some_iff hf
  rw [← hn] at hfl
  refine ⟨φ, _, m, fl, SS, er_start RS, hfl, ?_⟩
  cases fl with
  | nx e m1 =>
    cases hf
    exact fun φ1 σ1 H1 g1 S1 E1 => k φ H1 _ g1.cut (SS.cut S1 g1) Dp.non
  | rt r1 m1 =>
    intro φ1 H1 v g1 S1 R1
    obtain ⟨φ2, g2, S2, R2⟩ := leave_ok SS S1 g1 R1 hf
    exact k φ2 H1 v g2 S2 R2
  | bk e m1 => cases hf
  | ct e m1 => cases hf
theorem fnK {x qual : Str} {st : Stmt} {f : Addr} {fd : FuncData} {N ps : List Str} {k n : Nat} {body : SF} (F : Fun K x qual st f fd) (S : FnScope N ps (defScope st)) (hn : N.length = n)
    (hb : ∀ cdv A outer s H E, fd.code = cdv → A.guards = some [] → Room k (A.deeper (envOfC qual (defScope st) s.heap.objs.size f cdv)) → PSs (Cf P w K mg base N qual st f cdv A outer s H E) (defBody st) (tS ζ K body)) :
    FnG P w K mg base (k + 1) f fd ps (spF ζ K ps.length (bodyK n body)) := by
  refine fnG F S (fun vs H Q E h => h.1) hb fun vs H Q E h => ?_
  obtain ⟨_, φ, m, rs, r, m', SS, RS, hf, k⟩ := h
  obtain ⟨fl, hfl, hf⟩ := bind_some_iff hf
  rw [← hn] at hfl
  refine ⟨φ, _, m, fl, SS, er_start RS, hfl, ?_⟩
  cases fl with
  | nx e m1 =>
    cases hf
    exact fun φ1 σ1 H1 g1 S1 E1 => k φ1 H1 _ g1 S1 Dp.non
  | rt r1 m1 =>
    cases hf
    exact k
  | bk e m1 => cases hf
  | ct e m1 => cases hf
end
section
variable {X : Cx} {k : Nat} {f : Addr} {fd : FuncData} {ps : List Str} {x : Str} {p pos : Pos} {e : Expr} {es : List Expr} {fa : AF} {n : Nat} {F : Fn}
/-- f(..) of a def -/
theorem x_call (F0 : FnG X.prog X.w X.K X.mg X.base k f fd ps (spF ζ X.K n F)) (hr : Room k X.A) (hgd : X.A.guards = some []) (hg : Gl X x) (hm : X.mg x = some (.ref f)) (hk : PySem.W.keepIn X.K (.ref f) = true) (hb : Binds X.K fd ps []) (hnn : ps.length = n)
    (ha : PA X (e :: es) (tA ζ X.K fa)) (hl : ∀ env m rs m', fa env m = some (rs, m') → rs.length = n) (hdb : (x == ("__debug__" : Str)) = false := by decide) (he : starEach (e :: es) X.env = (false, eval e X.env) :: starEach es X.env := by rfl) (hpl : (backTo pos (starEach es X.env)).any (·.1) = false := by rfl) :
    PE X (.Call (.Name x p) (e :: es) [] pos) (tE ζ X.K (eAp F fa)) := by
  refine ⟨fun pins s σ H Q I h => ?_⟩
  obtain ⟨φ, env, m, r, m', S, E, hf, q⟩ := h
  obtain ⟨⟨rs, m1⟩, h1, hf⟩ := bind_some_iff hf
  refine wpAny_Call_Name_kw (ld_glob I hg hm ?_ hdb)
  have hA := ha.run pos pins s σ H (fun vs H1 => ∃ φ1, Gr φ H φ1 H1 ∧ SR ζ X.K φ1 H1 m1 ∧ RRs X.K φ1 H1 vs rs) I ⟨φ, env, m, rs, m1, S, E, h1, fun φ1 H1 vs g1 S1 R1 => ⟨φ1, g1, S1, R1⟩⟩
  refine PySem.W.callWith_K (h₀ := X.base) I.ok.mod.kin hk (thn hA fun us s1 ⟨vs, H1, I1, rv, φ1, g1, S1, R1⟩ => ⟨I1.kIn, ?_⟩) he hpl
  have hvs : vs.length = n := by rw [Paired.len R1]; exact hl env m rs m1 h1
  have hlen : (us ++ []).length = ps.length := by rw [List.append_nil, ← rv.length, hvs, hnn]
  have hbd := hb s1 us I1.kIn hlen
  rw [List.append_nil] at hbd
  have sp : spF ζ X.K n F vs H1 Q E0 := ⟨hvs, φ1, m1, rs, r, m', S1, R1, hf, fun φ2 H2 v g2 S2 R2 => q φ2 H2 v (g1.trans g2) S2 R2⟩
  refine wpAny_call (codeAny_mono (F0.go X.A X.stack s1 H1 ⟨us, []⟩ us vs Q E0 hgd hr I1.env0 hbd rv sp) fun r s' hq => ?_)
  cases r with
  | error e => exact (show False from hq).elim
  | ok fl =>
    cases fl with
    | ret u => exact I1.after hq
    | next => exact (show False from hq).elim
    | brk => exact (show False from hq).elim
    | cont => exact (show False from hq).elim
end
/-- a tuple display that may hold objects of the store -/
def toI : R → Option (D ⊕ Nat)
  | .val d => some (.inl d)
  | .ref i => some (.inr i)
  | .tp _ => none
def toIs : List R → Option (List (D ⊕ Nat))
  | [] => some []
  | r :: rs => (toI r).bind fun x => (toIs rs).bind fun xs => some (x :: xs)
def pTupR (rs : List R) (m : M) : Option (R × M) := (toIs rs).bind fun xs => if xs.length ≤ sizeLine then some (.tp xs, m) else none
theorem toIs_rr {K : PySem.W.Frag} {φ : Ad} {H : Hp} : ∀ {rs : List R} {xs : List (D ⊕ Nat)} {vs : List V}, toIs rs = some xs → RRs K φ H vs rs → Paired (RI K φ H) vs xs
  | [], _, _, e, h => by
    cases e
    cases h
    exact .nil
  | r :: rs, _, _, e, h => by
    obtain ⟨x, e1, e⟩ := bind_some_iff e
    obtain ⟨xs, e2, e⟩ := bind_some_iff e
    cases e
    cases h with
    | cons a t =>
      refine .cons ?_ (toIs_rr e2 t)
      cases r with
      | val d => cases e1; exact a
      | ref i => cases e1; exact a
      | tp s => cases e1
theorem x_tupR {X : Cx} {es : List Expr} {fa : AF} {pos : Pos} {x1} (h : PA X es (tA ζ X.K fa)) : PE X (.Tuple es x1 pos) (tE ζ X.K (eAp pTupR fa)) := pe_imp (pe_tupF h) fun σ H Q q => by
  obtain ⟨φ, env, m, r, m', S, E, hf, k⟩ := q
  obtain ⟨⟨rs, m1⟩, h1, hf⟩ := bind_some_iff hf
  obtain ⟨xs, h2, hf⟩ := bind_some_iff hf
  split at hf
  · rename_i hl
    cases hf
    refine ⟨φ, env, m, rs, m1, S, E, h1, fun φ1 H1 vs g1 S1 R1 => ?_⟩
    have hd := toIs_rr h2 R1
    refine ⟨by rw [Paired.len hd]; exact hl, fun p o hp ho => k φ1 _ _ (g1.trans (gr_alloc hp)) (S1.alloc hp ho) ⟨p, vs, rfl, .inl (.inr ⟨o, off_some.mpr ⟨S1.new hp, upd_same, rfl⟩⟩), ?_⟩⟩
    exact Paired.mapP hd fun _ _ z => RI.monoS (List.prefix_refl _) (gr_alloc hp).same z
  · cases hf
end Ev

set_option Elab.async false
set_option linter.all false
set_option maxRecDepth 100000
/-! Operators, comparisons, subscripts. -/
namespace Ev
open PySem PySem.Spec PyProof.Rows L2

/-- the items of a list, of the store or not -/
def asL (r : R) (m : M) : Option (List D) := match r with
  | .val (.list ds) => some ds
  | .ref k => match m[k]? with
    | some (.lst ds) => some ds
    | _ => none
  | _ => none
/-- .. of a list or a tuple -/
def asLT (r : R) (m : M) : Option (List D) := match r with
  | .val (.tuple ds) => some ds
  | r => asL r m
section
variable {K : PySem.W.Frag} {φ : Ad} {H : Hp} {m : M} {v : V} {r : R} {ds : List D}
theorem seqL_of (S : SR ζ K φ H m) (h : RR K φ H v r) (e : asL r m = some ds) : ∃ a xs, v = .ref a ∧ SqL K H a xs ∧ DpAll K (off φ H) xs ds := by
  cases r with
  | tp j => first | (cases hf; done) | (cases e; done) | (cases h1; done) | (cases h; done) | (cases h7; done) | (cases h2; done)
  | val d =>
    cases d with
    | list es =>
      cases e
      have h' : Dp K (off φ H) v (.list ds) := h
      cases h' with
      | lst hs ha => exact ⟨_, _, rfl, off_same.seq hs, ha⟩
    | _ => cases e
  | ref k =>
    obtain ⟨a, rfl, h⟩ := h
    unfold asL at e
    simp only at e
    split at e
    · rename_i es hm
      cases e
      obtain ⟨xs, h1, h2⟩ := S.obj k _ a hm h
      exact ⟨a, xs, rfl, .inl (.inl h1), h2⟩
    · cases e
theorem seqT_of (h : RR K φ H v (.val (.tuple ds))) : ∃ a xs, v = .ref a ∧ SqT K H a xs ∧ DpAll K (off φ H) xs ds := by
  have h' : Dp K (off φ H) v (.tuple ds) := h
  cases h' with
  | tup hs ha => exact ⟨_, _, rfl, sqT_mono off_same hs, ha⟩
theorem seqLT_of (S : SR ζ K φ H m) (h : RR K φ H v r) (e : asLT r m = some ds) : ∃ a xs, v = .ref a ∧ (SqL K H a xs ∨ SqT K H a xs) ∧ DpAll K (off φ H) xs ds := by
  unfold asLT at e
  split at e
  · cases e
    obtain ⟨a, xs, h1, h2, h3⟩ := seqT_of h
    exact ⟨a, xs, h1, .inr h2, h3⟩
  · obtain ⟨a, xs, h1, h2, h3⟩ := seqL_of S h e
    exact ⟨a, xs, h1, .inl h2, h3⟩
theorem rr_int {i : Int} (h : RR K φ H v (.val (.int i))) : v = .int i := by
  have h' : Dp K (off φ H) v (.int i) := h
  cases h'
  rfl
theorem rr_str {i : Str} (h : RR K φ H v (.val (.str i))) : v = .str i := by
  have h' : Dp K (off φ H) v (.str i) := h
  cases h'
  rfl
theorem rr_dp {d : D} (h : RR K φ H v (.val d)) : Dp K H v d := dp_mono off_same h
end

def asI : R → Option Int
  | .val (.int i) => some i
  | _ => none
theorem asI_some {r : R} {i : Int} (h : asI r = some i) : r = .val (.int i) := by
  cases r with
  | tp j => first | (cases hf; done) | (cases e; done) | (cases h1; done) | (cases h; done) | (cases h7; done) | (cases h2; done)
  | ref i => cases h
  | val d =>
    cases d with
    | int c =>
      cases h
      rfl
    | _ => cases h

/-- an operation of two ints -/
def pII (C : Int → Int → Bool) (g : Int → Int → D) (a b : R) (m : M) : Option (R × M) := (asI a).bind fun i => (asI b).bind fun j => ite (C i j = true) (some (.val (g i j), m)) none
/-- a raw rule of two ints gives one here -/
theorem o_ii {X : Cx} {f : Value → Value → Sem Value} {C : Int → Int → Bool} {C' : Int → Int → Prop} {g : Int → Int → D} {g' : Int → Int → V} (h : OpR X f (rI C' g')) (hc : ∀ i j, C i j = true → C' i j) (hg : ∀ H i j, Dp X.K H (g' i j) (g i j)) : OpR X f (r2P ζ X.K (pII C g)) := by
  intro pins s σ H x y v u Q I rx ry q
  obtain ⟨φ, m, r1, r2, r, m', S, R1, R2, hf, k⟩ := q
  obtain ⟨i, h1, hf⟩ := bind_some_iff hf
  obtain ⟨j, h2, hf⟩ := bind_some_iff hf
  have e1 := asI_some h1
  have e2 := asI_some h2
  subst e1 e2
  have x1 := rr_int R1
  have x2 := rr_int R2
  replace hf : (if C i j = true then some (R.val (g i j), m) else none) = some (r, m') := hf
  split at hf
  · rename_i hcc
    cases hf
    exact h pins s σ H x y v u Q I rx ry ⟨i, j, x1, x2, hc i j hcc, k φ H _ .refl S (hg _ i j)⟩
  · cases hf
theorem o_ii0 {X : Cx} {f : Value → Value → Sem Value} {g : Int → Int → D} {g' : Int → Int → V} (h : OpR X f (rI0 g')) (hg : ∀ H i j, Dp X.K H (g' i j) (g i j)) : OpR X f (r2P ζ X.K (pII (fun _ _ => true) g)) := by
  intro pins s σ H x y v u Q I rx ry q
  obtain ⟨φ, m, r1, r2, r, m', S, R1, R2, hf, k⟩ := q
  obtain ⟨i, h1, hf⟩ := bind_some_iff hf
  obtain ⟨j, h2, hf⟩ := bind_some_iff hf
  have e1 := asI_some h1
  have e2 := asI_some h2
  subst e1 e2
  have x1 := rr_int R1
  have x2 := rr_int R2
  cases hf
  exact h pins s σ H x y v u Q I rx ry ⟨i, j, x1, x2, k φ H _ .refl S (hg _ i j)⟩
/-- one of two operations -/
def pOr (p q : R → R → M → Option (R × M)) (a b : R) (m : M) : Option (R × M) := match p a b m with
  | some x => some x
  | none => q a b m
theorem o_or {X : Cx} {f : Value → Value → Sem Value} {p q : R → R → M → Option (R × M)} (h1 : OpR X f (r2P ζ X.K p)) (h2 : OpR X f (r2P ζ X.K q)) : OpR X f (r2P ζ X.K (pOr p q)) := by
  intro pins s σ H x y v u Q I rx ry z
  obtain ⟨φ, m, r1, r2, r, m', S, R1, R2, hf, k⟩ := z
  unfold pOr at hf
  split at hf
  · rename_i e
    cases hf
    exact h1 pins s σ H x y v u Q I rx ry ⟨φ, m, r1, r2, r, m', S, R1, R2, e, k⟩
  · exact h2 pins s σ H x y v u Q I rx ry ⟨φ, m, r1, r2, r, m', S, R1, R2, hf, k⟩

/-! ### + -/
def pCatT (a b : R) (m : M) : Option (R × M) := match a, b with
  | .val (.tuple xs), .val (.tuple ys) => if xs.length + ys.length ≤ sizeLine then some (.val (.tuple (xs ++ ys)), m) else none
  | _, _ => none
def pCatL (a b : R) (m : M) : Option (R × M) := (asL a m).bind fun xs => (asL b m).bind fun ys => if xs.length + ys.length ≤ sizeLine then some (.val (.list (xs ++ ys)), m) else none
def pAdd : R → R → M → Option (R × M) := pOr (pII (fun _ _ => true) fun i j => .int (i + j)) (pOr pCatT pCatL)
section
variable {X : Cx}
theorem o_catT : OpR X (binaryOp .Add) (r2P ζ X.K pCatT) := by
  intro pins s σ H x y v u Q I rx ry q
  obtain ⟨φ, m, r1, r2, r, m', S, R1, R2, hf, k⟩ := q
  unfold pCatT at hf
  split at hf
  · rename_i xs ys
    split at hf
    · rename_i hl
      cases hf
      obtain ⟨a, vs, rfl, ha, da⟩ := seqT_of R1
      obtain ⟨b, us, rfl, hb, db⟩ := seqT_of R2
      have l1 := DpAll.len da
      have l2 := DpAll.len db
      refine op_catF pins s σ H _ _ v u Q I rx ry ⟨a, b, vs, us, rfl, rfl, ha, hb, by rw [l1, l2]; exact hl, fun e => ?_, fun e1 e2 => ?_, fun _ _ p o hp ho => ?_⟩
      · subst e
        have : xs = [] := List.length_eq_zero_iff.mp l1.symm
        subst this
        exact k φ H _ .refl S R2
      · subst e2
        have : ys = [] := List.length_eq_zero_iff.mp l2.symm
        subst this
        rw [List.append_nil] at k
        exact k φ H _ .refl S R1
      · exact k φ _ _ (gr_alloc hp) (S.alloc hp ho) (rr_newT S hp (DpAll.append da db))
    · cases hf
  · cases hf
theorem o_catL : OpR X (binaryOp .Add) (fun x y H Q => ∃ φ m r1 r2 xs ys, SR ζ X.K φ H m ∧ RR X.K φ H x r1 ∧ RR X.K φ H y r2 ∧ asL r1 m = some xs ∧ asL r2 m = some ys ∧ xs.length + ys.length ≤ sizeLine ∧
    ∀ p vs, H p = none → DpAll X.K (off φ H) vs (xs ++ ys) → Q (.ref p) (upd H p (.lst vs))) := by
  intro pins s σ H x y v u Q I rx ry q
  obtain ⟨φ, m, r1, r2, xs, ys, S, R1, R2, h1, h2, hl, k⟩ := q
  obtain ⟨a, vs, rfl, ha, da⟩ := seqL_of S R1 h1
  obtain ⟨b, us, rfl, hb, db⟩ := seqL_of S R2 h2
  cases rx
  cases ry
  obtain ⟨its, rv, pl, z1⟩ := I.list ha
  obtain ⟨its2, rv2, pl2, z2⟩ := I.list hb
  obtain ⟨⟨cl1, dd1, dt1, sl1⟩, n1, g1, c1, d1, e1⟩ := pl
  obtain ⟨⟨cl2, dd2, dt2, sl2⟩, n2, g2, c2, d2, e2⟩ := pl2
  simp only at c1 e1 c2 e2
  subst c1 e1 c2 e2
  have l1 := DpAll.len da
  have l2 := DpAll.len db
  have l3 := rv.length
  have l4 := rv2.length
  have ea : its.toArray ++ its2.toArray = (its ++ its2).toArray := by simp
  refine concat_meets ⟨_, g1, rfl⟩ ⟨_, g2, rfl⟩ noFill_list_add seq_list_add
    PySem.F.slot_list_add PySem.F.entry_list_add (PySem.F.args_list_add_2 _ _)
    (PyProof.Rows.list_addW a b its.toArray its2.toArray n1 n2 dd1 dd2 sl1 sl2
      (by simp only [List.size_toArray]; omega)) ⟨g1, g2, ?_⟩
  rw [ea]
  exact ⟨.ref _, _, I.lnew (t' := s.toks) (rv.append rv2) (by rw [List.length_append]; omega), rfl, k _ _ I.fresh (DpAll.append da db)⟩
end

/-! ### expressions that make a new list -/
abbrev NF := Sl → M → Option (List D × M)
def tN (ζ : Tbs) (K : PySem.W.Frag) (f : NF) : TE := fun σ H Q => ∃ φ env m ds m', SR ζ K φ H m ∧ ER K φ H σ env ∧ f env m = some (ds, m') ∧
  ∀ φ' H' p vs, Gr φ H φ' H' → SR ζ K φ' H' m' → H' p = none → DpAll K (off φ' H') vs ds → Q (.ref p) (upd H' p (.lst vs))
/-- as data -/
def eL (f : NF) : EF := fun env m => (f env m).bind fun x => some (.val (.list x.1), x.2)
/-- as a new object of the store -/
def eNew (f : NF) : EF := fun env m => (f env m).bind fun x => some (.ref x.2.length, x.2 ++ [.lst x.1])
def nLst (f : AF) : NF := fun env m => (f env m).bind fun x => (vals x.1).bind fun ds => if ds.length ≤ sizeLine then some (ds, x.2) else none
def nCat (f g : EF) : NF := fun env m => (f env m).bind fun x => (g env x.2).bind fun y => (asL x.1 y.2).bind fun xs => (asL y.1 y.2).bind fun ys => if xs.length + ys.length ≤ sizeLine then some (xs ++ ys, y.2) else none
def nRep (f : NF) (g : EF) : NF := fun env m => (f env m).bind fun x => (g env x.2).bind fun y => (asI y.1).bind fun k => if -(2 ^ 63) ≤ k ∧ k < 2 ^ 63 ∧ x.1.length * k.toNat ≤ sizeLine then some ((List.replicate k.toNat x.1).flatten, y.2) else none
theorem DpAll.rep {K : PySem.W.Frag} {H : Hp} {ds : List D} {vs : List V} (h : DpAll K H vs ds) : ∀ n : Nat, DpAll K H (List.replicate n vs).flatten (List.replicate n ds).flatten
  | 0 => by simp; exact .nil
  | n + 1 => by
    rw [List.replicate_succ, List.replicate_succ, List.flatten_cons, List.flatten_cons]
    exact DpAll.append h (DpAll.rep h n)
section
variable {X : Cx} {a b e : Expr} {es : List Expr} {f g : EF} {fa : AF} {nf : NF} {pos : Pos}
theorem x_ofN (h : PE X e (tN ζ X.K nf)) : PE X e (tE ζ X.K (eL nf)) := pe_imp h fun σ H Q q => by
  obtain ⟨φ, env, m, r, m', S, E, hf, k⟩ := q
  obtain ⟨⟨ds, m1⟩, h1, hf⟩ := bind_some_iff hf
  cases hf
  exact ⟨φ, env, m, ds, m1, S, E, h1, fun φ1 H1 p vs g1 S1 hp hd => k φ1 _ _ (g1.trans (gr_alloc hp)) (S1.alloc hp) (rr_newL S1 hp hd)⟩
theorem x_new (h : PE X e (tN ζ X.K nf)) : PE X e (tE ζ X.K (eNew nf)) := pe_imp h fun σ H Q q => by
  obtain ⟨φ, env, m, r, m', S, E, hf, k⟩ := q
  obtain ⟨⟨ds, m1⟩, h1, hf⟩ := bind_some_iff hf
  cases hf
  refine ⟨φ, env, m, ds, m1, S, E, h1, fun φ1 H1 p vs g1 S1 hp hd => k _ _ _ (g1.trans (gr_enter (o := .lst vs) hp)) (S1.enter hp hd) ⟨p, rfl, ?_⟩⟩
  show (φ1.s ++ [p])[m1.length]? = some p
  rw [← S1.len, List.getElem?_append_right (Nat.le_refl _), Nat.sub_self]
  rfl
theorem n_lst (h : PA X es (tA ζ X.K fa)) : PE X (.List es pos) (tN ζ X.K (nLst fa)) := pe_imp (pe_lst h) fun σ H Q q => by
  obtain ⟨φ, env, m, r, m', S, E, hf, k⟩ := q
  obtain ⟨⟨rs, m1⟩, h1, hf⟩ := bind_some_iff hf
  obtain ⟨ds, h2, hf⟩ := bind_some_iff hf
  split at hf
  · rename_i hl
    cases hf
    refine ⟨φ, env, m, rs, m1, S, E, h1, fun φ1 H1 vs g1 S1 R1 => ?_⟩
    have hd := vals_rr h2 R1
    exact ⟨by rw [DpAll.len hd]; exact hl, fun p hp => k φ1 H1 p vs g1 S1 hp hd⟩
  · cases hf
theorem n_cat (ha : PE X a (tE ζ X.K f)) (hb : PE X b (tE ζ X.K g)) : PE X (.BinOp a .Add b pos) (tN ζ X.K (nCat f g)) := pe_imp (pe_op o_catL ha hb) fun σ H Q q => by
  obtain ⟨φ, env, m, ds, m', S, E, hf, k⟩ := q
  obtain ⟨⟨r1, m1⟩, h1, hf⟩ := bind_some_iff hf
  obtain ⟨⟨r2, m2⟩, h2, hf⟩ := bind_some_iff hf
  obtain ⟨xs, h3, hf⟩ := bind_some_iff hf
  obtain ⟨ys, h4, hf⟩ := bind_some_iff hf
  split at hf
  · rename_i hl
    cases hf
    refine ⟨φ, env, m, r1, m1, S, E, h1, fun φ1 H1 v1 g1 S1 R1 => ?_⟩
    refine ⟨φ1, env, m1, r2, m2, S1, E.mono g1, h2, fun φ2 H2 v2 g2 S2 R2 => ?_⟩
    exact ⟨φ2, m2, r1, r2, xs, ys, S2, R1.mono g2, R2, h3, h4, hl, fun p vs hp hd => k φ2 H2 p vs (g1.trans g2) S2 hp hd⟩
  · cases hf
theorem upd_none {H : Hp} {p : Addr} {o : HO} : (fun b => if b = p then none else upd H p o b) = fun b => if b = p then none else H b := by
  funext b
  by_cases h : b = p
  · rw [if_pos h, if_pos h]
  · rw [if_neg h, if_neg h, upd_ne h]
theorem n_rep (ha : PE X a (tN ζ X.K nf)) (hb : PE X b (tE ζ X.K g)) : PE X (.BinOp a .Mult b pos) (tN ζ X.K (nRep nf g)) := pe_imp (pe_op op_rep ha hb) fun σ H Q q => by
  obtain ⟨φ, env, m, ds, m', S, E, hf, k⟩ := q
  obtain ⟨⟨xs, m1⟩, h1, hf⟩ := bind_some_iff hf
  obtain ⟨⟨r2, m2⟩, h2, hf⟩ := bind_some_iff hf
  obtain ⟨n, h3, hf⟩ := bind_some_iff hf
  split at hf
  · rename_i hl
    cases hf
    have e2 := asI_some h3
    simp only at e2
    subst e2
    refine ⟨φ, env, m, xs, m1, S, E, h1, fun φ1 H1 p vs g1 S1 hp hd => ?_⟩
    refine ⟨φ1, env, m1, _, m2, S1.alloc hp, E.mono (g1.trans (gr_alloc hp)), h2, fun φ2 H2 v2 g2 S2 R2 => ?_⟩
    have hp2 : off φ2 H2 p = some (.lst vs) := g2.same _ _ (off_some.mpr ⟨S1.new hp, upd_same, rfl⟩)
    have hd2 := dps_mono g2.same (dps_mono (gr_alloc (o := .lst vs) hp).same hd)
    refine ⟨p, n, vs, rfl, rr_int R2, (off_some.mp hp2).2.1, hl.1, hl.2.1, by rw [DpAll.len hd]; exact hl.2.2, fun q hq => ?_⟩
    exact k φ2 H2 q _ (g1.trans ((gr_alloc hp).trans g2)) S2 hq (DpAll.rep hd2 _)
  · cases hf
end

/-! ### numbers -/
def mulOk (i j : Int) : Bool := decide (i.natAbs.log2 + j.natAbs.log2 < 1000000)
def divOk (_ j : Int) : Bool := decide (0 < j ∧ j.natAbs.log2 < 9000)
def modOk (_ j : Int) : Bool := decide (0 < j)
def shlOk (i j : Int) : Bool := decide (0 ≤ j ∧ j ≤ 1000000 ∧ i.natAbs < 2 ^ 64)
def shrOk (_ j : Int) : Bool := decide (0 ≤ j)
abbrev pNum (g : Int → Int → Int) := pII (fun _ _ => true) fun i j => .int (g i j)
abbrev pRel (g : Int → Int → Bool) := pII (fun _ _ => true) fun i j => .bool (g i j)
def pSub := pNum (· - ·)
def pMul := pII mulOk fun i j => .int (i * j)
def pDiv := pII divOk fun i j => .int (i / j)
def pMod := pII modOk fun i j => .int (i % j)
def pShl := pII shlOk fun i j => .int (i * 2 ^ j.toNat)
def pShr := pII shrOk fun i j => .int (i / 2 ^ j.toNat)
def pAnd := pNum Builtin.bitAnd
def pBor := pNum Builtin.bitOr
def pXor := pNum Builtin.bitXor
def pLt := pRel fun i j => decide (i < j)
def pLe := pRel fun i j => decide (i ≤ j)
def pGt := pRel fun i j => decide (j < i)
def pGe := pRel fun i j => decide (j ≤ i)
def pAddI := pNum (· + ·)
def pAddN : R → R → M → Option (R × M) := pOr pAddI pCatT
section
variable {X : Cx}
theorem o_addI : OpR X (binaryOp .Add) (r2P ζ X.K pAddI) := o_ii0 op_add fun _ _ _ => .int _
theorem o_add : OpR X (binaryOp .Add) (r2P ζ X.K pAddN) := o_or o_addI o_catT
theorem o_sub : OpR X (binaryOp .Sub) (r2P ζ X.K pSub) := o_ii0 op_sub fun _ _ _ => .int _
theorem o_mul : OpR X (binaryOp .Mult) (r2P ζ X.K pMul) := o_ii op_mulW (fun i j h => (of_decide_eq_true h : i.natAbs.log2 + j.natAbs.log2 < 1000000)) fun _ _ _ => .int _
theorem o_div : OpR X (binaryOp .FloorDiv) (r2P ζ X.K pDiv) := o_ii op_fdivW (fun i j h => (of_decide_eq_true h : 0 < j ∧ j.natAbs.log2 < 9000)) fun _ _ _ => .int _
theorem o_mod : OpR X (binaryOp .Mod) (r2P ζ X.K pMod) := o_ii op_mod (fun _ _ h => of_decide_eq_true h) fun _ _ _ => .int _
theorem o_shl : OpR X (binaryOp .LShift) (r2P ζ X.K pShl) := o_ii op_shl (fun i j h => (of_decide_eq_true h : 0 ≤ j ∧ j ≤ 1000000 ∧ i.natAbs < 2 ^ 64)) fun _ _ _ => .int _
theorem o_shr : OpR X (binaryOp .RShift) (r2P ζ X.K pShr) := o_ii op_shr (fun _ _ h => of_decide_eq_true h) fun _ _ _ => .int _
theorem o_and : OpR X (binaryOp .BitAnd) (r2P ζ X.K pAnd) := o_ii0 op_and fun _ _ _ => .int _
theorem o_bor : OpR X (binaryOp .BitOr) (r2P ζ X.K pBor) := o_ii0 op_or fun _ _ _ => .int _
theorem o_xor : OpR X (binaryOp .BitXor) (r2P ζ X.K pXor) := o_ii0 op_xor fun _ _ _ => .int _
theorem o_lt : OpR X (compareOp .Lt) (r2P ζ X.K pLt) := o_ii0 op_lt fun _ _ _ => .bl _
theorem o_le : OpR X (compareOp .LtE) (r2P ζ X.K pLe) := o_ii0 op_le fun _ _ _ => .bl _
theorem o_gt : OpR X (compareOp .Gt) (r2P ζ X.K pGt) := o_ii0 op_gt fun _ _ _ => .bl _
theorem o_ge : OpR X (compareOp .GtE) (r2P ζ X.K pGe) := o_ii0 op_ge fun _ _ _ => .bl _
end

/-! ### == and in, of data at any depth -/
/-- a value as data -/
def asD (r : R) (m : M) : Option D := match r with
  | .val d => some d
  | .ref k => match m[k]? with
    | some (.lst ds) => some (.list ds)
    | _ => none
  | .tp _ => none
theorem asD_dp {K : PySem.W.Frag} {φ : Ad} {H : Hp} {m : M} {v : V} {r : R} {d : D} (S : SR ζ K φ H m) (h : RR K φ H v r) (e : asD r m = some d) : Dp K H v d := by
  cases r with
  | tp j => first | (cases hf; done) | (cases e; done) | (cases h1; done) | (cases h; done) | (cases h7; done) | (cases h2; done)
  | val c =>
    cases e
    exact rr_dp h
  | ref k =>
    obtain ⟨a, rfl, h⟩ := h
    unfold asD at e
    simp only at e
    split at e
    · rename_i ds hm
      cases e
      obtain ⟨xs, h1, h2⟩ := S.obj k _ a hm h
      exact Dp.lst (.inl (.inl h1)) (dps_mono off_same h2)
    · cases e
def pEqD (neg : Bool) (a b : R) (m : M) : Option (R × M) := (asD a m).bind fun d => (asD b m).bind fun e => if (SeqAt.shaped d && SeqAt.shaped e) = true then some (.val (.bool (if neg then !PyData.eqv d e else PyData.eqv d e)), m) else none
def pEq := pEqD false
def pNe := pEqD true
def pInD (neg : Bool) (a b : R) (m : M) : Option (R × M) := (asD a m).bind fun d => (asLT b m).bind fun es => if (SeqAt.shaped d && PyData.canLayAll0 es) = true then some (.val (.bool (if neg then !(es.any fun z => PyData.eqv z d) else es.any fun z => PyData.eqv z d)), m) else none
def pIn := pInD false
def pNin := pInD true
def isNone : R → Bool
  | .val .none => true
  | _ => false
def pIs (neg : Bool) (a b : R) (m : M) : Option (R × M) := if isNone b = true then some (.val (.bool (if neg then !isNone a else isNone a)), m) else none
def pIsN := pIs false
def pIsnt := pIs true
section
variable {X : Cx} {k : Nat}
theorem o_eq (hr : Room k X.A) : OpR X (compareOp .Eq) (r2P ζ X.K pEq) := by
  intro pins s σ H x y v u Q I rx ry q
  obtain ⟨φ, m, r1, r2, r, m', S, R1, R2, hf, k⟩ := q
  obtain ⟨d, h1, hf⟩ := bind_some_iff hf
  obtain ⟨e, h2, hf⟩ := bind_some_iff hf
  split at hf
  · rename_i hc
    cases hf
    rw [Bool.and_eq_true] at hc
    exact op_eqD hr.units pins s σ H x y v u Q I rx ry ⟨d, e, asD_dp S R1 h1, asD_dp S R2 h2, hc.1, hc.2, k φ H _ .refl S (Dp.bl _)⟩
  · cases hf
theorem o_ne (hr : Room k X.A) : OpR X (compareOp .NotEq) (r2P ζ X.K pNe) := by
  intro pins s σ H x y v u Q I rx ry q
  obtain ⟨φ, m, r1, r2, r, m', S, R1, R2, hf, k⟩ := q
  obtain ⟨d, h1, hf⟩ := bind_some_iff hf
  obtain ⟨e, h2, hf⟩ := bind_some_iff hf
  split at hf
  · rename_i hc
    cases hf
    rw [Bool.and_eq_true] at hc
    exact op_neD hr.units pins s σ H x y v u Q I rx ry ⟨d, e, asD_dp S R1 h1, asD_dp S R2 h2, hc.1, hc.2, k φ H _ .refl S (Dp.bl _)⟩
  · cases hf
theorem in_ok {K : PySem.W.Frag} {φ : Ad} {H : Hp} {m : M} {v : V} {r : R} {es : List D} (S : SR ζ K φ H m) (h : RR K φ H v r) (e : asLT r m = some es) : Dp K H v (.list es) ∨ Dp K H v (.tuple es) := by
  unfold asLT at e
  split at e
  · cases e
    exact .inr (rr_dp h)
  · obtain ⟨a, xs, rfl, h2, h3⟩ := seqL_of S h e
    exact .inl (.lst h2 (dps_mono off_same h3))
theorem in_room {d : D} {es : List D} (hr : Room k X.A) (h : SeqAt.shaped d = true) : X.A.units + 1 + min (PyData.depthAll es) d.depth < cLine := by
  have h1 := hr.un
  have h2 := SeqAt.depth_of_shaped h
  have h3 := Nat.min_le_right (PyData.depthAll es) d.depth
  omega
theorem o_in (hr : Room k X.A) : OpR X (compareOp .In) (r2P ζ X.K pIn) := by
  intro pins s σ H x y v u Q I rx ry q
  obtain ⟨φ, m, r1, r2, r, m', S, R1, R2, hf, k⟩ := q
  obtain ⟨d, h1, hf⟩ := bind_some_iff hf
  obtain ⟨es, h2, hf⟩ := bind_some_iff hf
  split at hf
  · rename_i hc
    cases hf
    rw [Bool.and_eq_true] at hc
    obtain ⟨as, q1⟩ := Dp.reads I d x v (asD_dp S R1 h1) rx
    rcases in_ok S R2 h2 with hd | hd
    · obtain ⟨bs, q2⟩ := Dp.reads I _ y u hd ry
      exact SeqAt.in_list_reads q2 q1 hc.2 (SeqAt.canLay_of_shaped hc.1) (in_room hr hc.1) ⟨.bl _, H, I, rfl, k φ H _ .refl S (Dp.bl _)⟩
    · obtain ⟨bs, q2⟩ := Dp.reads I _ y u hd ry
      exact SeqAt.in_tuple_reads q2 q1 hc.2 (SeqAt.canLay_of_shaped hc.1) (in_room hr hc.1) ⟨.bl _, H, I, rfl, k φ H _ .refl S (Dp.bl _)⟩
  · cases hf
theorem o_nin (hr : Room k X.A) : OpR X (compareOp .NotIn) (r2P ζ X.K pNin) := by
  intro pins s σ H x y v u Q I rx ry q
  obtain ⟨φ, m, r1, r2, r, m', S, R1, R2, hf, k⟩ := q
  obtain ⟨d, h1, hf⟩ := bind_some_iff hf
  obtain ⟨es, h2, hf⟩ := bind_some_iff hf
  split at hf
  · rename_i hc
    cases hf
    rw [Bool.and_eq_true] at hc
    obtain ⟨as, q1⟩ := Dp.reads I d x v (asD_dp S R1 h1) rx
    rcases in_ok S R2 h2 with hd | hd
    · obtain ⟨bs, q2⟩ := Dp.reads I _ y u hd ry
      exact SeqAt.notIn_list_reads q2 q1 hc.2 (SeqAt.canLay_of_shaped hc.1) (in_room hr hc.1) ⟨.bl _, H, I, rfl, k φ H _ .refl S (Dp.bl _)⟩
    · obtain ⟨bs, q2⟩ := Dp.reads I _ y u hd ry
      exact SeqAt.notIn_tuple_reads q2 q1 hc.2 (SeqAt.canLay_of_shaped hc.1) (in_room hr hc.1) ⟨.bl _, H, I, rfl, k φ H _ .refl S (Dp.bl _)⟩
  · cases hf
theorem isN_val {K : PySem.W.Frag} {φ : Ad} {H : Hp} {v : V} {r : R} (h : RR K φ H v r) : decide (v = .non) = isNone r := by
  cases r with
  | tp j =>
    obtain ⟨a, vs, e, _⟩ := h
    rw [e]
    rfl
  | ref i =>
    obtain ⟨a, rfl, _⟩ := h
    rfl
  | val d =>
    have h' : Dp K (off φ H) v d := h
    cases h' <;> rfl
theorem isN_non {K : PySem.W.Frag} {φ : Ad} {H : Hp} {v : V} {r : R} (h : RR K φ H v r) (e : isNone r = true) : v = .non := by
  rw [← isN_val h] at e
  exact of_decide_eq_true e
theorem o_isN : OpR X (compareOp .Is) (r2P ζ X.K pIsN) := by
  intro pins s σ H x y v u Q I rx ry q
  obtain ⟨φ, m, r1, r2, r, m', S, R1, R2, hf, k⟩ := q
  unfold pIsN pIs at hf
  split at hf
  · rename_i he
    cases hf
    exact op_isN pins s σ H x y v u Q I rx ry ⟨isN_non R2 he, by rw [isN_val R1]; exact k φ H _ .refl S (Dp.bl _)⟩
  · cases hf
theorem o_isnt : OpR X (compareOp .IsNot) (r2P ζ X.K pIsnt) := by
  intro pins s σ H x y v u Q I rx ry q
  obtain ⟨φ, m, r1, r2, r, m', S, R1, R2, hf, k⟩ := q
  unfold pIsnt pIs at hf
  split at hf
  · rename_i he
    cases hf
    exact op_notN pins s σ H x y v u Q I rx ry ⟨isN_non R2 he, by rw [isN_val R1]; exact k φ H _ .refl S (Dp.bl _)⟩
  · cases hf
end

/-! ### -x, xs[i], xs[i:j] -/
def pNeg (a : R) (m : M) : Option (R × M) := (asI a).bind fun i => some (.val (.int (-i)), m)
def pIdx (a b : R) (m : M) : Option (R × M) := (asLT a m).bind fun ds => (asI b).bind fun i => (atI ds i).bind fun d => some (.val d, m)
theorem DpAll.atI {K : PySem.W.Frag} {H : Hp} {ds : List D} {vs : List V} {i : Int} {d : D} (h : DpAll K H vs ds) (e : L2.atI ds i = some d) : ∃ v, L2.atI vs i = some v ∧ Dp K H v d := by
  unfold L2.atI at e ⊢
  rw [DpAll.len h]
  obtain ⟨j, h1, h2⟩ := bind_some_iff e
  obtain ⟨v, h3, h4⟩ := DpAll.get h h2
  exact ⟨v, by rw [h1]; exact h3, h4⟩
def cutD (xs : List D) (lo hi : Option Int) : List D := (xs.drop (HT.sIx xs.length 0 lo)).take (HT.sIx xs.length xs.length hi - HT.sIx xs.length 0 lo)
theorem DpAll.cut {K : PySem.W.Frag} {H : Hp} {ds : List D} {vs : List V} (h : DpAll K H vs ds) (lo hi : Option Int) : DpAll K H (cutV vs lo hi) (cutD ds lo hi) := by
  unfold cutV cutD
  rw [DpAll.len h]
  exact DpAll.take _ (DpAll.drop _ h)
abbrev OF := Sl → M → Option (Option Int × M)
def tO' (ζ : Tbs) (K : PySem.W.Frag) (f : OF) : TO := fun σ H Q => ∃ φ env m o m', SR ζ K φ H m ∧ ER K φ H σ env ∧ f env m = some (o, m') ∧ ∀ φ' H', Gr φ H φ' H' → SR ζ K φ' H' m' → Q o H'
def oNone : OF := fun _ m => some (none, m)
def oSome (f : EF) : OF := fun env m => (f env m).bind fun x => (asI x.1).bind fun i => some (some i, x.2)
def eSlT (f : EF) (l h : OF) : EF := fun env m => (f env m).bind fun x => (l env x.2).bind fun y => (h env y.2).bind fun z => match x.1 with
  | .val (.tuple ds) => some (.val (.tuple (cutD ds y.1 z.1)), z.2)
  | _ => none
def nSlL (f : EF) (l h : OF) : NF := fun env m => (f env m).bind fun x => (l env x.2).bind fun y => (h env y.2).bind fun z => (asL x.1 z.2).bind fun ds => some (cutD ds y.1 z.1, z.2)
section
variable {X : Cx} {a b e : Expr} {oe lo hi : Option Expr} {f g : EF} {fl fh : OF} {pos p2 : Pos}
theorem u_neg : UnR X (unaryOp .USub) (r1P ζ X.K pNeg) := by
  intro pins s σ H x v Q I rx q
  obtain ⟨φ, m, r1, r, m', S, R1, hf, k⟩ := q
  obtain ⟨i, h1, hf⟩ := bind_some_iff hf
  have e1 := asI_some h1
  subst e1
  have x1 := rr_int R1
  cases hf
  exact un_neg pins s σ H x v Q I rx ⟨i, x1, k φ H _ .refl S (Dp.int _)⟩
theorem ix_p : IxR X (r2P ζ X.K pIdx) := by
  intro value slice pins s σ H x y v u Q I rx ry q hsub
  obtain ⟨φ, m, r1, r2, r, m', S, R1, R2, hf, k⟩ := q
  obtain ⟨ds, h1, hf⟩ := bind_some_iff hf
  obtain ⟨i, h2, hf⟩ := bind_some_iff hf
  obtain ⟨d, h3, hf⟩ := bind_some_iff hf
  cases hf
  have e2 := asI_some h2
  subst e2
  have x2 := rr_int R2
  obtain ⟨p, xs, rfl, hs, hd⟩ := seqLT_of S R1 h1
  obtain ⟨z, h4, h5⟩ := DpAll.atI hd h3
  have q := k φ H z .refl S h5
  rcases hs with hs | hs
  · exact ix_list value slice pins s σ H _ y v u Q I rx ry ⟨p, xs, i, z, rfl, x2, hs, h4, q⟩ hsub
  · exact ix_tup value slice pins s σ H _ y v u Q I rx ry ⟨p, xs, i, z, rfl, x2, hs, h4, q⟩ hsub
theorem x_ix (ha : PE X a (tE ζ X.K f)) (hb : PE X b (tE ζ X.K g)) (hs : PlainIx b := by exact fun _ _ => rfl) : PE X (.Subscript a b pos) (tE ζ X.K (eBin pIdx f g)) :=
  pe_imp (pe_ix ix_p ha hb hs) fun _ _ _ q => two_imp q
theorem po_n : PO X none (tO' ζ X.K oNone) := ⟨fun pins s σ H Q I q => by
  obtain ⟨φ, env, m, o, m', S, E, hf, k⟩ := q
  cases hf
  exact po_none.run pins s σ H Q I (k φ H .refl S)⟩
theorem po_s (h : PE X e (tE ζ X.K f)) : PO X (some e) (tO' ζ X.K (oSome f)) := ⟨fun pins s σ H Q I q => by
  refine (po_some h).run pins s σ H Q I ?_
  obtain ⟨φ, env, m, o, m', S, E, hf, k⟩ := q
  obtain ⟨⟨r1, m1⟩, h1, hf⟩ := bind_some_iff hf
  obtain ⟨i, h2, hf⟩ := bind_some_iff hf
  cases hf
  have e2 := asI_some h2
  simp only at e2
  subst e2
  exact ⟨φ, env, m, _, m1, S, E, h1, fun φ1 H1 v g1 S1 R1 => ⟨i, rr_int R1, k φ1 H1 g1 S1⟩⟩⟩
theorem x_slT (ha : PE X a (tE ζ X.K f)) (hl : PO X lo (tO' ζ X.K fl)) (hh : PO X hi (tO' ζ X.K fh)) : PE X (.Subscript a (.Slice lo hi none p2) pos) (tE ζ X.K (eSlT f fl fh)) := pe_imp (pe_slice sl_tupF ha hl hh) fun σ H Q q => by
  obtain ⟨φ, env, m, r, m', S, E, hf, k⟩ := q
  obtain ⟨⟨r1, m1⟩, h1, hf⟩ := bind_some_iff hf
  obtain ⟨⟨o1, m2⟩, h2, hf⟩ := bind_some_iff hf
  obtain ⟨⟨o2, m3⟩, h3, hf⟩ := bind_some_iff hf
  cases r1 with
  | tp j => first | (cases hf; done) | (cases e; done) | (cases h1; done) | (cases h; done) | (cases h7; done) | (cases h2; done)
  | ref j => cases hf
  | val d1 => cases d1 with
  | tuple ds =>
    cases hf
    refine ⟨φ, env, m, _, m1, S, E, h1, fun φ1 H1 v g1 S1 R1 => ?_⟩
    refine ⟨φ1, env, m1, o1, m2, S1, E.mono g1, h2, fun φ2 H2 g2 S2 => ?_⟩
    refine ⟨φ2, env, m2, o2, _, S2, E.mono (g1.trans g2), h3, fun φ3 H3 g3 S3 => ?_⟩
    obtain ⟨p, xs, rfl, hs, hd⟩ := seqT_of (R1.mono (g2.trans g3))
    have hn := DpAll.len hd
    refine ⟨p, xs, rfl, hs, fun hw => ?_, fun hw q o hq ho => ?_⟩
    · have e : cutD ds o1 o2 = ds := by
        unfold cutD
        rw [← hn, hw.1, hw.2, List.drop_zero, Nat.sub_zero, hn, List.take_length]
      rw [e] at k
      exact k φ3 H3 _ (g1.trans (g2.trans g3)) S3 (R1.mono (g2.trans g3))
    · exact k φ3 _ _ (g1.trans (g2.trans (g3.trans (gr_alloc hq)))) (S3.alloc hq ho) (rr_newT S3 hq (DpAll.cut hd o1 o2))
  | _ => cases hf
theorem n_slL (ha : PE X a (tE ζ X.K f)) (hl : PO X lo (tO' ζ X.K fl)) (hh : PO X hi (tO' ζ X.K fh)) : PE X (.Subscript a (.Slice lo hi none p2) pos) (tN ζ X.K (nSlL f fl fh)) := pe_imp (pe_slice sl_list ha hl hh) fun σ H Q q => by
  obtain ⟨φ, env, m, r, m', S, E, hf, k⟩ := q
  obtain ⟨⟨r1, m1⟩, h1, hf⟩ := bind_some_iff hf
  obtain ⟨⟨o1, m2⟩, h2, hf⟩ := bind_some_iff hf
  obtain ⟨⟨o2, m3⟩, h3, hf⟩ := bind_some_iff hf
  obtain ⟨ds, h4, hf⟩ := bind_some_iff hf
  cases hf
  refine ⟨φ, env, m, _, m1, S, E, h1, fun φ1 H1 v g1 S1 R1 => ?_⟩
  refine ⟨φ1, env, m1, o1, m2, S1, E.mono g1, h2, fun φ2 H2 g2 S2 => ?_⟩
  refine ⟨φ2, env, m2, o2, _, S2, E.mono (g1.trans g2), h3, fun φ3 H3 g3 S3 => ?_⟩
  obtain ⟨p, xs, rfl, hs, hd⟩ := seqL_of S3 (R1.mono (g2.trans g3)) h4
  exact ⟨p, xs, rfl, hs, fun q hq => k φ3 H3 q _ (g1.trans (g2.trans g3)) S3 hq (DpAll.cut hd o1 o2)⟩
end
end Ev

set_option Elab.async false
set_option linter.all false
set_option maxRecDepth 100000
/-! Comprehensions. -/
namespace Ev
open PySem PySem.Spec PyProof.Rows L2

/-! ### targets: names, tuples of targets -/
mutual
inductive Pat where
  | nm (i : Nat)
  | tp (ps : Pats)
inductive Pats where
  | nil
  | cons (p : Pat) (ps : Pats)
end
def Pats.len : Pats → Nat
  | .nil => 0
  | .cons _ ps => ps.len + 1
mutual
def gPat (ζ : Tbs) (K : PySem.W.Frag) : Pat → TG
  | .nm i => gName i
  | .tp ps => gTup K ps.len (gPats ζ K ps)
def gPats (ζ : Tbs) (K : PySem.W.Frag) : Pats → TGs
  | .nil => gNil
  | .cons p ps => gCons (gPat ζ K p) (gPats ζ K ps)
end
mutual
def bindP : Pat → D → Sl → Option Sl
  | .nm i, d, env => some (env.set i (some (.val d)))
  | .tp ps, d, env => match d with
    | .tuple ds => bindPs ps ds env
    | _ => none
def bindPs : Pats → List D → Sl → Option Sl
  | .nil, ds, env => match ds with
    | [] => some env
    | _ => none
  | .cons p ps, ds, env => match ds with
    | d :: ds => (bindP p d env).bind (bindPs ps ds)
    | [] => none
end
mutual
def Pat.within (vs : List Nat) : Pat → Bool
  | .nm i => decide (i ∈ vs)
  | .tp ps => ps.within vs
def Pats.within (vs : List Nat) : Pats → Bool
  | .nil => true
  | .cons p ps => p.within vs && ps.within vs
end
def wipeE (env : Sl) : List Nat → Sl
  | [] => env
  | v :: vs => (wipeE env vs).set v none
theorem getElem?_wipe {σ : L2.St} {i : Nat} : ∀ {vs : List Nat}, i ∈ vs → ∀ x, (wipe σ vs)[i]? ≠ some (some x)
  | vs, hi, x, e => (wipe_some e).2 hi
theorem wipe_set {σ : L2.St} {i : Nat} {x : Option V} {vs : List Nat} (hi : i ∈ vs) : wipe (σ.set i x) vs = wipe σ vs := by
  induction vs with
  | nil => cases hi
  | cons v vs ih =>
    unfold wipe
    by_cases hv : i ∈ vs
    · rw [ih hv]
    · have e : i = v := (List.mem_cons.mp hi).resolve_right hv
      subst e
      have key : ∀ ws : List Nat, i ∉ ws → wipe (σ.set i x) ws = (wipe σ ws).set i x := by
        intro ws
        induction ws with
        | nil => intro _; rfl
        | cons w ws ihw =>
          intro hw
          unfold wipe
          rw [ihw (fun z => hw (List.mem_cons_of_mem _ z)), List.set_comm _ _ (fun z : i = w => hw (by rw [z]; exact List.mem_cons_self))]
      rw [key vs hv, List.set_set]
theorem er_wipe {K : PySem.W.Frag} {φ : Ad} {H : Hp} {σ : L2.St} {env : Sl} (e : ER K φ H σ env) : ∀ vs : List Nat, ER K φ H (wipe σ vs) (wipeE env vs)
  | [] => e
  | v :: vs => by
    have ih := er_wipe e vs
    unfold wipe wipeE
    refine ⟨by rw [List.length_set, List.length_set]; exact ih.len, fun i r he => ?_⟩
    by_cases hi : i = v
    · subst hi
      by_cases hl : i < (wipeE env vs).length
      · rw [List.getElem?_set_self hl] at he
        cases he
      · rw [List.getElem?_eq_none (by rw [List.length_set]; omega)] at he
        cases he
    · rw [List.getElem?_set_ne (fun z => hi z.symm)] at he ⊢
      exact ih.at_ i r he
section
variable {K : PySem.W.Frag} {φ : Ad} {H : Hp} {vs : List Nat}
mutual
theorem bindP_ok : ∀ (p : Pat) {d : D} {v : V} {σ : L2.St} {env env' : Sl}, ER K φ H σ env → Dp K (off φ H) v d → bindP p d env = some env' → p.within vs = true → ∃ σ', (∀ Q : L2.St → Hp → Prop, Q σ' H → gPat ζ K p v σ H Q) ∧ ER K φ H σ' env' ∧ wipe σ' vs = wipe σ vs
  | .nm i, d, v, σ, env, env', E, R, e, w => by
    simp only [bindP] at e
    cases e
    simp only [Pat.within, decide_eq_true_eq] at w
    exact ⟨σ.set i (some v), fun Q q => by simp only [gPat]; exact q, E.set (r := .val d) R i, wipe_set w⟩
  | .tp ps, d, v, σ, env, env', E, R, e, w => by
    simp only [bindP] at e
    split at e
    · rename_i ds
      simp only [Pat.within] at w
      cases R with
      | tup hs ha =>
        obtain ⟨σ', h1, h2, h3⟩ := bindPs_ok ps E ha e w
        refine ⟨σ', fun Q q => ?_, h2, h3⟩
        simp only [gPat]
        exact ⟨_, _, rfl, sqT_mono off_same hs, h4 ps _ _ ha e, h1 Q q⟩
    · cases e
where
  h4 : ∀ (ps : Pats) (env env' : Sl) {us : List V} {ds : List D}, DpAll K (off φ H) us ds → bindPs ps ds env = some env' → us.length = ps.len
    | .nil, _, _, _, ds, h, e => by
      simp only [bindPs] at e
      split at e
      · cases h
        rfl
      · cases e
    | .cons p ps, _, _, _, ds, h, e => by
      simp only [bindPs] at e
      split at e
      · obtain ⟨e1, h1, h2⟩ := bind_some_iff e
        cases h with
        | cons a t =>
          rw [List.length_cons, h4 ps _ _ t h2]
          rfl
      · cases e
theorem bindPs_ok : ∀ (ps : Pats) {ds : List D} {us : List V} {σ : L2.St} {env env' : Sl}, ER K φ H σ env → DpAll K (off φ H) us ds → bindPs ps ds env = some env' → ps.within vs = true → ∃ σ', (∀ Q : L2.St → Hp → Prop, Q σ' H → gPats ζ K ps us σ H Q) ∧ ER K φ H σ' env' ∧ wipe σ' vs = wipe σ vs
  | .nil, ds, us, σ, env, env', E, R, e, w => by
    simp only [bindPs] at e
    split at e
    · cases e
      cases R
      exact ⟨σ, fun Q q => by simp only [gPats]; exact ⟨rfl, q⟩, E, rfl⟩
    · cases e
  | .cons p ps, ds, us, σ, env, env', E, R, e, w => by
    simp only [bindPs] at e
    split at e
    · obtain ⟨e1, h1, h2⟩ := bind_some_iff e
      simp only [Pats.within, Bool.and_eq_true] at w
      cases R with
      | cons a t =>
        obtain ⟨σ1, q1, E1, w1⟩ := bindP_ok p E a h1 w.1
        obtain ⟨σ2, q2, E2, w2⟩ := bindPs_ok ps E1 t h2 w.2
        refine ⟨σ2, fun Q q => ?_, E2, w2.trans w1⟩
        simp only [gPats]
        exact ⟨_, _, rfl, q1 _ (q2 Q q)⟩
    · cases e
end
end
/-! ### [e for p in it if t] -/
def clp (src : Src) (p : Pat) (tt : TF) (te : EF) (env : Sl) : Nat → Nat → M → Option (List D × M)
  | 0, i, m => (src i m).bind fun o => match o with
    | none => some ([], m)
    | some _ => none
  | n + 1, i, m => (src i m).bind fun o => match o with
    | none => some ([], m)
    | some d => (bindP p d env).bind fun e => (tt e m).bind fun t => if t.1 = true then (te e t.2).bind fun y => (asD0 y.1).bind fun d' => (clp src p tt te env n (i + 1) y.2).bind fun z => some (d' :: z.1, z.2) else clp src p tt te env n (i + 1) t.2
where
  asD0 : R → Option D
    | .val d => some d
    | _ => none
def nComp (it : IF) (p : Pat) (vs : List Nat) (tt : TF) (te : EF) : NF := fun env m => (it env m).bind fun x => if x.1.2 ≤ sizeLine then clp x.1.1 p tt te (wipeE env vs) x.1.2 0 x.2 else none
/-- over a list -/
def clpL (p : Pat) (tt : TF) (te : EF) (env : Sl) : List D → M → Option (List D × M)
  | [], m => some ([], m)
  | d :: ds, m => (bindP p d env).bind fun e => (tt e m).bind fun t => if t.1 = true then (te e t.2).bind fun y => (clp.asD0 y.1).bind fun d' => (clpL p tt te env ds y.2).bind fun z => some (d' :: z.1, z.2) else clpL p tt te env ds t.2
theorem clp_srcL {p : Pat} {tt : TF} {te : EF} {env : Sl} : ∀ (ds all : List D) (i : Nat) (m : M), all.drop i = ds → clp (srcL all) p tt te env ds.length i m = clpL p tt te env ds m
  | [], all, i, m, h => by
    have e : all[i]? = none := List.getElem?_eq_none (by simpa using h)
    simp [clp, srcL, e, clpL]
  | d :: ds, all, i, m, h => by
    have e : all[i]? = some d := by
      have := congrArg (·[0]?) h
      simpa using this
    have h' : all.drop (i + 1) = ds := by
      have := congrArg (List.drop 1) h
      simpa [List.drop_drop, Nat.add_comm] using this
    have ih := fun m => clp_srcL (p := p) (tt := tt) (te := te) (env := env) ds all (i + 1) m h'
    simp only [List.length_cons, clp, srcL, e, Option.bind_some, clpL, ih]
theorem nComp_L {it : IF} {p : Pat} {vs : List Nat} {tt : TF} {te : EF} {env : Sl} {m m' : M} {ds : List D} (h : it env m = iL ds m') (hl : ds.length ≤ sizeLine) : nComp it p vs tt te env m = clpL p tt te (wipeE env vs) ds m' := by
  unfold nComp
  rw [h]
  show (if ds.length ≤ sizeLine then clp (srcL ds) p tt te (wipeE env vs) ds.length 0 m' else none) = _
  rw [if_pos hl]
  exact clp_srcL ds ds 0 m' rfl

/-- without one object -/
def drp (H : Hp) (p : Addr) : Hp := fun b => if b = p then none else H b
theorem drp_self {H : Hp} {p : Addr} : drp H p p = none := if_pos rfl
theorem drp_some {H : Hp} {p b : Addr} {u : HO} : drp H p b = some u ↔ b ≠ p ∧ H b = some u := by
  unfold drp
  by_cases h : b = p
  · rw [if_pos h]
    exact Iff.intro (fun z => nomatch z) (fun z => absurd h z.1)
  · rw [if_neg h]
    exact Iff.intro (fun z => And.intro h z) (fun z => z.2)
theorem drp_upd {H : Hp} {p : Addr} {o : HO} : drp (upd H p o) p = drp H p := by
  funext b
  unfold drp
  by_cases h : b = p
  · rw [if_pos h, if_pos h]
  · rw [if_neg h, if_neg h, upd_ne h]
theorem drp_none {H : Hp} {p : Addr} (h : H p = none) : drp H p = H := by
  funext b
  unfold drp
  by_cases e : b = p
  · rw [if_pos e, e, h]
  · rw [if_neg e]
theorem upd_drp {H : Hp} {p : Addr} {o : HO} (h : H p = some o) : upd (drp H p) p o = H := by
  funext b
  unfold upd drp
  by_cases e : b = p
  · rw [if_pos e, e, h]
  · rw [if_neg e, if_neg e]
theorem off_hide {φ : Ad} {H : Hp} {p : Addr} : off (φ.hide p) H = off φ (drp H p) := by
  funext b
  unfold off
  by_cases h : b ∈ φ.all
  · have h2 : b ∈ (φ.hide p).all := by
      rcases Ad.mem.mp h with z | z
      · exact Ad.mem.mpr (.inl z)
      · exact Ad.mem.mpr (.inr (List.mem_cons_of_mem _ z))
    rw [if_pos h, if_pos h2]
  · by_cases e : b = p
    · have h2 : b ∈ (φ.hide p).all := Ad.mem.mpr (.inr (by rw [e]; exact List.mem_cons_self))
      rw [if_pos h2, if_neg h, e, drp_self]
      rfl
    · have h2 : b ∉ (φ.hide p).all := fun z => by
        rcases Ad.mem.mp z with z | z
        · exact h (Ad.mem.mpr (.inl z))
        · rcases List.mem_cons.mp z with z | z
          · exact e z
          · exact h (Ad.mem.mpr (.inr z))
      rw [if_neg h, if_neg h2]
      unfold drp
      rw [if_neg e]
section
variable {K : PySem.W.Frag} {φ φ' : Ad} {H H' : Hp} {m m' : M} {p : Addr}
theorem nodup_hide (h : φ.all.Nodup) (np : p ∉ φ.all) : (φ.hide p).all.Nodup := by
  unfold Ad.all Ad.hide at *
  rw [List.nodup_append] at *
  obtain ⟨h1, h2, h3⟩ := h
  refine ⟨h1, ?_, fun a ha b hb => ?_⟩
  · exact List.nodup_cons.mpr ⟨fun z => np (List.mem_append_right _ z), h2⟩
  · rcases List.mem_cons.mp (show b ∈ p :: φ.h from hb) with e | e
    · subst e
      exact fun z => np (List.mem_append_left _ (z ▸ ha))
    · exact h3 a ha b e
theorem SR.hide (S : SR ζ K φ H m) {o : HO} (h : H p = none) (no : isTb o = false := by rfl) (ho : plO o := by exact trivial) : SR ζ K (φ.hide p) (upd H p o) m := by
  refine ⟨S.len, nodup_hide S.nd (S.new h), fun i ob a e1 e2 => ?_, fun a ha => ?_, S.teq, fun q hq => List.mem_cons_of_mem _ (S.tin q hq), S.tab.ext fun b u e => upd_stay h e, pl_upd S.pl ho, S.kt⟩
  · rw [off_hide, drp_upd, drp_none h]
    exact (S.obj i ob a e1 e2).mono (fun _ _ z => z) fun u z => upd_stay h z
  · rcases List.mem_cons.mp ha with e | e
    · exact .inl ⟨o, by rw [e]; exact upd_same, no⟩
    · exact (S.hid a e).imp (fun ⟨u, q, n⟩ => ⟨u, upd_stay h q, n⟩) id
theorem SR.show_ (S : SR ζ K (φ.hide p) H m) {xs : List V} (hp : H p = some (.lst xs)) : SR ζ K φ (drp H p) m := by
  have ntab : ∀ b u, H b = some u → ((∃ ps, u = .tbl ps) ∨ ∃ q, u = LamX.CodeO b q) → b ≠ p := fun b u e k z => by
    rw [z, hp] at e
    cases e
    rcases k with ⟨ps, k⟩ | ⟨q, k⟩
    · cases k
    · exact codeO_lst k
  have nd := S.nd
  have np : p ∉ φ.all := by
    unfold Ad.all Ad.hide at nd
    rw [List.nodup_append] at nd
    obtain ⟨h1, h2, h3⟩ := nd
    intro z
    rcases Ad.mem.mp z with z | z
    · exact h3 p z p List.mem_cons_self rfl
    · exact (List.nodup_cons.mp h2).1 z
  refine ⟨S.len, ?_, fun i ob a e1 e2 => ?_, fun a ha => ?_, S.teq, fun q hq => ?_, tabs_keep S.tab fun b u e k => drp_some.mpr ⟨ntab b u e k, e⟩, fun b u e => S.pl b u (drp_some.mp e).2, S.kt⟩
  · unfold Ad.all Ad.hide at nd
    rw [List.nodup_append] at nd
    unfold Ad.all
    rw [List.nodup_append]
    exact ⟨nd.1, (List.nodup_cons.mp nd.2.1).2, fun a ha b hb => nd.2.2 a ha b (List.mem_cons_of_mem _ hb)⟩
  · have q := S.obj i ob a e1 e2
    rw [off_hide] at q
    have na : a ≠ p := fun z => np (Ad.mem.mpr (.inl (z ▸ List.mem_of_getElem? e2)))
    exact q.mono (fun _ _ z => z) fun u z => drp_some.mpr ⟨na, z⟩
  · have na : a ≠ p := fun z => np (Ad.mem.mpr (.inr (z ▸ ha)))
    exact (S.hid a (List.mem_cons_of_mem _ ha)).imp (fun ⟨u, q, n⟩ => ⟨u, drp_some.mpr ⟨na, q⟩, n⟩) id
  · rcases List.mem_cons.mp (show q.1 ∈ p :: φ.h from S.tin q hq) with z | z
    · obtain ⟨ps, h1, _⟩ := S.tab q hq
      exact absurd z (ntab _ _ h1 (.inl ⟨ps, rfl⟩))
    · exact z
theorem SR.hidSet (S : SR ζ K (φ.hide p) H m) {o : HO} {xs : List V} (hp : H p = some (.lst xs)) (no : isTb o = false := by rfl) (ho : plO o := by exact trivial) : SR ζ K (φ.hide p) (upd H p o) m := by
  refine ⟨S.len, S.nd, fun i ob a e1 e2 => ?_, fun a ha => ?_, S.teq, S.tin, tabs_write S.tab hp, pl_upd S.pl ho, S.kt⟩
  · have q := S.obj i ob a e1 e2
    rw [off_hide] at q
    rw [off_hide, drp_upd]
    have na : a ≠ p := fun z => S.apart (List.mem_of_getElem? e2) (by rw [z]; exact List.mem_cons_self)
    exact q.mono (fun _ _ z => z) fun u z => by rw [upd_ne na]; exact z
  · by_cases e : a = p
    · exact .inl ⟨o, by rw [e]; exact upd_same, no⟩
    · exact (S.hid a ha).imp (fun ⟨u, q, n⟩ => ⟨u, by rw [upd_ne e]; exact q, n⟩) id
theorem Gr.unhide (g : Gr (φ.hide p) H φ' H') : ∃ φ2 : Ad, φ' = φ2.hide p ∧ Gr φ (drp H p) φ2 (drp H' p) := by
  obtain ⟨s', h', t'⟩ := φ'
  have e : h' = p :: φ.h := g.eqh
  subst e
  have et : t' = φ.t := g.eqt
  subst et
  refine ⟨⟨s', φ.h, φ.t⟩, rfl, g.pre, rfl, rfl, ?_, fun a ha u e n => ?_, fun a o u e => by rw [drp_some] at e ⊢; exact ⟨e.1, g.frz a o u e.2⟩⟩
  · have q := g.same
    rw [off_hide] at q
    rw [show (⟨s', p :: φ.h, φ.t⟩ : Ad) = (⟨s', φ.h, φ.t⟩ : Ad).hide p from rfl, off_hide] at q
    exact q
  · rw [drp_some] at e ⊢
    exact ⟨e.1, g.stay a (List.mem_cons_of_mem _ ha) u e.2 n⟩
theorem gw_hide : Gw φ (drp H p) (φ.hide p) H := ⟨List.prefix_refl _, by rw [off_hide]; exact fun _ _ z => z, fun a o u e => (drp_some.mp e).2⟩
end
theorem wipe_idem (σ : L2.St) (vs : List Nat) : wipe (wipe σ vs) vs = wipe σ vs := by
  apply List.ext_getElem?
  intro j
  by_cases hj : j ∈ vs
  · have a1 := @getElem?_wipe σ j vs hj
    have a2 := @getElem?_wipe (wipe σ vs) j vs hj
    have l1 := wipe_length σ vs
    have l2 := wipe_length (wipe σ vs) vs
    by_cases hl : j < σ.length
    · have b1 : (wipe σ vs)[j]? = some ((wipe σ vs)[j]'(by omega)) := List.getElem?_eq_getElem _
      have b2 : (wipe (wipe σ vs) vs)[j]? = some ((wipe (wipe σ vs) vs)[j]'(by omega)) := List.getElem?_eq_getElem _
      cases c1 : (wipe σ vs)[j]'(by omega) with
      | some x => rw [c1] at b1; exact absurd b1 (a1 x)
      | none =>
        cases c2 : (wipe (wipe σ vs) vs)[j]'(by omega) with
        | some x => rw [c2] at b2; exact absurd b2 (a2 x)
        | none => rw [b1, b2, c1, c2]
    · rw [List.getElem?_eq_none (by omega), List.getElem?_eq_none (by omega)]
  · rw [wipe_out hj]
theorem lc_imp {K : PySem.W.Frag} {it : IF} {p : Pat} {vs : List Nat} {tt : TF} {te : EF} {σ : L2.St} {H : Hp} {Q : VK} (hw : p.within vs = true) (q : tN ζ K (nComp it p vs tt te) σ H Q) : tLc (tI ζ K it) (gPat ζ K p) (tT ζ K tt) (tE ζ K te) vs σ H Q := by
  obtain ⟨φ, env, m, ds, m', S, E, hf, k⟩ := q
  obtain ⟨⟨⟨src, n⟩, m1⟩, h1, hf⟩ := bind_some_iff hf
  simp only at hf
  split at hf
  case isFalse => cases hf
  rename_i hn
  refine ⟨φ, env, m, src, n, m1, S, E, h1, fun φ1 H1 J g1 S1 JJ => fun P hP => ?_⟩
  have E1 := E.mono g1
  refine ⟨fun i nn H => ∃ φ2 m2 acc ads rest, Gr φ1 H1 φ2 (drp H P) ∧ SR ζ K (φ2.hide P) H m2 ∧ H P = some (.lst acc) ∧ DpAll K (off (φ2.hide P) H) acc ads ∧ ads.length ≤ i ∧ i + nn ≤ n ∧ clp src p tt te (wipeE env vs) nn i m2 = some (rest, m') ∧ ads ++ rest = ds, ⟨n, φ1, m1, [], [], ds, ?_, S1.hide hP, upd_same, .nil, Nat.zero_le _, by omega, hf, rfl⟩, ?_⟩
  · rw [drp_upd, drp_none hP]
    exact .refl
  intro i nn H2 ⟨φ2, m2, acc, ads, rest, g2, S2, hp2, hd2, hl2, hb2, hc2, ha2⟩
  have gw : Gw φ1 H1 (φ2.hide P) H2 := g2.w.trans gw_hide
  have cas : ∃ o, src i m2 = some o := by
    cases nn <;> (obtain ⟨o, ho, _⟩ := bind_some_iff hc2; exact ⟨o, ho⟩)
  obtain ⟨o, ho⟩ := cas
  cases o with
  | none =>
    have e : rest = [] ∧ m2 = m' := by
      cases nn <;> (simp only [clp, ho, Option.bind_some] at hc2; cases hc2; exact ⟨rfl, rfl⟩)
    obtain ⟨e1, e2⟩ := e
    subst e1 e2
    rw [List.append_nil] at ha2
    subst ha2
    refine .inl ⟨JJ.stop _ _ m2 i gw S2 ho, ?_⟩
    rw [off_hide] at hd2
    have := k φ2 (drp H2 P) P acc (g1.trans g2) (S2.show_ hp2) drp_self hd2
    rw [upd_drp hp2] at this
    exact this
  | some d =>
    cases nn with
    | zero => simp [clp, ho] at hc2
    | succ nn =>
      refine .inr ⟨JJ.go _ _ m2 i d gw S2 ho, fun H' => ∃ φ2 m2 acc ads rest, Gr φ1 H1 φ2 (drp H' P) ∧ SR ζ K (φ2.hide P) H' m2 ∧ H' P = some (.lst acc) ∧ DpAll K (off (φ2.hide P) H') acc ads ∧ ads.length ≤ i + 1 ∧ i + 1 + nn ≤ n ∧ clp src p tt te (wipeE env vs) nn (i + 1) m2 = some (rest, m') ∧ ads ++ rest = ds,
        fun H' z => ⟨nn, Nat.lt_succ_self nn, z⟩, fun x H3 hy => ?_⟩
      obtain ⟨g3, S3, R3⟩ := JJ.yld _ _ m2 i d x H3 gw S2 ho hy
      simp only [clp, ho, Option.bind_some] at hc2
      obtain ⟨e4, h4, hc2⟩ := bind_some_iff hc2
      obtain ⟨⟨b, m5⟩, h5, hc2⟩ := bind_some_iff hc2
      have E3 : ER K (φ2.hide P) H3 (wipe σ vs) (wipeE env vs) := (er_wipe (E1.monoW gw) vs).mono g3
      obtain ⟨σ4, q4, E4, w4⟩ := bindP_ok p E3 R3 h4 hw
      refine q4 _ ⟨w4.trans (by
        have := wipe_idem σ vs
        exact this), ?_⟩
      refine ⟨φ2.hide P, e4, m2, b, m5, S3, E4, h5, fun φ5' H5 g5 S5 => ?_⟩
      have g35 := g3.trans g5
      obtain ⟨φ5, rfl, g5'⟩ := Gr.unhide g35
      have hp5 : H5 P = some (.lst acc) := g35.stay P List.mem_cons_self _ hp2 (fun ps z => by cases z)
      have hd5 := dps_mono g35.same hd2
      cases b with
      | false =>
        refine iteF ?_
        simp only [Bool.false_eq_true, if_false] at hc2
        exact ⟨φ5, m5, acc, ads, rest, g2.trans g5', S5, hp5, hd5, by omega, by omega, hc2, ha2⟩
      | true =>
        refine iteT ?_
        simp only [if_true] at hc2
        obtain ⟨⟨y, m6⟩, h6, hc2⟩ := bind_some_iff hc2
        obtain ⟨d', h7, hc2⟩ := bind_some_iff hc2
        obtain ⟨⟨zs, m8⟩, h8, hc2⟩ := bind_some_iff hc2
        cases hc2
        have hyv : y = .val d' := by
          cases y with
          | tp j => first | (cases hf; done) | (cases e; done) | (cases h1; done) | (cases h; done) | (cases h7; done) | (cases h2; done)
          | ref j => cases h7
          | val d => cases h7; rfl
        subst hyv
        refine ⟨φ5.hide P, e4, m5, _, m6, S5, E4.mono g5, h6, fun φ6' H6 v6 g6 S6 R6 => ?_⟩
        have g36 := g35.trans g6
        obtain ⟨φ6, rfl, g6'⟩ := Gr.unhide g36
        have hp6 : H6 P = some (.lst acc) := g36.stay P List.mem_cons_self _ hp2 (fun ps z => by cases z)
        have hd6 := dps_mono g36.same hd2
        refine ⟨acc, hp6, ?_, φ6, m6, acc ++ [v6], ads ++ [d'], zs, ?_, S6.hidSet hp6, upd_same, ?_, ?_, by omega, h8, ?_⟩
        · rw [DpAll.len hd2]
          omega
        · rw [drp_upd]
          exact g2.trans g6'
        · rw [off_hide, drp_upd, ← off_hide]
          exact DpAll.append hd6 (.cons R6 .nil)
        · rw [List.length_append]
          simp
          exact hl2
        · rw [List.append_assoc]
          exact ha2
def tTrue : TF := fun _ m => some (true, m)
theorem pts_imp {X : Cx} {es : List Expr} {t t' : TT} (h : PTs X es t) (k : ∀ σ H Q, t' σ H Q → t σ H Q) : PTs X es t' := ⟨fun pins s σ H Q I q => h.run pins s σ H Q I (k σ H Q q)⟩
section
variable {X : Cx} {c : Expr} {tc : TF}
theorem ts_nil : PTs X [] (tT ζ X.K tTrue) := pts_imp pts_nil fun σ H Q q => by
  obtain ⟨φ, env, m, b, m', S, E, hf, k⟩ := q
  cases hf
  exact k φ H .refl S
theorem ts_one (h : PT X c (tT ζ X.K tc)) : PTs X [c] (tT ζ X.K tc) := pts_one h
/-- a block's context -/
abbrev Cb (X : Cx) (scope : Scope) (s : Shared) (H : Hp) (C : Addr) (cl : List (Str × Addr)) (fp : List Addr) : Cx := X.blk s H scope (compEnvC scope cl C X.env) fp
theorem n_comp {elt tg iter : Expr} {ifs : List Expr} {scope : Scope} {own : List (Str × Nat)} {pos : Pos} {it : IF} {p : Pat} {tt : TF} {te : EF} (hc : X.calm = true) (hN : X.N.Nodup) (hi : PI X tg iter (tI ζ X.K it)) (ok : BlkOk X.N X.env.scope scope own) (hw : p.within (own.map (·.2)) = true)
    (hg : ∀ s H C cl fp, PG (Cb X scope s H C cl fp) tg (gPat ζ X.K p)) (ht : ∀ s H C cl fp, PTs (Cb X scope s H C cl fp) ifs (tT ζ X.K tt)) (he : ∀ s H C cl fp, PE (Cb X scope s H C cl fp) elt (tE ζ X.K te)) (hs : ∀ x, foldedSetIterable iter X.env x = pure x := by intro _; rfl) :
    PE X (.ListComp elt [⟨tg, iter, ifs, 0⟩] scope pos) (tN ζ X.K (nComp it p (own.map (·.2)) tt te)) := pe_imp (pe_lc hc hN hi ok hg ht he hs) fun _ _ _ q => lc_imp hw q
/-- name = [..] -/
def sNewC (i : Nat) (f : EF) : SF := sAsg f (gNm i)
theorem s_setC {i : Nat} {y : Str} {py : Pos} {elt tg iter : Expr} {ifs : List Expr} {scope : Scope} {own : List (Str × Nat)} {pos spos : Pos} {it : IF} {p : Pat} {tt : TF} {te : EF} (hc : X.calm = true) (hN : X.N.Nodup) (hy : X.N[i]? = some y) (hyl : X.env.scope.names.lookup y = some .local)
    (hsw : swapsWith (.ListComp elt [⟨tg, iter, ifs, 0⟩] scope pos) (some (.Name y py)) spos.line X.env = pure true) (hi : PI X tg iter (tI ζ X.K it)) (ok : BlkOk X.N X.env.scope scope own) (hw : p.within (own.map (·.2)) = true)
    (hg : ∀ s H C cl fp, PG (Cb X scope s H C cl fp) tg (gPat ζ X.K p)) (ht : ∀ s H C cl fp, PTs (Cb X scope s H C cl fp) ifs (tT ζ X.K tt)) (he : ∀ s H C cl fp, PE (Cb X scope s H C cl fp) elt (tE ζ X.K te)) (hs : ∀ x, foldedSetIterable iter X.env x = pure x := by intro _; rfl) :
    PS X (.Assign [.Name y py] (.ListComp elt [⟨tg, iter, ifs, 0⟩] scope pos) spos) (tS ζ X.K (sAsg (eL (nComp it p (own.map (·.2)) tt te)) (gNm i))) := ps_imp (ps_setLc hc hN hy hyl hsw hi ok hg ht he hs) fun W σ H q => by
  obtain ⟨φ, env, m, fl, S, E, hf, k⟩ := q
  obtain ⟨⟨r1, m1⟩, h1, hf⟩ := bind_some_iff hf
  obtain ⟨⟨ds, m2⟩, h2, h1⟩ := bind_some_iff h1
  cases h1
  cases hf
  refine lc_imp hw ⟨φ, env, m, ds, m2, S, E, h2, fun φ1 H1 p vs g1 S1 hp hd => ?_⟩
  have g2 := g1.trans (gr_alloc (o := .lst vs) hp)
  exact k φ1 _ _ g2 (S1.alloc hp) ((E.mono g2).set (rr_newL S1 hp hd) i)
theorem s_setCN {i : Nat} {y : Str} {py : Pos} {elt tg iter : Expr} {ifs : List Expr} {scope : Scope} {own : List (Str × Nat)} {pos spos : Pos} {it : IF} {p : Pat} {tt : TF} {te : EF} (hc : X.calm = true) (hN : X.N.Nodup) (hy : X.N[i]? = some y) (hyl : X.env.scope.names.lookup y = some .local)
    (hsw : swapsWith (.ListComp elt [⟨tg, iter, ifs, 0⟩] scope pos) (some (.Name y py)) spos.line X.env = pure true) (hi : PI X tg iter (tI ζ X.K it)) (ok : BlkOk X.N X.env.scope scope own) (hw : p.within (own.map (·.2)) = true)
    (hg : ∀ s H C cl fp, PG (Cb X scope s H C cl fp) tg (gPat ζ X.K p)) (ht : ∀ s H C cl fp, PTs (Cb X scope s H C cl fp) ifs (tT ζ X.K tt)) (he : ∀ s H C cl fp, PE (Cb X scope s H C cl fp) elt (tE ζ X.K te)) (hs : ∀ x, foldedSetIterable iter X.env x = pure x := by intro _; rfl) :
    PS X (.Assign [.Name y py] (.ListComp elt [⟨tg, iter, ifs, 0⟩] scope pos) spos) (tS ζ X.K (sAsg (eNew (nComp it p (own.map (·.2)) tt te)) (gNm i))) := ps_imp (ps_setLc hc hN hy hyl hsw hi ok hg ht he hs) fun W σ H q => by
  obtain ⟨φ, env, m, fl, S, E, hf, k⟩ := q
  obtain ⟨⟨r1, m1⟩, h1, hf⟩ := bind_some_iff hf
  obtain ⟨⟨ds, m2⟩, h2, h1⟩ := bind_some_iff h1
  cases h1
  cases hf
  refine lc_imp hw ⟨φ, env, m, ds, m2, S, E, h2, fun φ1 H1 p vs g1 S1 hp hd => ?_⟩
  have g2 := g1.trans (gr_enter (o := .lst vs) hp)
  have R : RR X.K (φ1.add p) (upd H1 p (.lst vs)) (.ref p) (.ref m2.length) := by
    refine ⟨p, rfl, ?_⟩
    show (φ1.s ++ [p])[m2.length]? = some p
    rw [← S1.len, List.getElem?_append_right (Nat.le_refl _), Nat.sub_self]
    rfl
  exact k _ _ _ g2 (S1.enter hp hd) ((E.mono g2).set R i)
end
/-- loops over patterns -/
def gP (p : Pat) : GF := fun r env m => match r with
  | .val d => (bindP p d env).bind fun e => some (e, m)
  | _ => none
theorem gp_ok {X : Cx} {tg : Expr} {p : Pat} (h : PG X tg (gPat ζ X.K p)) (hw : ∃ vs, p.within vs = true) : PG X tg (tG ζ X.K (gP p)) := tg_imp h fun v σ H Q q => by
  obtain ⟨φ, env, m, r, e', m', S, E, Rv, hf, k⟩ := q
  obtain ⟨vs, hw⟩ := hw
  cases r with
  | tp j => first | (cases hf; done) | (cases e; done) | (cases h1; done) | (cases h; done) | (cases h7; done) | (cases h2; done)
  | ref j => cases hf
  | val d =>
    obtain ⟨e1, h1, hf⟩ := bind_some_iff hf
    cases hf
    obtain ⟨σ', q1, E1, _⟩ := bindP_ok p E Rv h1 hw
    exact q1 Q (k φ σ' H .refl S E1)
end Ev

set_option Elab.async false
set_option linter.all false
set_option maxRecDepth 100000
/-! Built-in functions and methods. -/
namespace Ev
open PySem PySem.Spec PyProof.Rows L2

abbrev PF := List R → M → Option (R × M)
def p1 (p : R → M → Option (R × M)) : PF := fun rs m => match rs with
  | [a] => p a m
  | _ => none
def p2 (p : R → R → M → Option (R × M)) : PF := fun rs m => match rs with
  | [a, b] => p a b m
  | _ => none
def pOrs (p q : PF) : PF := fun rs m => match p rs m with
  | some x => some x
  | none => q rs m
section
variable {X : Cx} {f : Value} {k : Nat}
theorem c_or {p q : PF} (h1 : CallR X f (rsP ζ X.K p)) (h2 : CallR X f (rsP ζ X.K q)) : CallR X f (rsP ζ X.K (pOrs p q)) := by
  intro pins s σ H xs us Q I rx z
  obtain ⟨φ, m, rs, r, m', S, RS, hf, kk⟩ := z
  unfold pOrs at hf
  split at hf
  · rename_i e
    cases hf
    exact h1 pins s σ H xs us Q I rx ⟨φ, m, rs, r, m', S, RS, e, kk⟩
  · exact h2 pins s σ H xs us Q I rx ⟨φ, m, rs, r, m', S, RS, hf, kk⟩
/-- a rule of one value -/
theorem c_one {p : R → M → Option (R × M)} (h : ∀ (pins : List (Addr × Obj)) (s : Shared) (σ : L2.St) (H : Hp) (v : V) (us : List Value) (Q : VK) (φ : Ad) (m : M) (a r : R) (m' : M), Inv X pins σ H s → Vals [v] us → SR ζ X.K φ H m → RR X.K φ H v a → p a m = some (r, m') →
    ValK ζ X.K φ H r m' Q → wpAny (model X.prog X.w) X.A (call f us) (EP X pins σ Q) X.xe s) : CallR X f (rsP ζ X.K (p1 p)) := by
  intro pins s σ H xs us Q I rx z
  obtain ⟨φ, m, rs, r, m', S, RS, hf, kk⟩ := z
  unfold p1 at hf
  split at hf
  · cases RS with
    | cons a t =>
      cases t
      exact h pins s σ H _ us Q φ m _ r m' I rx S a hf kk
  · cases hf
theorem c_two {p : R → R → M → Option (R × M)} (h : ∀ (pins : List (Addr × Obj)) (s : Shared) (σ : L2.St) (H : Hp) (v v2 : V) (us : List Value) (Q : VK) (φ : Ad) (m : M) (a b r : R) (m' : M), Inv X pins σ H s → Vals [v, v2] us → SR ζ X.K φ H m → RR X.K φ H v a → RR X.K φ H v2 b → p a b m = some (r, m') →
    ValK ζ X.K φ H r m' Q → wpAny (model X.prog X.w) X.A (call f us) (EP X pins σ Q) X.xe s) : CallR X f (rsP ζ X.K (p2 p)) := by
  intro pins s σ H xs us Q I rx z
  obtain ⟨φ, m, rs, r, m', S, RS, hf, kk⟩ := z
  unfold p2 at hf
  split at hf
  · cases RS with
    | cons a t =>
      cases t with
      | cons a2 t2 =>
        cases t2
        exact h pins s σ H _ _ us Q φ m _ _ r m' I rx S a a2 hf kk
  · cases hf
end

/-! ### len, abs, min and max of two -/
def pLen := p1 fun r m => (asLT r m).bind fun ds => some (.val (.int ds.length), m)
def pAbs := p1 fun r m => (asI r).bind fun i => some (.val (.int (if i < 0 then -i else i)), m)
def pMin2 := p2 fun a b m => (asI a).bind fun i => (asI b).bind fun j => some (.val (.int (if j < i then j else i)), m)
def pMax2 := p2 fun a b m => (asI a).bind fun i => (asI b).bind fun j => some (.val (.int (if j > i then j else i)), m)
def pInt := p1 fun r m => match r with
  | .val (.int i) => some (.val (.int i), m)
  | .val (.bool b) => some (.val (.int (if b then 1 else 0)), m)
  | _ => none
/-- all of them ints -/
def asIs : List D → Option (List Int)
  | [] => some []
  | .int i :: ds => (asIs ds).bind fun is => some (i :: is)
  | _ => none
def asBs : List D → Option (List Bool)
  | [] => some []
  | .bool i :: ds => (asBs ds).bind fun is => some (i :: is)
  | _ => none
theorem asIs_eq : ∀ {ds : List D} {ns : List Int}, asIs ds = some ns → ds = ns.map .int
  | [], _, e => by cases e; rfl
  | d :: ds, ns, e => by
    cases d with
    | int i =>
      obtain ⟨is, h1, h2⟩ := bind_some_iff e
      cases h2
      rw [asIs_eq h1]
      rfl
    | _ => cases e
theorem asBs_eq : ∀ {ds : List D} {ns : List Bool}, asBs ds = some ns → ds = ns.map .bool
  | [], _, e => by cases e; rfl
  | d :: ds, ns, e => by
    cases d with
    | bool i =>
      obtain ⟨is, h1, h2⟩ := bind_some_iff e
      cases h2
      rw [asBs_eq h1]
      rfl
    | _ => cases e
theorem asIs_ints : ∀ ns : List Int, asIs (ns.map .int) = some ns
  | [] => rfl
  | n :: ns => by
    show (asIs (ns.map .int)).bind _ = _
    rw [asIs_ints ns]
    rfl
theorem asBs_bools : ∀ ns : List Bool, asBs (ns.map .bool) = some ns
  | [] => rfl
  | n :: ns => by
    show (asBs (ns.map .bool)).bind _ = _
    rw [asBs_bools ns]
    rfl
theorem bools_of_dpAll {K : PySem.W.Frag} {H : Hp} : ∀ {ns : List Bool} {vs : List V}, DpAll K H vs (ns.map PyData.bool) → vs = ns.map V.bl
  | [], _, h => by cases h; rfl
  | n :: r, _, h => by
    cases h with
    | cons a t =>
      cases a
      rw [bools_of_dpAll t]
      rfl
def pSum := p1 fun r m => (asLT r m).bind fun ds => (asIs ds).bind fun ns => some (.val (.int ns.sum), m)
def pAll := p1 fun r m => (asL r m).bind fun ds => (asBs ds).bind fun ns => some (.val (.bool (ns.all id)), m)
def pAny := p1 fun r m => (asL r m).bind fun ds => (asBs ds).bind fun ns => some (.val (.bool (ns.any id)), m)
def pTupleOf := p1 fun r m => match r with
  | .val (.tuple ds) => some (.val (.tuple ds), m)
  | r => (asL r m).bind fun ds => some (.val (.tuple ds), m)
/-- they can be compared with one another -/
def alikeB (ds : List D) : Bool := (ds.all fun x => ds.all fun y => PySem.W.alike x y) && ds.all fun x => match x with
  | .none => false
  | _ => true
theorem alikeB_ok {ds : List D} (h : alikeB ds = true) : PySem.W.AlikeAll ds := by
  unfold alikeB at h
  rw [Bool.and_eq_true, List.all_eq_true, List.all_eq_true] at h
  refine ⟨fun x hx y hy => List.all_eq_true.mp (h.1 x hx) y hy, fun x hx e => ?_⟩
  have := h.2 x hx
  rw [e] at this
  cases this
def smallAll (ds : List D) : Bool := decide (PyData.depthAll ds ≤ 60)
def pMinL := p1 fun r m => (asLT r m).bind fun ds => match ds with
  | [] => none
  | d :: ds => if (alikeB (d :: ds) && smallAll (d :: ds)) = true then some (.val (PySem.W.minD d ds), m) else none
def pMaxL := p1 fun r m => (asLT r m).bind fun ds => match ds with
  | [] => none
  | d :: ds => if (alikeB (d :: ds) && smallAll (d :: ds)) = true then some (.val (PySem.W.maxD d ds), m) else none
def pMin := pOrs pMin2 pMinL
def pMax := pOrs pMax2 pMaxL
def pRepr := p1 fun r m => (asD r m).bind fun d => if (d.showable && !d.hasDict && decide (d.depth ≤ 60) && decide (d.shown.length ≤ sizeLine)) = true then some (.val (.str d.shown), m) else none
section
variable {X : Cx} {k : Nat}
theorem one_val {v : V} {us : List Value} (h : Vals [v] us) : ∃ u, us = [u] ∧ RelV v u := Vals.one h
theorem c_len : CallR X (.builtin "len") (rsP ζ X.K pLen) := c_one fun pins s σ H v us Q φ m a r m' I rx S ra hf kk => by
  obtain ⟨ds, h1, hf⟩ := bind_some_iff hf
  cases hf
  obtain ⟨p, xs, rfl, hs, hd⟩ := seqLT_of S ra h1
  exact call_len_seq pins s σ H _ us Q I rx ⟨p, xs, rfl, hs, by rw [DpAll.len hd]; exact kk φ H _ .refl S (Dp.int _)⟩
theorem c_abs : CallR X (.builtin "abs") (rsP ζ X.K pAbs) := c_one fun pins s σ H v us Q φ m a r m' I rx S ra hf kk => by
  obtain ⟨i, h1, hf⟩ := bind_some_iff hf
  cases hf
  have e := asI_some h1
  subst e
  have e := rr_int ra
  subst e
  exact call_abs pins s σ H _ us Q I rx ⟨i, rfl, kk φ H _ .refl S (Dp.int _)⟩
theorem c_min2 (hc : X.calm = true) : CallR X (.builtin "min") (rsP ζ X.K pMin2) := c_two fun pins s σ H v v2 us Q φ m a b r m' I rx S ra rb hf kk => by
  obtain ⟨i, h1, hf⟩ := bind_some_iff hf
  obtain ⟨j, h2, hf⟩ := bind_some_iff hf
  cases hf
  have e := asI_some h1
  subst e
  have e := asI_some h2
  subst e
  have e := rr_int ra
  subst e
  have e := rr_int rb
  subst e
  exact call_min2 hc pins s σ H _ us Q I rx ⟨i, j, rfl, kk φ H _ .refl S (Dp.int _)⟩
theorem c_max2 (hc : X.calm = true) : CallR X (.builtin "max") (rsP ζ X.K pMax2) := c_two fun pins s σ H v v2 us Q φ m a b r m' I rx S ra rb hf kk => by
  obtain ⟨i, h1, hf⟩ := bind_some_iff hf
  obtain ⟨j, h2, hf⟩ := bind_some_iff hf
  cases hf
  have e := asI_some h1
  subst e
  have e := asI_some h2
  subst e
  have e := rr_int ra
  subst e
  have e := rr_int rb
  subst e
  exact call_max2 hc pins s σ H _ us Q I rx ⟨i, j, rfl, kk φ H _ .refl S (Dp.int _)⟩
theorem c_int : CallR X (.type "int") (rsP ζ X.K pInt) := c_one fun pins s σ H v us Q φ m a r m' I rx S ra hf kk => by
  split at hf
  · cases hf
    have e := rr_int ra
    subst e
    exact call_int1 pins s σ H _ us Q I rx (.inl ⟨_, rfl, kk φ H _ .refl S (Dp.int _)⟩)
  · cases hf
    have e := rr_bool ra
    subst e
    exact call_int1 pins s σ H _ us Q I rx (.inr ⟨_, rfl, kk φ H _ .refl S (Dp.int _)⟩)
  · cases hf
theorem c_sum (hc : X.calm = true) : CallR X (.builtin "sum") (rsP ζ X.K pSum) := c_one fun pins s σ H v us Q φ m a r m' I rx S ra hf kk => by
  obtain ⟨ds, h1, hf⟩ := bind_some_iff hf
  obtain ⟨ns, h2, hf⟩ := bind_some_iff hf
  cases hf
  have e := asIs_eq h2
  subst e
  obtain ⟨p, xs, rfl, hs, hd⟩ := seqLT_of S ra h1
  have e := ints_of_dpAll hd
  subst e
  have fin := kk φ H (.int ns.sum) .refl S (Dp.int _)
  rcases hs with hs | hs
  · exact cr_sum hc pins s σ H _ us Q I rx ⟨p, ns, rfl, hs, fin⟩
  · obtain ⟨its, rv, pl, hz⟩ := I.tuple hs
    obtain ⟨u, rfl, ru⟩ := one_val rx
    cases ru
    obtain ⟨xs, e⟩ := (rv.ints).allInts.items
    have hn : numsOf (intItems xs).toList = ns := by rw [← e]; exact (rv.ints).numsOf
    rw [nums_intItems] at hn
    rw [e] at pl
    have hlt : p < s.heap.objs.size := pl.lt
    refine PySem.call_sum_walkG (PySem.wpAny_pyIter_tuple pl ?_)
    refine ⟨_, _, _, _, _, _, numAt xs, rfl, Walks.tuple (A := X.A.in1) (I.ok.hd hc) _ p (Nat.ne_of_lt hlt) (intItems xs), ⟨⟨_, Heap.get?_push_size _ rfl, rfl, rfl⟩, Heap.IsTuple.push pl _⟩, fun b hb => ?_, (fun _ _ => intItems_at), fun h' tk t' hk => ?_⟩
    · show b < (s.heap.push _).objs.size
      rw [Heap.size_push]
      rcases List.mem_cons.mp hb with rfl | hb
      · exact Nat.lt_succ_self _
      · rcases List.mem_cons.mp hb with rfl | hb
        · exact Nat.lt_succ_of_lt hlt
        · cases hb
    · have hsz : (intItems xs).size = xs.size := by simp [intItems]
      rw [hsz, preSum_eq, List.take_of_length_le (by simp), hn]
      refine ⟨.int ns.sum, H, I.kept (t' := tk) fun b o e => hk b o (fun z => ?_) (Heap.get?_push_of_some _ e), ⟨_, rfl⟩, fin⟩
      exact absurd (Heap.lt_size e) ((List.mem_singleton.mp z) ▸ Nat.lt_irrefl _)
theorem c_all (hc : X.calm = true) : CallR X (.builtin "all") (rsP ζ X.K pAll) := c_one fun pins s σ H v us Q φ m a r m' I rx S ra hf kk => by
  obtain ⟨ds, h1, hf⟩ := bind_some_iff hf
  obtain ⟨ns, h2, hf⟩ := bind_some_iff hf
  cases hf
  have e := asBs_eq h2
  subst e
  obtain ⟨p, xs, rfl, hs, hd⟩ := seqL_of S ra h1
  have e := bools_of_dpAll hd
  subst e
  exact cr_all hc pins s σ H _ us Q I rx ⟨p, ns, rfl, hs, kk φ H _ .refl S (Dp.bl _)⟩
theorem c_any (hc : X.calm = true) : CallR X (.builtin "any") (rsP ζ X.K pAny) := c_one fun pins s σ H v us Q φ m a r m' I rx S ra hf kk => by
  obtain ⟨ds, h1, hf⟩ := bind_some_iff hf
  obtain ⟨ns, h2, hf⟩ := bind_some_iff hf
  cases hf
  have e := asBs_eq h2
  subst e
  obtain ⟨p, xs, rfl, hs, hd⟩ := seqL_of S ra h1
  have e := bools_of_dpAll hd
  subst e
  exact cr_any hc pins s σ H _ us Q I rx ⟨p, ns, rfl, hs, kk φ H _ .refl S (Dp.bl _)⟩
theorem c_tuple : CallR X (.type "tuple") (rsP ζ X.K pTupleOf) := c_one fun pins s σ H v us Q φ m a r m' I rx S ra hf kk => by
  have lst : ∀ ds, asL a m = some ds → ValK ζ X.K φ H (.val (.tuple ds)) m Q → wpAny (model X.prog X.w) X.A (call (.type "tuple") us) (EP X pins σ Q) X.xe s := fun ds h1 kk => by
    obtain ⟨p, xs, rfl, hs, hd⟩ := seqL_of S ra h1
    exact call_tupF pins s σ H _ us Q I rx ⟨p, xs, rfl, .inl ⟨hs, fun q o hq ho => kk φ _ _ (gr_alloc hq) (S.alloc hq ho) (rr_newT S hq hd)⟩⟩
  split at hf
  · cases hf
    obtain ⟨p, xs, rfl, hs, hd⟩ := seqT_of ra
    exact call_tupF pins s σ H _ us Q I rx ⟨p, xs, rfl, .inr ⟨hs, kk φ H _ .refl S ra⟩⟩
  · obtain ⟨ds, h1, hf⟩ := bind_some_iff hf
    cases hf
    exact lst ds h1 kk
theorem val_at {φ : Ad} {H : Hp} {pins : List (Addr × Obj)} {s : Shared} {σ : L2.St} {ds : List D} {xs : List V} {its : List Value} {i : Nat} {u : Value} {d : D} {h' : Heap} {bs : List Addr} (I : Inv X pins σ H s) (hd : DpAll X.K (off φ H) xs ds) (rv : Vals xs its)
    (hu : its[i]? = some u) (k : ∀ b o, s.heap.get? b = some o → h'.get? b = some o) (r : Reads h' u d bs) : ∃ v, RelV v u ∧ Dp X.K (off φ H) v d := by
  have hi : i < xs.length := by
    rw [rv.length]
    exact (List.getElem?_eq_some_iff.mp hu).1
  obtain ⟨d0, h1, h2⟩ := DpAll.get' hd (List.getElem?_eq_getElem hi)
  obtain ⟨u', h3, h4⟩ := rv.get (List.getElem?_eq_getElem hi)
  rw [hu] at h3
  cases h3
  obtain ⟨as, q⟩ := Dp.reads I d0 _ u (dp_mono off_same h2) h4
  have q' := Reads.keeps k q
  have e := (Reads.unique q' d bs r).1
  rw [e] at h2
  exact ⟨_, h4, h2⟩
theorem c_minL (hc : X.calm = true) (hr : Room k X.A) : CallR X (.builtin "min") (rsP ζ X.K pMinL) := c_one fun pins s σ H v us Q φ m a r m' I rx S ra hf kk => by
  obtain ⟨ds, h1, hf⟩ := bind_some_iff hf
  cases ds with
  | nil => cases hf
  | cons d ds =>
    simp only at hf
    split at hf
    · rename_i hcond
      cases hf
      rw [Bool.and_eq_true] at hcond
      have hal := alikeB_ok hcond.1
      have hsm : PyData.depthAll (d :: ds) ≤ 60 := of_decide_eq_true hcond.2
      have hun := hr.un
      have hu : X.A.units + 1 + PyData.depthAll (d :: ds) < cLine := by omega
      obtain ⟨p, xs, rfl, hs, hd⟩ := seqLT_of S ra h1
      obtain ⟨u, rfl, ru⟩ := one_val rx
      cases ru
      have hd' := dps_mono off_same hd
      have fin : ∀ (its : List Value), Vals xs its → ∀ (i : Nat) v h' tk bs, its[i]? = some v → Reads h' v (PySem.W.minD d ds) bs → (∀ b o, s.heap.get? b = some o → h'.get? b = some o) → EP X pins σ Q v { s with heap := h', toks := tk } := by
        intro its rv i u h' tk bs e r k
        obtain ⟨v, h4, h2⟩ := val_at I hd rv e k r
        exact ⟨v, H, I.kept (t' := tk) k, h4, kk φ H v .refl S h2⟩
      rcases hs with hs | hs
      · obtain ⟨its, rv, pl, hz⟩ := I.list hs
        obtain ⟨as, hR⟩ := Dp.readsAll I (d :: ds) xs its hd' rv
        exact PySem.W.min_list_data (I.ok.hd hc) pl.isList (by simpa using hR) hal hu fun i v h' tk bs e => fin its rv i v h' tk bs (by simpa using e)
      · obtain ⟨its, rv, pl, hz⟩ := I.tuple hs
        obtain ⟨as, hR⟩ := Dp.readsAll I (d :: ds) xs its hd' rv
        exact PySem.W.min_tuple_data (I.ok.hd hc) pl (by simpa using hR) hal hu fun i v h' tk bs e => fin its rv i v h' tk bs (by simpa using e)
    · cases hf
theorem c_maxL (hc : X.calm = true) (hr : Room k X.A) : CallR X (.builtin "max") (rsP ζ X.K pMaxL) := c_one fun pins s σ H v us Q φ m a r m' I rx S ra hf kk => by
  obtain ⟨ds, h1, hf⟩ := bind_some_iff hf
  cases ds with
  | nil => cases hf
  | cons d ds =>
    simp only at hf
    split at hf
    · rename_i hcond
      cases hf
      rw [Bool.and_eq_true] at hcond
      have hal := alikeB_ok hcond.1
      have hsm : PyData.depthAll (d :: ds) ≤ 60 := of_decide_eq_true hcond.2
      have hun := hr.un
      have hu : X.A.units + 1 + PyData.depthAll (d :: ds) < cLine := by omega
      obtain ⟨p, xs, rfl, hs, hd⟩ := seqLT_of S ra h1
      obtain ⟨u, rfl, ru⟩ := one_val rx
      cases ru
      have hd' := dps_mono off_same hd
      have fin : ∀ (its : List Value), Vals xs its → ∀ (i : Nat) v h' tk bs, its[i]? = some v → Reads h' v (PySem.W.maxD d ds) bs → (∀ b o, s.heap.get? b = some o → h'.get? b = some o) → EP X pins σ Q v { s with heap := h', toks := tk } := by
        intro its rv i u h' tk bs e r k
        obtain ⟨v, h4, h2⟩ := val_at I hd rv e k r
        exact ⟨v, H, I.kept (t' := tk) k, h4, kk φ H v .refl S h2⟩
      rcases hs with hs | hs
      · obtain ⟨its, rv, pl, hz⟩ := I.list hs
        obtain ⟨as, hR⟩ := Dp.readsAll I (d :: ds) xs its hd' rv
        exact PySem.W.max_list_data (I.ok.hd hc) pl.isList (by simpa using hR) hal hu fun i v h' tk bs e => fin its rv i v h' tk bs (by simpa using e)
      · obtain ⟨its, rv, pl, hz⟩ := I.tuple hs
        obtain ⟨as, hR⟩ := Dp.readsAll I (d :: ds) xs its hd' rv
        exact PySem.W.max_tuple_data (I.ok.hd hc) pl (by simpa using hR) hal hu fun i v h' tk bs e => fin its rv i v h' tk bs (by simpa using e)
    · cases hf
theorem c_min (hc : X.calm = true) (hr : Room k X.A) : CallR X (.builtin "min") (rsP ζ X.K pMin) := c_or (c_min2 hc) (c_minL hc hr)
theorem c_max (hc : X.calm = true) (hr : Room k X.A) : CallR X (.builtin "max") (rsP ζ X.K pMax) := c_or (c_max2 hc) (c_maxL hc hr)
theorem c_repr (hg : X.A.guards = some []) (hr : Room k X.A) : CallR X (.builtin "repr") (rsP ζ X.K pRepr) := c_one fun pins s σ H v us Q φ m a r m' I rx S ra hf kk => by
  obtain ⟨d, h1, hf⟩ := bind_some_iff hf
  split at hf
  · rename_i hc
    cases hf
    simp only [Bool.and_eq_true, decide_eq_true_eq, Bool.not_eq_true'] at hc
    obtain ⟨⟨⟨c1, c2⟩, c3⟩, c4⟩ := hc
    have hd := asD_dp S ra h1
    obtain ⟨u, rfl, ru⟩ := one_val rx
    obtain ⟨as, q⟩ := Dp.reads I d v u hd ru
    have hun := hr.un
    have fin := kk φ H (.str d.shown) .refl S (Dp.str _)
    have cont : ∀ b, u = .ref b → wpAny (model X.prog X.w) X.A (call (.builtin "repr") [u]) (EP X pins σ Q) X.xe s := fun b e => by
      subst e
      refine PySem.repr_of_reads' (hsz := c4) q c1 (fun z => by rw [c2] at z; cases z) hg (by omega) (fun _ _ z => z) fun h' u tk kp => ?_
      exact ⟨.str d.shown, H, I.kept (t' := tk) kp, ⟨_, rfl⟩, fin⟩
    cases hd with
    | non =>
      cases ru
      exact PySem.P.repr_of_none ⟨.str _, H, I.tok _, ⟨_, rfl⟩, fin⟩
    | bl b =>
      cases ru
      exact PySem.P.repr_of_bool ⟨.str _, H, I.tok _, ⟨_, rfl⟩, fin⟩
    | int i =>
      obtain ⟨t, rfl⟩ := ru
      exact PySem.P.repr_of_int (of_decide_eq_true c1) ⟨.str _, H, I.tok _, ⟨_, rfl⟩, fin⟩
    | str z =>
      obtain ⟨t, rfl⟩ := ru
      exact PySem.P.repr_of_str (hsz := c4) ⟨.str _, H, I.tok _, ⟨_, rfl⟩, fin⟩
    | lst hs ha =>
      cases ru
      exact cont _ rfl
    | tup hs ha =>
      cases ru
      exact cont _ rfl
  · cases hf
end

/-! ### isinstance -/
inductive Ty where
  | int | bool | str | tuple | list
def Ty.nm : Ty → String
  | .int => "int"
  | .bool => "bool"
  | .str => "str"
  | .tuple => "tuple"
  | .list => "list"
def isA (t : Ty) : R → Bool
  | .val (.int _) => match t with
    | .int => true
    | _ => false
  | .val (.bool _) => match t with
    | .int => true
    | .bool => true
    | _ => false
  | .val (.str _) => match t with
    | .str => true
    | _ => false
  | .val (.tuple _) => match t with
    | .tuple => true
    | _ => false
  | .val (.list _) => match t with
    | .list => true
    | _ => false
  | .ref _ => match t with
    | .list => true
    | _ => false
  | _ => false
def eIsA (t : Ty) (f : EF) : EF := fun env m => (f env m).bind fun x => match x.1 with
  | .ref k => (x.2[k]?).bind fun o => match o with
    | .lst _ => some (.val (.bool (isA t (.ref k))), x.2)
    | .dct _ _ _ => none
  | .val d => some (.val (.bool (isA t (.val d))), x.2)
  | .tp _ => none
section
variable {X : Cx} {e : Expr} {f : EF} {p0 p1 pos : Pos} {x y : Str}
theorem kb_list (t : Ty) : kitB "list" t.nm = some (isA t (.val (.list []))) := by cases t <;> decide +kernel
theorem kb_none (t : Ty) : kitB "NoneType" t.nm = some (isA t (.val .none)) := by cases t <;> decide +kernel
theorem kb_bool (t : Ty) : kitB "bool" t.nm = some (isA t (.val (.bool true))) := by cases t <;> decide +kernel
theorem kb_int (t : Ty) : kitB "int" t.nm = some (isA t (.val (.int 0))) := by cases t <;> decide +kernel
theorem kb_str (t : Ty) : kitB "str" t.nm = some (isA t (.val (.str (Str.ofString "")))) := by cases t <;> decide +kernel
theorem kb_tuple (t : Ty) : kitB "tuple" t.nm = some (isA t (.val (.tuple []))) := by cases t <;> decide +kernel
theorem tyx_T {K : PySem.W.Frag} {H : Hp} {a : Addr} {xs : List V} (h : SqT K H a xs) : TyX K H (.ref a) (.type "tuple") := by
  rcases h with (h | ⟨o, h⟩) | ⟨o, its, n, h1, h2, _⟩
  · exact .base (.tup h)
  · exact .fTuple h
  · exact .kTuple h1 h2
theorem tyx_L {K : PySem.W.Frag} {H : Hp} {a : Addr} {xs : List V} (h : SqL K H a xs) : TyX K H (.ref a) (.type "list") := by
  rcases h with (h | ⟨o, h⟩) | ⟨o, its, n, h1, h2, _⟩
  · exact .base (.lst h)
  · exact .base (.frz h)
  · exact .kList h1 h2
theorem x_isa (t : Ty) (hx : y = Str.ofString t.nm) (he : PE X e (tE ζ X.K f)) (hg : Gl X "isinstance") (hm : X.mg "isinstance" = none) (hg2 : Gl X y) (hm2 : X.mg y = none) (hv2 : bootBuiltins y = some (.type t.nm)) (hn2 : y ≠ "__name__" := by decide) (hd2 : (y == ("__debug__" : Str)) = false := by decide)
    (s1 : starEach [e, .Name y p1] X.env = (false, eval e X.env) :: starEach [.Name y p1] X.env := by rfl) (hpl : (backTo pos (starEach [.Name y p1] X.env)).any (·.1) = false := by rfl) : PE X (.Call (.Name "isinstance" p0) [e, .Name y p1] [] pos) (tE ζ X.K (eIsA t f)) := by
  refine pe_imp (pe_callB (call_isi (X := X)) hg hm (by decide +kernel) (pa_cons he (pa_cons (pe_bltn (v := .ty t.nm) hg2 hm2 hv2 rfl hn2 hd2) pa_nil) s1) (he := s1) (hpl := hpl)) fun σ H Q q => ?_
  obtain ⟨φ, env, m, r, m', S, E, hf, k⟩ := q
  obtain ⟨⟨r1, m1⟩, h1, hf⟩ := bind_some_iff hf
  refine ⟨φ, env, m, r1, m1, S, E, h1, fun φ1 H1 v g1 S1 R1 => ?_⟩
  have goal : ∀ b ty, r = .val (.bool b) → m' = m1 → TyX X.K H1 v (.type ty) → kitB ty t.nm = some b → rIsi X.K [v, .ty t.nm] H1 Q := fun b ty e1 e2 h2 h3 => by
    subst e1 e2
    exact ⟨v, .ty t.nm, .type ty, .type t.nm, b, rfl, .ty _, h2, kit_ty h3, k φ1 H1 _ g1 S1 (Dp.bl _)⟩
  show rIsi X.K [v, .ty t.nm] H1 Q
  cases r1 with
  | tp j => first | (cases hf; done) | (cases e; done) | (cases h1; done) | (cases h; done) | (cases h7; done) | (cases h2; done)
  | ref j =>
    obtain ⟨o, ho, hf⟩ := bind_some_iff hf
    obtain ⟨a, rfl, ha⟩ := R1
    cases o with
    | dct t lk kvs => cases hf
    | lst ds =>
      cases hf
      obtain ⟨xs, h3, h4⟩ := S1.obj j _ a ho ha
      exact goal _ "list" rfl rfl (tyx_L (.inl (.inl h3))) (kb_list t)
  | val d =>
    have R1' : Dp X.K (off φ1 H1) v d := R1
    cases R1' with
    | non =>
      cases hf
      exact goal _ "NoneType" rfl rfl (.base .non) (kb_none t)
    | bl b =>
      cases hf
      exact goal _ "bool" rfl rfl (.base (.bl b)) (kb_bool t)
    | int i =>
      cases hf
      exact goal _ "int" rfl rfl (.base (.int i)) (kb_int t)
    | str z =>
      cases hf
      exact goal _ "str" rfl rfl (.base (.str z)) (kb_str t)
    | lst hs ha =>
      cases hf
      exact goal _ "list" rfl rfl (tyx_L (off_same.seq hs)) (kb_list t)
    | tup hs ha =>
      cases hf
      exact goal _ "tuple" rfl rfl (tyx_T (sqT_mono off_same hs)) (kb_tuple t)
end
end Ev

set_option Elab.async false
set_option linter.all false
set_option maxRecDepth 100000
/-! Methods of lists, stores to items, x op= y, enumerate, the law's end. -/
namespace Ev
open PySem PySem.Spec PyProof.Rows L2

/-! ### methods of lists -/
abbrev MF := R → List R → M → Option (R × M)
def rmP (ζ : Tbs) (K : PySem.W.Frag) (p : MF) : V → List V → Hp → VK → Prop := fun x xs H Q => ∃ φ m r0 rs r m', SR ζ K φ H m ∧ RR K φ H x r0 ∧ RRs K φ H xs rs ∧ p r0 rs m = some (r, m') ∧ ValK ζ K φ H r m' Q
/-- the receiver is a list -/
def eBM (p : MF) (f : EF) (fa : AF) : EF := fun env m => (f env m).bind fun x => (asL x.1 x.2).bind fun _ => (fa env x.2).bind fun y => p x.1 y.1 y.2
section
variable {X : Cx} {o e : Expr} {es : List Expr} {f : EF} {fa : AF} {p : MF} {id : String} {name : Str} {apos cpos : Pos}
theorem bm_imp {K : PySem.W.Frag} {σ : L2.St} {H : Hp} {Q : VK} (q : tE ζ K (eBM p f fa) σ H Q) : tBM K "list" (rmP ζ K p) (tE ζ K f) (tA ζ K fa) σ H Q := by
  obtain ⟨φ, env, m, r, m', S, E, hf, k⟩ := q
  obtain ⟨⟨r1, m1⟩, h1, hf⟩ := bind_some_iff hf
  obtain ⟨ds, h2, hf⟩ := bind_some_iff hf
  obtain ⟨⟨rs, m3⟩, h3, hf⟩ := bind_some_iff hf
  refine ⟨φ, env, m, r1, m1, S, E, h1, fun φ1 H1 v g1 S1 R1 => ?_⟩
  obtain ⟨a, xs, rfl, hs, hd⟩ := seqL_of S1 R1 h2
  refine ⟨.inl ⟨rfl, xs, hs⟩, φ1, env, m1, rs, m3, S1, E.mono g1, h3, fun φ2 H2 vs g2 S2 R2 => ?_⟩
  exact ⟨φ2, m3, r1, rs, r, m', S2, R1.mono g2, R2, hf, fun φ3 H3 v3 g3 S3 R3 => k φ3 H3 v3 (g1.trans (g2.trans g3)) S3 R3⟩
theorem x_bm (slot : Slot "list" name id) (hty : typeOf (.builtin id) = pure (.type "method_descriptor")) (hm : MtR X id (rmP ζ X.K p)) (ho : PE X o (tE ζ X.K f)) (ha : PA X (e :: es) (tA ζ X.K fa))
    (hbase : attributeBase o name X.env (eval o X.env) = eval o X.env := by rfl)
    (hfew : ((backTo cpos (starEach (e :: es) X.env)).all (fun x => !x.1) && (backToKw cpos (keywordEach [] X.env)).all (fun x => x.1.isSome)
      && decide ((e :: es).length + ([] : List Keyword).length + (if ([] : List Keyword).isEmpty then 0 else 1) < 30)) = true := by rfl)
    (hline : (apos.endLine == cpos.line) = true := by rfl) (hs : starEach (e :: es) X.env = (false, eval e X.env) :: starEach es X.env := by rfl) (hplain : (backTo cpos (starEach es X.env)).any (·.1) = false := by rfl) :
    PE X (.Call (.Attribute o name apos) (e :: es) [] cpos) (tE ζ X.K (eBM p f fa)) :=
  pe_imp (pe_bm PySem.F.plainAttrs_list slot hty hm ho ha hbase hfew hline hs hplain) fun _ _ _ q => bm_imp q
end
def pAppend : MF := fun r rs m => match r, rs with
  | .ref k, [.val d] => (m[k]?).bind fun o => match o with
    | .lst ds => if ds.length < sizeLine then some (.val .none, m.set k (.lst (ds ++ [d]))) else none
    | .dct _ _ _ => none
  | _, _ => none
/-- the first place of an equal item -/
def firstEq (d : D) : List D → Option Nat
  | [] => none
  | e :: es => if PyData.eqv e d = true then some 0 else (firstEq d es).bind fun j => some (j + 1)
def pIndex : MF := fun r rs m => match rs with
  | [a] => (asD a m).bind fun d => (asL r m).bind fun ds => if (SeqAt.shaped (.list ds) && SeqAt.shaped d) = true then (firstEq d ds).bind fun j => some (.val (.int j), m) else none
  | _ => none
theorem firstEq_at : ∀ {d : D} {ds : List D} {j : Nat}, firstEq d ds = some j → ∃ z, ds[j]? = some z ∧ PyData.eqv z d = true ∧ ∀ (i : Nat) (z' : D), i < j → ds[i]? = some z' → PyData.eqv z' d = false
  | d, [], j, h => by cases h
  | d, e :: es, j, h => by
    unfold firstEq at h
    split at h
    · rename_i he
      cases h
      exact ⟨e, rfl, he, fun i z' hi => absurd hi (Nat.not_lt_zero _)⟩
    · rename_i he
      obtain ⟨i, h1, h2⟩ := bind_some_iff h
      cases h2
      obtain ⟨z, a, b, c⟩ := firstEq_at h1
      refine ⟨z, a, b, fun j z' hj hz => ?_⟩
      cases j with
      | zero =>
        cases hz
        simpa using he
      | succ j => exact c j z' (Nat.lt_of_succ_lt_succ hj) hz
section
variable {X : Cx} {k : Nat}
theorem m_append : MtR X "list.append" (rmP ζ X.K pAppend) := by
  intro pins s σ H x xs v us Q I rx rxs h
  obtain ⟨φ, m, r0, rs, r, m', S, R0, RS, hf, kk⟩ := h
  unfold pAppend at hf
  split at hf
  · rename_i k d
    obtain ⟨ob, ho, hf⟩ := bind_some_iff hf
    cases ob with
    | dct t lk kvs => cases hf
    | lst ds =>
      simp only at hf
      split at hf
      · rename_i hl
        cases hf
        obtain ⟨a, rfl, ha⟩ := R0
        obtain ⟨zs, h3, h4⟩ := S.obj k _ a ho ha
        cases RS with
        | cons r1 t1 =>
          cases t1
          have hin : a ∈ φ.s := List.mem_of_getElem? ha
          refine mt_append pins s σ H _ _ v us Q I rx rxs ⟨a, zs, _, rfl, rfl, h3, by rw [DpAll.len h4]; exact hl, ?_⟩
          exact kk φ _ _ (gr_write hin (S.apart hin) (nf_lst h3)) (S.write ha (DpAll.append h4 (.cons r1 .nil))) Dp.non
      · cases hf
  · cases hf
theorem m_index (hr : Room k X.A) : MtR X "list.index" (rmP ζ X.K pIndex) := by
  intro pins s σ H x xs v us Q I rx rxs h
  obtain ⟨φ, m, r0, rs, r, m', S, R0, RS, hf, kk⟩ := h
  unfold pIndex at hf
  split at hf
  · obtain ⟨d, h1, hf⟩ := bind_some_iff hf
    obtain ⟨ds, h2, hf⟩ := bind_some_iff hf
    split at hf
    · rename_i hc
      obtain ⟨j, h3, hf⟩ := bind_some_iff hf
      cases hf
      rw [Bool.and_eq_true] at hc
      obtain ⟨z, e1, e2, e3⟩ := firstEq_at h3
      cases RS with
      | cons r1 t1 =>
        cases t1
        obtain ⟨a, zs, rfl, hs, hd⟩ := seqL_of S R0 h2
        have hun := hr.un
        refine mt_indexD (by omega) pins s σ H _ _ v us Q I rx rxs ⟨a, _, d, ds, j, z, rfl, rfl, .lst hs (dps_mono off_same hd), asD_dp S r1 h1, hc.1, hc.2, e1, e2, e3, kk φ H _ .refl S (Dp.int _)⟩
    · cases hf
  · cases hf
end

/-! ### o[i] = v, o[i] op= v, x op= v -/
def pSet (o i v : R) (m : M) : Option M := match o, v with
  | .ref k, .val d => (m[k]?).bind fun ob => match ob with
    | .lst ds => (asI i).bind fun z => (ixN ds.length z).bind fun j => some (m.set k (.lst (ds.set j d)))
    | .dct _ _ _ => none
  | _, _ => none
def rSetP (ζ : Tbs) (K : PySem.W.Frag) (p : R → R → R → M → Option M) : V → V → V → Hp → (Hp → Prop) → Prop := fun o i v H Q => ∃ φ m r1 r2 r3 m', SR ζ K φ H m ∧ RR K φ H o r1 ∧ RR K φ H i r2 ∧ RR K φ H v r3 ∧ p r1 r2 r3 m = some m' ∧
  ∀ φ' H', Gr φ H φ' H' → SR ζ K φ' H' m' → Q H'
def gSubF (p : R → R → R → M → Option M) (f g : EF) : GF := fun r env m => (f env m).bind fun x => (g env x.2).bind fun y => (p x.1 y.1 r y.2).bind fun m' => some (env, m')
/-- x op= e -/
def sAugF (p : R → R → M → Option (R × M)) (i : Nat) (f : EF) : SF := fun env m => (eVar i env m).bind fun x => (f env m).bind fun y => (p x.1 y.1 y.2).bind fun z => some (.nx (env.set i (some z.1)) z.2)
/-- o[i] op= e -/
def sAugSF (q : R → R → M → Option (R × M)) (p : R → R → R → M → Option M) (f g h : EF) : SF := fun env m => (f env m).bind fun x => (g env x.2).bind fun y => (pIdx x.1 y.1 y.2).bind fun z => (h env z.2).bind fun w => (q z.1 w.1 w.2).bind fun u => (p x.1 y.1 u.1 u.2).bind fun m' => some (.nx env m')
section
variable {X : Cx} {o i e : Expr} {f g h : EF} {pos tpos pos' : Pos}
theorem set_ok : PSet X (rSetP ζ X.K pSet) := by
  intro pins s σ H o i v ov iv u Q I ro ri rv z
  obtain ⟨φ, m, r1, r2, r3, m', S, R1, R2, R3, hf, kk⟩ := z
  unfold pSet at hf
  split at hf
  · rename_i k d
    obtain ⟨ob, ho, hf⟩ := bind_some_iff hf
    cases ob with
    | dct t lk kvs => cases hf
    | lst ds =>
      obtain ⟨n, h2, hf⟩ := bind_some_iff hf
      obtain ⟨j, h3, hf⟩ := bind_some_iff hf
      cases hf
      have e2 := asI_some h2
      subst e2
      have e2 := rr_int R2
      subst e2
      obtain ⟨a, rfl, ha⟩ := R1
      obtain ⟨zs, h4, h5⟩ := S.obj k _ a ho ha
      have hin : a ∈ φ.s := List.mem_of_getElem? ha
      exact set_list pins s σ H _ _ v ov iv u Q I ro ri rv ⟨a, zs, n, j, rfl, rfl, h4, by rw [DpAll.len h5]; exact h3, kk φ _ (gr_write hin (S.apart hin) (nf_lst h4)) (S.write ha (DpAll.set R3 j h5))⟩
  · cases hf
theorem g_sub {p : R → R → R → M → Option M} (ho : PE X o (tE ζ X.K f)) (hi : PE X i (tE ζ X.K g)) (hs : PSet X (rSetP ζ X.K p))
    (ha : ∀ v, assign (.Subscript o i pos) X.env v = (do
      let ov ← holding [v] (eval o X.env)
      let iv ← holding [v, ov] (eval i X.env)
      standAt pos
      holding [v, ov, iv] (setItem ov iv v)
      release [v, ov, iv] []) := by intros; rfl) : PG X (.Subscript o i pos) (tG ζ X.K (gSubF p f g)) := tg_imp (pg_sub ho hi hs ha) fun v σ H Q q => by
  obtain ⟨φ, env, m, r, e', m', S, E, Rv, hf, k⟩ := q
  obtain ⟨⟨r1, m1⟩, h1, hf⟩ := bind_some_iff hf
  obtain ⟨⟨r2, m2⟩, h2, hf⟩ := bind_some_iff hf
  obtain ⟨m3, h3, hf⟩ := bind_some_iff hf
  cases hf
  refine ⟨φ, env, m, r1, m1, S, E, h1, fun φ1 H1 v1 g1 S1 R1 => ?_⟩
  refine ⟨φ1, env, m1, r2, m2, S1, E.mono g1, h2, fun φ2 H2 v2 g2 S2 R2 => ?_⟩
  exact ⟨φ2, m2, r1, r2, r, m', S2, R1.mono g2, R2, Rv.mono (g1.trans g2), h3, fun φ3 H3 g3 S3 => k φ3 σ H3 (g1.trans (g2.trans g3)) S3 (E.mono (g1.trans (g2.trans g3)))⟩
theorem s_aug {n : Nat} {x : Str} {op : Operator} {p : R → R → M → Option (R × M)} (hN : X.N.Nodup) (hi : X.N[n]? = some x) (hx : Loc X.env.scope x) (he : PE X e (tE ζ X.K f)) (ho : OpR X (inplaceOp op) (r2P ζ X.K p)) (hf : X.fn x = true ∨ X.env.scope.names.lookup x = some .local := by first | exact .inl rfl | exact .inr rfl | assumption) :
    PS X (.AugAssign (.Name x pos') op e pos) (tS ζ X.K (sAugF p n f)) := ps_imp (ps_aug (ti := r2P ζ X.K p) hN hi hx he ho hf) fun W σ H q => by
  obtain ⟨φ, env, m, fl, S, E, hf, k⟩ := q
  obtain ⟨⟨r1, m1⟩, h1, hf⟩ := bind_some_iff hf
  obtain ⟨⟨r2, m2⟩, h2, hf⟩ := bind_some_iff hf
  obtain ⟨⟨r3, m3⟩, h3, hf⟩ := bind_some_iff hf
  cases hf
  have hr : env[n]? = some (some r1) ∧ m = m1 := by
    unfold eVar at h1
    split at h1
    · rename_i r' h
      cases h1
      exact ⟨h, rfl⟩
    · cases h1
  obtain ⟨v, q1, q2⟩ := E.get hr.1
  refine ⟨v, q1, φ, env, m, r2, m2, S, E, h2, fun φ1 H1 v2 g1 S1 R2 => ?_⟩
  exact ⟨φ1, m2, r1, r2, r3, m3, S1, q2.mono g1, R2, h3, fun φ2 H2 v3 g2 S2 R3 => k φ2 _ H2 (g1.trans g2) S2 ((E.mono (g1.trans g2)).set R3 n)⟩
theorem get_ok : PGet X (r2P ζ X.K pIdx) := by
  intro pins s σ H o i ov iv Q I ro ri q
  obtain ⟨φ, m, r1, r2, r, m', S, R1, R2, hf, k⟩ := q
  obtain ⟨ds, h1, hf⟩ := bind_some_iff hf
  obtain ⟨n, h2, hf⟩ := bind_some_iff hf
  obtain ⟨d, h3, hf⟩ := bind_some_iff hf
  cases hf
  have e2 := asI_some h2
  subst e2
  have x2 := rr_int R2
  subst x2
  obtain ⟨p, xs, rfl, hs, hd⟩ := seqLT_of S R1 h1
  obtain ⟨z, h4, h5⟩ := DpAll.atI hd h3
  have fin := k φ H z .refl S h5
  cases ro
  obtain ⟨t, rfl⟩ := ri
  obtain ⟨j, a1, a2, a3, a4, a5⟩ := atI_get h4
  have hn := line63
  have main : ∀ (its : List Value) (rv : Vals xs its) (hz : xs.length ≤ sizeLine), ∃ w, its[j]? = some w ∧ EP X pins σ Q w s ∧ (0 ≤ n → n.toNat = j) ∧ (¬ 0 ≤ n → (n + (its.toArray.size : Int)).toNat = j) ∧ n < 2 ^ 63 ∧ -(its.toArray.size : Int) ≤ n ∧ -(2 ^ 63) ≤ n := by
    intro its rv hz
    obtain ⟨w, ew, rw'⟩ := rv.get a2
    have hl := rv.length
    refine ⟨w, ew, ⟨z, H, I, rw', fin⟩, fun h0 => ?_, fun h0 => ?_, by omega, by rw [List.size_toArray]; omega, by omega⟩
    · rw [seqIndex_of h0 a5] at a1
      exact Option.some.inj a1
    · rw [seqIndex_neg (by omega) a4] at a1
      rw [List.size_toArray, ← hl]
      exact Option.some.inj a1
  rcases hs with hs | hs
  · obtain ⟨its, rv, pl, hz⟩ := I.list hs
    obtain ⟨w, ew, fin, b1, b2, b3, b4, b5⟩ := main its rv hz
    by_cases h0 : 0 ≤ n
    · exact wpAny_getItem_list pl.isList h0 b3 (by rw [b1 h0]; simpa using ew) fin
    · exact wpAny_getItem_list_neg pl.isList (by omega) b4 b5 (by rw [b2 h0]; simpa using ew) fin
  · obtain ⟨its, rv, pl, hz⟩ := I.tuple hs
    obtain ⟨w, ew, fin, b1, b2, b3, b4, b5⟩ := main its rv hz
    exact PyProof.Rows.getItem_tuple pl b5 b3 (by rw [List.size_toArray, ← rv.length]; exact a1) (by simpa using ew) fin
theorem s_augS {op : Operator} {q : R → R → M → Option (R × M)} {p : R → R → R → M → Option M} (ho : PE X o (tE ζ X.K f)) (hi : PE X i (tE ζ X.K g)) (he : PE X e (tE ζ X.K h)) (hp : OpR X (inplaceOp op) (r2P ζ X.K q)) (hs : PSet X (rSetP ζ X.K p))
    (ha : ∀ ov iv new, augStore i ov iv new = (do holding [new, ov, iv] (setItem ov iv new); release [new, ov, iv] []; pure .next) := by intros; rfl) : PS X (.AugAssign (.Subscript o i tpos) op e pos) (tS ζ X.K (sAugSF q p f g h)) :=
  ps_imp (ps_augS (tip := r2P ζ X.K q) ho hi get_ok he hp hs ha) fun W σ H z => by
  obtain ⟨φ, env, m, fl, S, E, hf, k⟩ := z
  obtain ⟨⟨r1, m1⟩, h1, hf⟩ := bind_some_iff hf
  obtain ⟨⟨r2, m2⟩, h2, hf⟩ := bind_some_iff hf
  obtain ⟨⟨r3, m3⟩, h3, hf⟩ := bind_some_iff hf
  obtain ⟨⟨r4, m4⟩, h4, hf⟩ := bind_some_iff hf
  obtain ⟨⟨r5, m5⟩, h5, hf⟩ := bind_some_iff hf
  obtain ⟨m6, h6, hf⟩ := bind_some_iff hf
  cases hf
  refine ⟨φ, env, m, r1, m1, S, E, h1, fun φ1 H1 v1 g1 S1 R1 => ?_⟩
  refine ⟨φ1, env, m1, r2, m2, S1, E.mono g1, h2, fun φ2 H2 v2 g2 S2 R2 => ?_⟩
  refine ⟨φ2, m2, r1, r2, r3, m3, S2, R1.mono g2, R2, h3, fun φ3 H3 v3 g3 S3 R3 => ?_⟩
  refine ⟨φ3, env, m3, r4, m4, S3, E.mono (g1.trans (g2.trans g3)), h4, fun φ4 H4 v4 g4 S4 R4 => ?_⟩
  refine ⟨φ4, m4, r3, r4, r5, m5, S4, R3.mono g4, R4, h5, fun φ5 H5 v5 g5 S5 R5 => ?_⟩
  have gg := g1.trans (g2.trans (g3.trans (g4.trans g5)))
  exact ⟨φ5, m5, r1, r2, r5, m6, S5, R1.mono (g2.trans (g3.trans (g4.trans g5))), R2.mono (g3.trans (g4.trans g5)), R5, h6, fun φ6 H6 g6 S6 => k φ6 σ H6 (gg.trans g6) S6 (E.mono (gg.trans g6))⟩
theorem oi_add : OpR X (inplaceOp .Add) (r2P ζ X.K pAddI) := o_ii0 iop_add fun _ _ _ => .int _
theorem oi_sub : OpR X (inplaceOp .Sub) (r2P ζ X.K pSub) := o_ii0 iop_sub fun _ _ _ => .int _
def mulSmall (i j : Int) : Bool := decide ((-(2 ^ 64) < i ∧ i < 2 ^ 64) ∨ (-(2 ^ 64) < j ∧ j < 2 ^ 64))
def pMulS := pII mulSmall fun i j => .int (i * j)
theorem oi_mul : OpR X (inplaceOp .Mult) (r2P ζ X.K pMulS) := o_ii iop_mul (fun i j h => (of_decide_eq_true h : (-(2 ^ 64) < i ∧ i < 2 ^ 64) ∨ (-(2 ^ 64) < j ∧ j < 2 ^ 64))) fun _ _ _ => .int _
end

/-! ### enumerate -/
def enumD (ds : List D) : List D := ds.zipIdx.map fun p => .tuple [.int (p.2 : Nat), p.1]
theorem enumD_at {ds : List D} {i : Nat} : (enumD ds)[i]? = (ds[i]?).map fun d => .tuple [.int (i : Nat), d] := by
  unfold enumD
  rw [List.getElem?_map, List.getElem?_zipIdx]
  cases ds[i]? <;> simp
def srcE (k : Nat) : Src := fun i m => match m[k]? with
  | some (.lst ds) => some ((ds[i]?).map fun d => .tuple [.int (i : Nat), d])
  | _ => none
def itEnumL (f : AF) : IF := fun env m => (f env m).bind fun x => match x.1 with
  | [.val (.list ds)] => iL (enumD ds) x.2
  | [.ref k] => match x.2[k]? with
    | some (.lst ds) => some ((srcE k, ds.length), x.2)
    | _ => none
  | _ => none
def itEnumT (f : AF) : IF := fun env m => (f env m).bind fun x => match x.1 with
  | [.val (.tuple ds)] => iL (enumD ds) x.2
  | _ => none
theorem pair_new {K : PySem.W.Frag} {φ : Ad} {H : Hp} {m : M} {T : Addr} {i : Nat} {x : V} {d : D} {o : Obj} (S : SR ζ K φ H m) (hT : H T = none) (ho : o.dict = none) (h : Dp K (off φ H) x d) :
    Gr φ H φ (upd H T (.frz o (.tup [.int (i : Nat), x]))) ∧ SR ζ K φ (upd H T (.frz o (.tup [.int (i : Nat), x]))) m ∧ RR K φ (upd H T (.frz o (.tup [.int (i : Nat), x]))) (.ref T) (.val (.tuple [.int (i : Nat), d])) :=
  ⟨gr_alloc hT, S.alloc hT ho, rr_newT S hT (.cons (.int _) (.cons h .nil))⟩
theorem jok_enum {K : PySem.W.Frag} {φ : Ad} {H : Hp} {a : Addr} {xs : List V} {ds : List D} (h : SqL K (off φ H) a xs) (hd : DpAll K (off φ H) xs ds) : JOk ζ K (ItL K a) φ H (srcL (enumD ds)) where
  stop := fun φ' H' m i g S e => ⟨xs, (off_same.seq (g.same.seq h)), by
    have e' : (enumD ds)[i]? = none := Option.some.inj e
    rw [enumD_at, Option.map_eq_none_iff] at e'
    rw [DpAll.len hd]
    exact List.getElem?_eq_none_iff.mp e'⟩
  go := fun φ' H' m i d g S e => by
    have e' : (enumD ds)[i]? = some d := Option.some.inj e
    rw [enumD_at, Option.map_eq_some_iff] at e'
    obtain ⟨d', e', _⟩ := e'
    obtain ⟨v, h1, h2⟩ := DpAll.get hd e'
    exact ⟨xs, v, off_same.seq (g.same.seq h), h1⟩
  yld := fun φ' H' m i d x H'' g S e y => by
    have e' : (enumD ds)[i]? = some d := Option.some.inj e
    rw [enumD_at, Option.map_eq_some_iff] at e'
    obtain ⟨d', e', rfl⟩ := e'
    obtain ⟨v, h1, h2⟩ := DpAll.get hd e'
    obtain ⟨T, o, z, rfl, hT, ho, rfl, y⟩ := y
    have q := y xs (off_same.seq (g.same.seq h))
    rw [h1] at q
    cases q
    exact pair_new S hT ho (dp_mono g.same h2)
theorem jok_enumR {K : PySem.W.Frag} {φ : Ad} {H : Hp} {k : Nat} {a : Addr} (h : φ.s[k]? = some a) : JOk ζ K (ItL K a) φ H (srcE k) where
  stop := fun φ' H' m i g S e => by
    unfold srcE at e
    split at e
    · rename_i ds hm
      obtain ⟨xs, h1, h2⟩ := S.obj k _ a hm (prefix_get g.pre h)
      have e' := Option.some.inj e
      rw [Option.map_eq_none_iff] at e'
      exact ⟨xs, .inl (.inl h1), by rw [DpAll.len h2]; exact List.getElem?_eq_none_iff.mp e'⟩
    · cases e
  go := fun φ' H' m i d g S e => by
    unfold srcE at e
    split at e
    · rename_i ds hm
      obtain ⟨xs, h1, h2⟩ := S.obj k _ a hm (prefix_get g.pre h)
      have e' := Option.some.inj e
      rw [Option.map_eq_some_iff] at e'
      obtain ⟨d', e', _⟩ := e'
      obtain ⟨v, h3, h4⟩ := DpAll.get h2 e'
      exact ⟨xs, v, .inl (.inl h1), h3⟩
    · cases e
  yld := fun φ' H' m i d x H'' g S e y => by
    unfold srcE at e
    split at e
    · rename_i ds hm
      obtain ⟨xs, h1, h2⟩ := S.obj k _ a hm (prefix_get g.pre h)
      have e' := Option.some.inj e
      rw [Option.map_eq_some_iff] at e'
      obtain ⟨d', e', rfl⟩ := e'
      obtain ⟨v, h3, h4⟩ := DpAll.get h2 e'
      obtain ⟨T, o, z, rfl, hT, ho, rfl, y⟩ := y
      have q := y xs (.inl (.inl h1))
      rw [h3] at q
      cases q
      exact pair_new S hT ho h4
    · cases e
section
variable {X : Cx} {e : Expr} {fa : AF} {p pos tpos : Pos} {elts : List Expr} {kk : Nat}
theorem i_enumL (hg : Gl X "enumerate") (hm : X.mg "enumerate" = none) (ha : PA X [e] (tA ζ X.K fa)) (hs : starEach [e] X.env = [(false, eval e X.env)] := by rfl) : PI X (.Tuple elts kk tpos) (.Call (.Name "enumerate" p) [e] [] pos) (tI ζ X.K (itEnumL fa)) :=
  pi_imp (pi_enumF hg hm ha hs) fun σ H Q q => by
  obtain ⟨φ, env, m, src, n, m', S, E, hf, k⟩ := q
  obtain ⟨⟨rs, m1⟩, h1, hf⟩ := bind_some_iff hf
  refine ⟨φ, env, m, rs, m1, S, E, h1, fun φ1 H1 vs g1 S1 R1 => ?_⟩
  simp only at hf
  split at hf
  · rename_i ds
    cases hf
    cases R1 with
    | cons a1 t1 =>
      cases t1
      have a1' : Dp X.K (off φ1 H1) _ (.list ds) := a1
      cases a1' with
      | lst hs ha => exact ⟨_, _, rfl, off_same.seq hs, k φ1 H1 _ g1 S1 (jok_enum hs ha)⟩
  · rename_i j
    split at hf
    · rename_i ds hmj
      cases hf
      cases R1 with
      | cons a1 t1 =>
        cases t1
        obtain ⟨ad, rfl, e2⟩ := a1
        obtain ⟨xs, h3, h4⟩ := S1.obj j _ ad hmj e2
        exact ⟨ad, xs, rfl, .inl (.inl h3), k φ1 H1 _ g1 S1 (jok_enumR e2)⟩
    · cases hf
  · cases hf
end
section
variable {prog : Program} {w : World} {A : Around} {E : Value → Shared → Prop} {s : Shared}
theorem enum_endT {e it l : Addr} {i : Nat} {items : Array Value} {old : Value} {Q : Option Value → Shared → Prop} (hh : A.handled = none)
    (he : IsEnum s.heap e it i old) (hit : s.heap.IsTupleIter it l i) (hl : s.heap.IsTuple l items) (hx : items[i]? = none)
    (hQ : ∀ h', Heap.ExtBut it s.heap h' → Q none { s with heap := h' }) : wpAny (model prog w) A (pyNext (.ref e)) Q E s := by
  have ty : s.TypeIs (.ref e) "enumerate" := ⟨_, he, rfl⟩
  unfold pyNext
  refine wpAny_bind (wpAny_attempt (wpAny_callSpecial?_slot (name := Str.ofString "__next__") ty
    F.slot_enumerate_next (wpAny_call_entry F.slot_enumerate_next ty F.entry_enumerate_next ?_
      (F.args_enumerate_next_1 _))))
  show wpAny _ _ (field (.ref e) 2 >>= _) _ _ _
  refine wpAny_bind (wpAny_field he rfl (x := .ref it) rfl ?_)
  refine wpAny_bind (PySem.wpAny_nextOf_tuple_end hh hit hl hx fun h' x he' ⟨o, ho, hc⟩ => ?_)
  exact wpAny_bind (wpAny_isInstance (T := "StopIteration") (b := true) ⟨o, ho, hc⟩ isSubtype_stop
    (wpAny_pure (hQ _ he')))
theorem meets_enumT (t : Addr) (items : Array Value) :
    Meets (Builtin.«enumerate.__new__» ⟨[.type "enumerate", .ref t], []⟩) (fun _ R s => s.heap.IsTuple t items ∧
      R (.ok (.ret (.ref (s.heap.push { cls := .type "tuple_iterator", data := .fields #[.ref t, .int 0 0] }).objs.size)))
        { s with heap := (s.heap.push { cls := .type "tuple_iterator", data := .fields #[.ref t, .int 0 0] }).push { cls := .type "enumerate", data := .fields #[.none, .bool false, .ref s.heap.objs.size, rawInt 0, .none, .none] } }) :=
  .of_wp fun prog w A R s h => by
    obtain ⟨hp, g, d, tk, os⟩ := s
    obtain ⟨hT, h⟩ := h
    have hsub := sub_enumerate
    have q1 : ∀ {A' : Around} {E : Value → Shared → Prop} {Q : Value → Shared → Prop}, Q (.ref hp.objs.size) ⟨hp.push { cls := .type "tuple_iterator", data := .fields #[.ref t, .int 0 0] }, g, d, tk, os⟩ → wpAny (model prog w) A' (pyIter (.ref t)) Q E ⟨hp, g, d, tk, os⟩ :=
      fun q => wpAny_pyIter_tuple hT q
    wp_walk using q1
    refine wpAny_stack_any fun st => wpAny_pure ?_
    split
    · rename_i c _ _ _ _ _
      cases (c == Value.type "enumerate")
      · wp_walk using q1
        exact ⟨_, rfl, h⟩
      · wp_walk using q1
        exact ⟨_, rfl, h⟩
    · wp_walk using q1
      exact ⟨_, rfl, h⟩
theorem call_enumT {t : Addr} {items : Array Value} {Q : Value → Shared → Prop} (hT : s.heap.IsTuple t items)
    (h : ∀ h', IsEnum h' (s.heap.objs.size + 1) s.heap.objs.size 0 .none → h'.IsTupleIter s.heap.objs.size t 0 → (∀ b o, s.heap.get? b = some o → h'.get? b = some o) → Q (.ref (s.heap.objs.size + 1)) { s with heap := h' }) :
    wpAny (model prog w) A (call (.type "enumerate") [.ref t]) Q E s := by
  refine callType_new F.called_enumerate (by decide) (F.typeCall_enumerate_1 _) (F.newCall_enumerate_1 _)
    (fun obj => F.args_object_init_2 obj _) F.entry_enumerate_new (meets_enumT t items) ⟨hT, ?_⟩
  have hz : (s.heap.push { cls := .type "tuple_iterator", data := .fields #[.ref t, .int 0 0] }).objs.size = s.heap.objs.size + 1 := Heap.size_push ..
  show _ ∧ _
  rw [hz]
  have he : IsEnum ((s.heap.push { cls := .type "tuple_iterator", data := .fields #[.ref t, .int 0 0] }).push { cls := .type "enumerate", data := .fields #[.none, .bool false, .ref s.heap.objs.size, rawInt 0, .none, .none] }) (s.heap.objs.size + 1) s.heap.objs.size 0 .none := by
    have q := Heap.get?_push_size (s.heap.push { cls := .type "tuple_iterator", data := .fields #[.ref t, .int 0 0] }) (o := { cls := .type "enumerate", data := .fields #[.none, .bool false, .ref s.heap.objs.size, rawInt 0, .none, .none] }) rfl
    rw [hz] at q
    exact q
  exact ⟨⟨_, he, rfl⟩, h _ he ⟨_, Heap.get?_push_of_some _ (Heap.get?_push_size _ rfl), rfl, rfl⟩ fun b o x => Heap.get?_push_of_some _ (Heap.get?_push_of_some _ x)⟩
end
/-- the tuple at a, each item in a new pair -/
def ItE (K : PySem.W.Frag) (a : Addr) : It :=
  ⟨fun i H => ∃ (xs : List V) (x : V), SqT K H a xs ∧ xs[i]? = some x, fun i H v H' => ∃ T o x, v = .ref T ∧ H T = none ∧ o.dict = none ∧ H' = upd H T (.frz o (.tup [.int (i : Nat), x])) ∧ ∀ xs, SqT K H a xs → xs[i]? = some x, fun i H => ∃ xs : List V, SqT K H a xs ∧ xs.length ≤ i⟩
theorem turn_enumT {P : Program} {w : World} {K : PySem.W.Frag} {elts : List Expr} {kk : Nat} {tpos : Pos} (a e it : Addr) :
    Turn P w K (.Tuple elts kk tpos) (ItE K a) [e, it] e (fun i h => (∃ old, IsEnum h e it ((i : Nat) : Int) old) ∧ h.IsTupleIter it a i ∧ e ≠ it) where
  mem := List.mem_cons_self
  obj := by
    rintro i h ⟨⟨old, he⟩, ⟨o, ho, hc, hd⟩, _⟩ b hb
    rcases List.mem_cons.mp hb with rfl | hb
    · exact ⟨_, he, fun v q => nomatch q⟩
    · obtain rfl := List.mem_singleton.mp hb
      exact ⟨o, ho, fun v q => by rw [hd] at q; cases q⟩
  keep := by
    rintro i h h' ⟨⟨old, he⟩, ⟨o, ho, r⟩, hne⟩ k
    exact ⟨⟨old, k e List.mem_cons_self _ he⟩, ⟨o, k it (by simp) o ho, r⟩, hne⟩
  item := by
    rintro X rfl rfl rfl hc i pins s σ H E I hf ⟨⟨old, he⟩, hit, hne⟩ ⟨xs, x, hq, hx⟩
    obtain ⟨its, rv, p, hz⟩ := I.tuple hq
    obtain ⟨u, hu, ru⟩ := rv.get hx
    have hel : e < s.heap.objs.size := Heap.lt_size he
    have hil : it < s.heap.objs.size := by
      obtain ⟨_, q, _⟩ := hit
      exact Heap.lt_size q
    have nea : e ≠ a := fun z => by
      obtain ⟨o, ho, hcl, _⟩ := p
      have he' : s.heap.get? e = _ := he
      rw [z, ho] at he'
      cases he'
      exact absurd (show Value.type "enumerate" = Value.type "tuple" from hcl) (by decide)
    have nia : a ≠ it := fun z => by
      obtain ⟨o, ho, hcl, _⟩ := p
      obtain ⟨o2, ho2, hc2, _⟩ := hit
      rw [← z, ho] at ho2
      cases ho2
      rw [hcl] at hc2
      exact absurd hc2 (by decide)
    have hul : i < its.toArray.size := by
      have := (List.getElem?_eq_some_iff.mp hu).1
      simpa using this
    refine PySem.wpAny_pyNext_enum_itemC (PySem.Draws.tuple (A := X.A.in1) (I.ok.hd hc) it a nia its.toArray) he ⟨hit, p⟩ hul hne (by simp [hne, nea]) fun z h' tk hP ho hit' hT hsz hk => ?_
    have ez : z = u := by
      have hP' : its.toArray[i]? = some z := hP
      have hP2 : its[i]? = some z := by simpa using hP'
      rw [hu] at hP2
      exact (Option.some.inj hP2).symm
    subst ez
    refine ⟨_, rfl, wpAny_letOwnedTupleGo_enum (s := { s with heap := h', toks := tk + 1 }) ho fun h'' he' sb => ?_⟩
    have hT2 : h''.get? s.heap.objs.size = some { cls := .type "tuple", data := .seq #[.int i tk, z] } := (sb.2 _ (Nat.ne_of_gt hel)).trans hT
    have new : ObjOk X.prog X.w (upd H s.heap.objs.size (.frz { cls := .type "tuple", data := .seq #[.int i tk, z] } (.tup [.int (i : Nat), x]))) h'' s.heap.objs.size (.frz { cls := .type "tuple", data := .seq #[.int i tk, z] } (.tup [.int (i : Nat), x])) :=
      ⟨hT2, by show 2 ≤ sizeLine; decide, [.int i tk, z], .cons ⟨_, rfl⟩ (.cons ru .nil), ⟨_, hT2, rfl, _, rfl⟩⟩
    have I1 : Inv X pins σ (upd H s.heap.objs.size (.frz { cls := .type "tuple", data := .seq #[.int i tk, z] } (.tup [.int (i : Nat), x]))) { s with heap := h'', toks := tk + 1 } :=
      I.turnedNew (ch := [e, it]) (fun b ob hb q => (sb.2 b fun z => hb (by simp [z])).trans (hk b ob (fun z => hb (by simp [z])) (fun z => hb (by simp [z])) q)) hf (Nat.le_refl _) new
    refine ⟨.ref s.heap.objs.size, _, I1, rfl, ⟨_, _, x, rfl, I.hok.fresh (Nat.le_refl _), rfl, rfl, fun ys hy => by rw [I.tuple_inj hy hq]; exact hx⟩, ⟨⟨z, ?_⟩, ?_, hne⟩, fun b hb => ?_⟩
    · have e1 : ((i + 1 : Nat) : Int) = (i : Int) + 1 := by omega
      rw [e1]
      exact he'
    · obtain ⟨⟨o2, ho2, r2⟩, _⟩ := hit'
      exact ⟨o2, (sb.2 it (Ne.symm hne)).trans ho2, r2⟩
    · have hb' : b < s.heap.objs.size := by
        rcases List.mem_cons.mp hb with rfl | hb
        · exact hel
        · obtain rfl := List.mem_singleton.mp hb
          exact hil
      rw [upd_ne (Nat.ne_of_lt hb')]
      exact (hf b hb).1
  done := by
    rintro X rfl rfl rfl hc i pins s σ H E I hf ⟨⟨old, he⟩, hit, hne⟩ ⟨xs, hq, hx⟩
    obtain ⟨its, rv, p, hz⟩ := I.tuple hq
    obtain ⟨f0, f1, f2, f3, f4, f5⟩ := hf it (by simp)
    have hl := rv.length
    have nia : a ≠ it := fun z => by
      obtain ⟨o, ho, hcl, _⟩ := p
      obtain ⟨o2, ho2, hc2, _⟩ := hit
      rw [← z, ho] at ho2
      cases ho2
      rw [hcl] at hc2
      exact absurd hc2 (by decide)
    refine enum_endT (I.ok.hd hc) he hit p (by rw [Array.getElem?_eq_none_iff, List.size_toArray]; omega) fun h' eb => ⟨rfl, I.turned (t' := s.toks) (fun b o hb q => eb b o hb q) f0 f1 f3 f4 f5⟩
  self := fun A i s Q E st h => by
    obtain ⟨⟨_, he⟩, _⟩ := st
    exact wpAny_pyIter_enum he h
def iEnumT (K : PySem.W.Frag) (ta : TA) : TI := fun σ H R => ta σ H fun vs H1 => ∃ a xs, vs = [.ref a] ∧ SqT K H1 a xs ∧ R (ItE K a) H1
theorem pi_enumT {X : Cx} {e : Expr} {ta : TA} {p pos tpos : Pos} {elts : List Expr} {kk : Nat} (hg : Gl X "enumerate") (hm : X.mg "enumerate" = none) (ha : PA X [e] ta) (hs : starEach [e] X.env = [(false, eval e X.env)] := by rfl) :
    PI X (.Tuple elts kk tpos) (.Call (.Name "enumerate" p) [e] [] pos) (iEnumT X.K ta) := by
  refine ⟨fun pins s σ H R I h => ?_⟩
  refine Call_ (ld_blt I hg hm boot_enumerate (PyProof.Rows.callWith_type1 (thn (ha.run pos pins s σ H _ I h)
    fun us s1 ⟨vs, H1, I1, r1, q1⟩ => ?_) hs rfl))
  obtain ⟨a, xs, rfl, hq, q⟩ := q1
  obtain ⟨u, rfl, r⟩ := one_val r1
  cases r
  obtain ⟨its, rv, pt, hz⟩ := I1.tuple hq
  refine call_enumT pt fun h' he hit hk => wpAny_pyIter_enum he ?_
  have I2 : Inv X pins σ H1 { s1 with heap := h' } := I1.kept (t' := s1.toks) hk
  refine ⟨s1.heap.objs.size + 1, [s1.heap.objs.size + 1, s1.heap.objs.size], _, _, H1, rfl, I2, turn_enumT a (s1.heap.objs.size + 1) s1.heap.objs.size, ⟨⟨.none, he⟩, hit, Nat.succ_ne_self _⟩, fun b hb => ?_, q⟩
  have hle : s1.heap.objs.size ≤ b := by
    rcases List.mem_cons.mp hb with rfl | hb
    · exact Nat.le_add_right _ _
    · rw [List.mem_singleton.mp hb]
      exact Nat.le_refl _
  exact I1.fpOk hle (I1.hok.fresh hle)
theorem jok_enumT {K : PySem.W.Frag} {φ : Ad} {H : Hp} {a : Addr} {xs : List V} {ds : List D} (h : SqT K (off φ H) a xs) (hd : DpAll K (off φ H) xs ds) : JOk ζ K (ItE K a) φ H (srcL (enumD ds)) where
  stop := fun φ' H' m i g S e => ⟨xs, (sqT_mono off_same (sqT_mono g.same h)), by
    have e' : (enumD ds)[i]? = none := Option.some.inj e
    rw [enumD_at, Option.map_eq_none_iff] at e'
    rw [DpAll.len hd]
    exact List.getElem?_eq_none_iff.mp e'⟩
  go := fun φ' H' m i d g S e => by
    have e' : (enumD ds)[i]? = some d := Option.some.inj e
    rw [enumD_at, Option.map_eq_some_iff] at e'
    obtain ⟨d', e', _⟩ := e'
    obtain ⟨v, h1, h2⟩ := DpAll.get hd e'
    exact ⟨xs, v, sqT_mono off_same (sqT_mono g.same h), h1⟩
  yld := fun φ' H' m i d x H'' g S e y => by
    have e' : (enumD ds)[i]? = some d := Option.some.inj e
    rw [enumD_at, Option.map_eq_some_iff] at e'
    obtain ⟨d', e', rfl⟩ := e'
    obtain ⟨v, h1, h2⟩ := DpAll.get hd e'
    obtain ⟨T, o, z, rfl, hT, ho, rfl, y⟩ := y
    have q := y xs (sqT_mono off_same (sqT_mono g.same h))
    rw [h1] at q
    cases q
    exact pair_new S hT ho (dp_mono g.same h2)
section
variable {X : Cx} {e : Expr} {fa : AF} {p pos tpos : Pos} {elts : List Expr} {kk : Nat}
theorem i_enumT (hg : Gl X "enumerate") (hm : X.mg "enumerate" = none) (ha : PA X [e] (tA ζ X.K fa)) (hs : starEach [e] X.env = [(false, eval e X.env)] := by rfl) : PI X (.Tuple elts kk tpos) (.Call (.Name "enumerate" p) [e] [] pos) (tI ζ X.K (itEnumT fa)) :=
  pi_imp (pi_enumT hg hm ha hs) fun σ H Q q => by
  obtain ⟨φ, env, m, src, n, m', S, E, hf, k⟩ := q
  obtain ⟨⟨rs, m1⟩, h1, hf⟩ := bind_some_iff hf
  refine ⟨φ, env, m, rs, m1, S, E, h1, fun φ1 H1 vs g1 S1 R1 => ?_⟩
  simp only at hf
  split at hf
  · rename_i ds
    cases hf
    cases R1 with
    | cons a1 t1 =>
      cases t1
      have a1' : Dp X.K (off φ1 H1) _ (.tuple ds) := a1
      cases a1' with
      | tup hs ha => exact ⟨_, _, rfl, sqT_mono off_same hs, k φ1 H1 _ g1 S1 (jok_enumT hs ha)⟩
  · cases hf
end
end Ev

set_option Elab.async false
set_option linter.all false
set_option maxRecDepth 100000
/-! list(x), and the end of a law's row. -/
namespace Ev
open PySem PySem.Spec PyProof.Rows L2

/-- T(x) that makes a new list -/
def nList (f : AF) : NF := fun env m => (f env m).bind fun x => match x.1 with
  | [r] => (asLT r x.2).bind fun ds => some (ds, x.2)
  | _ => none
section
variable {X : Cx} {e : Expr} {es : List Expr} {fa : AF} {pos p0 : Pos}
theorem n_list (hg : Gl X "list") (hm : X.mg "list" = none) (ha : PA X (e :: es) (tA ζ X.K fa))
    (he : starEach (e :: es) X.env = (false, eval e X.env) :: starEach es X.env := by rfl) (hpl : (backTo pos (starEach es X.env)).any (·.1) = false := by rfl) : PE X (.Call (.Name "list" p0) (e :: es) [] pos) (tN ζ X.K (nList fa)) :=
  pe_imp (pe_callTy (T := "list") call_list_of hg hm (by decide +kernel) ha (he := he) (hpl := hpl)) fun σ H Q q => by
  obtain ⟨φ, env, m, ds, m', S, E, hf, k⟩ := q
  obtain ⟨⟨rs, m1⟩, h1, hf⟩ := bind_some_iff hf
  refine ⟨φ, env, m, rs, m1, S, E, h1, fun φ1 H1 vs g1 S1 R1 => ?_⟩
  simp only at hf
  split at hf
  · obtain ⟨es, h2, hf⟩ := bind_some_iff hf
    cases hf
    cases R1 with
    | cons a1 t1 =>
      cases t1
      obtain ⟨p, xs, rfl, hs, hd⟩ := seqLT_of S1 a1 h2
      exact ⟨p, xs, rfl, hs, fun l hl => k φ1 H1 l xs g1 S1 hl hd⟩
  · cases hf
end

/-! ### the law's end -/
/-- the law's function at a script -/
def spLaw (K : PySem.W.Frag) (F : Fn) : Sp := fun vs H Q _ => ∃ (a : Addr) (ns : List Int), vs = [.ref a] ∧ SqL K H a (ns.map V.int) ∧ ns.length ≤ 63 ∧ ∃ m, F [.val (.list (ns.map .int))] [] = some (.val (.bool true), m) ∧ ∀ H', Q (.bl true) H'
theorem FnG.imp {P : Program} {w : World} {K : PySem.W.Frag} {mg : Str → Option Value} {base : Heap} {k : Nat} {f : Addr} {fd : FuncData} {ps : List Str} {sp sp' : Sp} (F : FnG P w K mg base k f fd ps sp) (h : ∀ vs H Q E, sp' vs H Q E → sp vs H Q E) : FnG P w K mg base k f fd ps sp' :=
  ⟨fun vs H Q E q => F.len vs H Q E (h _ _ _ _ q), fun A outer s H args us vs Q E hg hr e0 hb hv q => F.go A outer s H args us vs Q E hg hr e0 hb hv (h _ _ _ _ q)⟩
/-- the tables of code objects, all still empty -/
structure TabsAt (K : PySem.W.Frag) (h : Heap) (cs : List (Addr × Addr × Str)) : Prop where
  at_ : ∀ p ∈ cs, h.get? p.2.1 = some { cls := .none, data := .fields #[] }
  out : ∀ p ∈ cs, K.lookup p.2.1 = none
  code : ∀ p ∈ cs, PySem.W.CodeHd h p.1 p.2.1
  nd : (cs.map fun p => p.2.1).Nodup
def tabT (cs : List (Addr × Addr × Str)) : List (Addr × Str) := cs.map fun p => (p.2.1, p.2.2)
theorem law_sp {K : PySem.W.Frag} {F : Fn} {vs : List V} {H : Hp} {Q : VK} {E : XK} (cs : List (Addr × Addr × Str)) (nd : (cs.map fun p => p.2.1).Nodup) (hT : ∀ p ∈ cs, H p.2.1 = some (.tbl #[])) (ha : ∀ a, vs = [.ref a] → a ∉ cs.map fun p => p.2.1) (hpl : ∀ b u, H b = some u → plO u) (kt : KT K) (h : spLaw K F vs H Q E) : spF (tabT cs) K 1 F vs H Q E := by
  obtain ⟨a, ns, rfl, hs, _, m, hF, q⟩ := h
  have na : a ∉ (⟨[], cs.map fun p => p.2.1, tabT cs⟩ : Ad).all := fun z => ha a rfl (by simpa [Ad.all] using z)
  refine ⟨rfl, ⟨[], cs.map fun p => p.2.1, tabT cs⟩, [], [.val (.list (ns.map .int))], .val (.bool true), m, ⟨rfl, by simpa [Ad.all] using nd, fun i o b e => by simp at e, fun b hb => ?_, rfl, fun p hp => ?_, fun p hp => ?_, hpl, kt⟩, .cons ?_ .nil, hF, fun φ' H' v g S R => ?_⟩
  · obtain ⟨p, hp, e⟩ := List.mem_map.mp hb
    exact .inr ⟨p.2.2, List.mem_map.mpr ⟨p, hp, by rw [← e]⟩⟩
  · obtain ⟨c, hc, e⟩ := List.mem_map.mp hp
    rw [← e]
    exact List.mem_map.mpr ⟨c, hc, rfl⟩
  · obtain ⟨c, hc, e⟩ := List.mem_map.mp hp
    rw [← e]
    exact LamX.TabS.nil (hT c hc)
  · refine Dp.lst (xs := ns.map V.int) ?_ (dpAll_ints ns)
    rcases hs with hs | hs
    · left
      rcases hs with hs | ⟨o, hs⟩
      · exact .inl (off_some.mpr ⟨na, hs, rfl⟩)
      · exact .inr ⟨o, off_some.mpr ⟨na, hs, rfl⟩⟩
    · exact .inr hs
  · have e := rr_bool R
    subst e
    exact q H'
/-- a promise kept at the caller's own stand -/
theorem law_run {P : Program} {w : World} {K : PySem.W.Frag} {mg mb : Str → Option Value} {k : Nat} {fa a : Addr} {fd : FuncData} {x : Str} {F : Fn} {cs : List (Addr × Addr × Str)} {s₁ : Shared} {vs : List Value} {ns : List Int}
    (KX : K.In s₁.heap) (kt : KT K) (hns : s₁.heap.Ns mainGlobals mg) (hb : s₁.heap.Ns builtinsNs mb) (hbb : ∀ x : Str, x ≠ "__name__" → mb x = bootBuiltins x) (hlim : s₁.heap.NoLimit) (hg : s₁.gens = #[]) (TA : TabsAt K s₁.heap cs)
    (hbm : cs = [] ∨ ∃ (bm : Addr) (ob : Obj), mg "__builtins__" = some (.ref bm) ∧ bm ≠ builtinsNs ∧ s₁.heap.get? bm = some ob ∧ ob.cls = .type "module" ∧ ob.dict = some builtinsNs ∧ ob.data = .plain)
    (ha : s₁.heap.get? a = some { cls := .type "list", data := .seq vs.toArray }) (hi : IntsAre vs ns) (hl : ns.length ≤ sizeLine) (hr : Room k callerA)
    (FF : ∀ base : Heap, K.In base → base.Ns mainGlobals mg → (∀ p ∈ cs, LamX.TabB base mg p.1 p.2.1) → FnG P w K mg base k fa fd [x] (spF (tabT cs) K 1 F)) (hbind : ∀ (s : Shared) (u : Value), BindsTo s fd ⟨[u], []⟩ [(x, u)])
    (hsp : ∀ H : Hp, SqL K H a (ns.map V.int) → spLaw K F [.ref a] H (fun v _ => v = .bl true) fun _ _ _ => False) :
    codeAny (model P w) callerA (.call (.ref fa) ⟨[.ref a], []⟩) (fun r s' => r = .ok (.ret (.bool true)) ∧ OldK s₁.heap s'.heap ∧ s'.os = s₁.os ∧ AllBare s'.gens) s₁ := by
  have rv := vals_ints hi
  have lv := hi.length
  have isT : ∀ {b : Addr}, b ∈ cs.map (fun p => p.2.1) → s₁.heap.get? b = some { cls := .none, data := .fields #[] } := fun {b} z => by
    obtain ⟨p, hp, e⟩ := List.mem_map.mp z
    rw [← e]
    exact TA.at_ p hp
  have naT : a ∉ cs.map fun p => p.2.1 := fun z => by
    have q := isT z
    rw [ha] at q
    cases q
  -- what is tracked: the script (locked) at most, and the tables
  have main : ∀ H : Hp, (∀ b u, H b = some u → (b = a ∧ u = .frz { cls := .type "list", data := .seq vs.toArray } (.lst (ns.map V.int)) ∧ K.lookup a = none) ∨ (b ∈ (cs.map fun p => p.2.1) ∧ u = .tbl #[])) → (∀ p ∈ cs, H p.2.1 = some (.tbl #[])) → SqL K H a (ns.map V.int) →
      codeAny (model P w) callerA (.call (.ref fa) ⟨[.ref a], []⟩) (fun r s' => r = .ok (.ret (.bool true)) ∧ OldK s₁.heap s'.heap ∧ s'.os = s₁.os ∧ AllBare s'.gens) s₁ := by
    intro H hA hTT hS
    have hok : HOk P w H s₁.heap := fun b u q => by
      rcases hA b u q with ⟨rfl, rfl, _⟩ | ⟨z, rfl⟩
      · exact ⟨ha, by rw [List.length_map]; exact hl, vs, _, rv, ha⟩
      · exact isT z
    -- other objects stand in what lies below
    have below : ∀ {b : Addr} {o : Obj}, s₁.heap.get? b = some o → (∀ xs n, o.data ≠ .seq xs n) → o.data ≠ .fields #[] → (hidT s₁.heap H).get? b = some o := fun {b o} e d1 d2 => hidT_get e (by
      cases q : H b with
      | none => rfl
      | some u =>
        rcases hA b u q with ⟨rfl, _, _⟩ | ⟨z, _⟩
        · rw [ha] at e
          cases e
          exact absurd rfl (d1 _ _)
        · rw [isT z] at e
          cases e
          exact absurd rfl d2)
    have nsB : ∀ {b : Addr} {m : Str → Option Value}, s₁.heap.Ns b m → (hidT s₁.heap H).Ns b m := fun {b m} ⟨o, es, ep, e, d, r⟩ => ⟨o, es, ep, below e (fun _ _ z => by rw [d] at z; cases z) (fun z => by rw [d] at z; cases z), d, r⟩
    have KB : K.In (hidT s₁.heap H) := fun b o e => hidT_get (KX b o e) (by
      cases q : H b with
      | none => rfl
      | some u =>
        rcases hA b u q with ⟨rfl, _, n⟩ | ⟨z, _⟩
        · rw [n] at e
          cases e
        · obtain ⟨p, hp, ep⟩ := List.mem_map.mp z
          rw [← ep, TA.out p hp] at e
          cases e)
    have TB : ∀ p ∈ cs, LamX.TabB (hidT s₁.heap H) mg p.1 p.2.1 := fun p hp => by
      have ht := TA.at_ p hp
      constructor
      · have cd := TA.code p hp
        unfold PySem.W.CodeHd at cd ⊢
        obtain ⟨o, us, file, tf, flags, tg, inF, text, tt, e1, r1, r2, r3, more⟩ := cd
        refine ⟨o, us, file, tf, flags, tg, inF, text, tt, below e1 (fun xs n z => ?_) (fun z => ?_), r1, r2, r3, more⟩ <;> (rw [r2] at z; cases z)
        simp at r3
      · rcases hbm with z | ⟨bm, ob, b1, b2, b3, b4, b5, b6⟩
        · rw [z] at hp
          cases hp
        · have q := below b3 (fun xs n z => by rw [b6] at z; cases z) (fun z => by rw [b6] at z; cases z)
          refine ⟨bm, ob, b1, b2, fun z => ?_, fun z => ?_, q, b4, b5, b6⟩
          · obtain ⟨o, es, ep, e, hd, _⟩ := hns
            rw [z, e] at b3
            cases b3
            rw [hd] at b6
            cases b6
          · rw [z, ht] at b3
            cases b3
            cases b6
      · intro z
        obtain ⟨o, es, ep, e, hd, _⟩ := hns
        rw [z, ht] at e
        cases e
        cases hd
    have hM : Mod K mg (hidT s₁.heap H) := by
      obtain ⟨mc, c1, c2⟩ := hlim
      exact ⟨KB, nsB hns, ⟨mb, nsB hb, hbb⟩, ⟨mc, nsB c1, c2⟩⟩
    have e0 : Env0 P w K mg (hidT s₁.heap H) callerA [] s₁ H := ⟨rfl, hM, fun b o e => of_hidT e, Nat.le_of_eq (hidT_size _ _), trivial, fun b z => absurd z (by simp [frs]), hok, .of_eq hg⟩
    have sp0 := law_sp cs TA.nd hTT (fun b e => by cases e; exact naT) (fun b u q => by rcases hA b u q with ⟨_, rfl, _⟩ | ⟨_, rfl⟩ <;> exact trivial) kt (hsp H hS)
    refine codeAny_mono ((FF _ KB (nsB hns) TB).go callerA [] s₁ H ⟨[.ref a], []⟩ [.ref a] [.ref a] _ _ rfl hr e0 (hbind s₁ (.ref a)) (.cons rfl .nil) sp0) fun r s' h => ?_
    cases r with
    | error e => exact (show False from h).elim
    | ok fl =>
      cases fl with
      | next => exact (show False from h).elim
      | brk => exact (show False from h).elim
      | cont => exact (show False from h).elim
      | ret u =>
        obtain ⟨v, H', os, bare, un, hok', r', q⟩ := h
        have q' : v = .bl true := q
        subst q'
        obtain rfl : u = Value.bool true := r'
        have same : ∀ b o, b ∉ (cs.map fun p => p.2.1) → s₁.heap.get? b = some o → s'.heap.get? b = some o := fun b o nb e => by
          cases q : H b with
          | none => exact un.keep b o e q (by simp [frs]) (by simp)
          | some u =>
            rcases hA b u q with ⟨rfl, rfl, _⟩ | ⟨z, _⟩
            · have z := un.frzs b _ _ q
              obtain ⟨e2, _⟩ := hok' b _ z
              rw [ha] at e
              cases e
              exact e2
            · exact absurd z nb
        have more : ∀ p ∈ cs, ∃ ps : Array Value, s'.heap.get? p.2.1 = some { cls := .none, data := .fields ps } := fun p hp => by
          obtain ⟨ps, z⟩ := un.tbls p.2.1 #[] (hTT p hp)
          exact ⟨_, hok' p.2.1 _ z⟩
        refine ⟨rfl, ⟨fun b o e => ?_, fun b o e => ?_⟩, os, bare⟩
        · by_cases nb : b ∈ cs.map fun p => p.2.1
          · obtain ⟨p, hp, rfl⟩ := List.mem_map.mp nb
            obtain ⟨ps, z⟩ := more p hp
            have e' := isT nb
            rw [e] at e'
            cases e'
            refine .inr (.inl ⟨((TA.code p hp).tab (TA.at_ p hp)).isCodeTable, rfl, #[], ps, rfl, ?_⟩)
            rw [Array.empty_append]
            exact z
          · exact .inl (same b o nb e)
        · by_cases nb : b ∈ cs.map fun p => p.2.1
          · obtain ⟨p, hp, rfl⟩ := List.mem_map.mp nb
            obtain ⟨ps, z⟩ := more p hp
            exact ⟨_, z⟩
          · exact ⟨o, same b o nb e⟩
  cases hk : K.lookup a with
  | some o =>
    have e := KX a o hk
    rw [ha] at e
    cases e
    refine main (fun b => if b ∈ (cs.map fun p => p.2.1) then some (.tbl #[]) else none) (fun b u z => ?_) (fun p hp => if_pos (List.mem_map.mpr ⟨p, hp, rfl⟩)) (.inr ⟨_, vs.toArray, _, hk, rfl, rfl, rfl, by rw [List.size_toArray, lv]; exact hl, by simpa using rv⟩)
    split at z
    · cases z
      exact .inr ⟨by assumption, rfl⟩
    · cases z
  | none =>
    refine main (fun b => if b = a then some (.frz { cls := .type "list", data := .seq vs.toArray } (.lst (ns.map V.int))) else if b ∈ (cs.map fun p => p.2.1) then some (.tbl #[]) else none) (fun b u z => ?_) (fun p hp => ?_) (.inl (.inr ⟨_, if_pos rfl⟩))
    · split at z
      · cases z
        exact .inl ⟨by assumption, rfl, hk⟩
      · split at z
        · cases z
          exact .inr ⟨by assumption, rfl⟩
        · cases z
    · have hm : p.2.1 ∈ cs.map fun p => p.2.1 := List.mem_map.mpr ⟨p, hp, rfl⟩
      show (if p.2.1 = a then _ else _) = _
      rw [if_neg (fun z => naT (by rw [← z]; exact hm)), if_pos hm]
/-- the goal that k_head leaves -/
theorem law_end {l : PySem.W.OpenLaw} {k : Nat} {q : Program} {loose : List Str} {XP : (Str → Option Value) → Heap → Prop} {YP : World → Heap → Prop} {d : DefRec} {F : Fn} {x : Str}
    (hn : l.most = some 63) (hdf : d.params.defaults = []) (hr : Room k callerA)
    (hF : ∀ (w : World) (mg : Str → Option Value) (fa : Addr) (h : Heap), YP w h → h.Ns mainGlobals mg → mg d.name = some (.ref fa) →
      ∃ (K : PySem.W.Frag) (fd : FuncData) (cs : List (Addr × Addr × Str)), K.In h ∧ KT K ∧ TabsAt K h cs ∧ (∀ (s : Shared) (u : Value), BindsTo s fd ⟨[u], []⟩ [(x, u)]) ∧ ∀ base : Heap, K.In base → base.Ns mainGlobals mg → (∀ p ∈ cs, LamX.TabB base mg p.1 p.2.1) → FnG l.prog w K mg base k fa fd [x] (spF (tabT cs) K 1 F))
    (law : ∀ ns : List Int, ns.length ≤ 63 → ∃ m, F [.val (.list (ns.map .int))] [] = some (.val (.bool true), m)) :
    PySem.W.WalkO q loose XP YP l.row.toRowW d [] (fun f vs => PySem.call f vs) := by
  refine Att.attach_callB hn hdf fun w s₀ s₁ mg mb fa o pm cd doc a vs ns G Y ho hd hcd hmg hobj hints hlen hbits hg => ?_
  obtain ⟨K, fd, cs, KX, kt, TA, hb, FF⟩ := hF w mg fa _ Y G.T.g hmg
  obtain ⟨bm, ob, b⟩ := G.T.bmain
  exact law_run KX kt G.T.g G.T.b G.T.builtins G.T.nolimit hg TA (.inr ⟨bm, ob, b⟩) hobj hints (Nat.le_trans hlen (by decide)) hr FF hb fun H hS => ⟨a, ns, rfl, hS, hlen, (law ns hlen).choose, (law ns hlen).choose_spec, fun _ => rfl⟩
end Ev

set_option Elab.async false
set_option linter.all false
set_option maxRecDepth 100000
/-! Rules that serve several kinds at once; what the generator writes. -/
namespace Ev
open PySem PySem.Spec PyProof.Rows L2

/-! ### walks over lists or tuples -/
def itAny (f : EF) : IF := fun env m => (f env m).bind fun x => match x.1 with
  | .val (.tuple ds) => iL ds x.2
  | .val (.list ds) => iL ds x.2
  | .ref k => match x.2[k]? with
    | some (.lst ds) => some ((srcR k, ds.length), x.2)
    | _ => none
  | _ => none
def itEnum (f : AF) : IF := fun env m => (f env m).bind fun x => match x.1 with
  | [.val (.tuple ds)] => iL (enumD ds) x.2
  | [.val (.list ds)] => iL (enumD ds) x.2
  | [.ref k] => match x.2[k]? with
    | some (.lst ds) => some ((srcE k, ds.length), x.2)
    | _ => none
  | _ => none
section
variable {X : Cx} {tg e : Expr} {f : EF} {fa : AF} {p pos tpos : Pos} {elts : List Expr} {kk : Nat}
/-- the list's or the tuple's own iterator -/
theorem iter_lt {pins : List (Addr × Obj)} {σ : L2.St} {s : Shared} {H : Hp} {R : It → Hp → Prop} {a : Addr} {xs : List V} (I : Inv X pins σ H s) (h : (SqL X.K H a xs ∧ R (Itl X.K a) H) ∨ (SqT X.K H a xs ∧ R (Itt X.K a) H)) :
    wpAny (model X.prog X.w) X.A (pyIter (.ref a)) (PIE X pins σ tg R) X.xe s := by
  have fp : ∀ b ∈ [s.heap.objs.size], FpOk X pins H b := fun b hb => by
    rw [List.mem_singleton.mp hb]
    exact I.fpOk (Nat.le_refl _) (I.hok.fresh (Nat.le_refl _))
  rcases h with ⟨hq, q⟩ | ⟨hq, q⟩
  · obtain ⟨its, rv, pl, hz⟩ := I.list hq
    exact wpAny_pyIter_list pl.isList ⟨s.heap.objs.size, [s.heap.objs.size], _, _, H, rfl, I.kept (t' := s.toks) fun b o e => Heap.get?_push_of_some _ e, turn_list a _, ⟨_, Heap.get?_push_size _ rfl, rfl, rfl⟩, fp, q⟩
  · obtain ⟨its, rv, pl, hz⟩ := I.tuple hq
    exact iter_tuple pl ⟨s.heap.objs.size, [s.heap.objs.size], _, _, H, rfl, I.kept (t' := s.toks) fun b o e => Heap.get?_push_of_some _ e, turn_tuple a _, ⟨_, Heap.get?_push_size _ rfl, rfl, rfl⟩, fp, q⟩
theorem i_any (he : PE X e (tE ζ X.K f)) : PI X tg e (tI ζ X.K (itAny f)) := ⟨fun pins s σ H R I q => by
  obtain ⟨φ, env, m, src, n, m', S, E, hf, k⟩ := q
  obtain ⟨⟨r, m1⟩, h1, hf⟩ := bind_some_iff hf
  refine thn (he.run pins s σ H (fun v H1 => ∃ a xs, v = .ref a ∧ ((SqL X.K H1 a xs ∧ R (Itl X.K a) H1) ∨ (SqT X.K H1 a xs ∧ R (Itt X.K a) H1))) I ⟨φ, env, m, r, m1, S, E, h1, fun φ1 H1 v g1 S1 R1 => ?_⟩) fun u s1 ⟨v, H1, I1, rv, a, xs, e, q⟩ => ?_
  · cases r with
    | tp j => first | (cases hf; done) | (cases e; done) | (cases h1; done) | (cases h; done) | (cases h7; done) | (cases h2; done)
    | val d =>
      cases d with
      | list ds =>
        cases hf
        have R1' : Dp X.K (off φ1 H1) v (.list ds) := R1
        cases R1' with
        | lst hs ha => exact ⟨_, _, rfl, .inl ⟨off_same.seq hs, k φ1 H1 _ g1 S1 (jok_list hs ha)⟩⟩
      | tuple ds =>
        cases hf
        have R1' : Dp X.K (off φ1 H1) v (.tuple ds) := R1
        cases R1' with
        | tup hs ha => exact ⟨_, _, rfl, .inr ⟨sqT_mono off_same hs, k φ1 H1 _ g1 S1 (jok_tup hs ha)⟩⟩
      | _ => cases hf
    | ref j =>
      simp only at hf
      split at hf
      · rename_i ds hm
        cases hf
        obtain ⟨ad, e1, e2⟩ := R1
        obtain ⟨xs, h3, h4⟩ := S1.obj j _ ad hm e2
        exact ⟨ad, xs, e1, .inl ⟨.inl (.inl h3), k φ1 H1 _ g1 S1 (jok_live e2)⟩⟩
      · cases hf
  · subst e
    cases rv
    exact iter_lt I1 q⟩
theorem i_enum (hg : Gl X "enumerate") (hm : X.mg "enumerate" = none) (ha : PA X [e] (tA ζ X.K fa)) (hs : starEach [e] X.env = [(false, eval e X.env)] := by rfl) : PI X (.Tuple elts kk tpos) (.Call (.Name "enumerate" p) [e] [] pos) (tI ζ X.K (itEnum fa)) := ⟨fun pins s σ H R I q => by
  obtain ⟨φ, env, m, src, n, m', S, E, hf, k⟩ := q
  obtain ⟨⟨rs, m1⟩, h1, hf⟩ := bind_some_iff hf
  by_cases ht : ∃ ds, rs = [.val (.tuple ds)]
  · obtain ⟨ds, rfl⟩ := ht
    cases hf
    exact (i_enumT hg hm ha hs).run pins s σ H R I ⟨φ, env, m, _, _, m1, S, E, by unfold itEnumT; rw [h1]; rfl, k⟩
  · refine (i_enumL hg hm ha hs).run pins s σ H R I ⟨φ, env, m, src, n, m', S, E, ?_, k⟩
    unfold itEnumL
    rw [h1]
    simp only [Option.bind_some]
    simp only at hf
    split at hf
    · exact absurd ⟨_, rfl⟩ ht
    · exact hf
    · exact hf
    · cases hf⟩
/-- xs[lo:hi], of a list or a tuple -/
def eSl (f : EF) (l h : OF) : EF := fun env m => (f env m).bind fun x => (l env x.2).bind fun y => (h env y.2).bind fun z => match x.1 with
  | .val (.tuple ds) => some (.val (.tuple (cutD ds y.1 z.1)), z.2)
  | r => (asL r z.2).bind fun ds => some (.val (.list (cutD ds y.1 z.1)), z.2)
theorem x_sl {a : Expr} {lo hi : Option Expr} {fl fh : OF} {p2 : Pos} (ha : PE X a (tE ζ X.K f)) (hl : PO X lo (tO' ζ X.K fl)) (hh : PO X hi (tO' ζ X.K fh)) : PE X (.Subscript a (.Slice lo hi none p2) pos) (tE ζ X.K (eSl f fl fh)) := ⟨fun pins s σ H Q I q => by
  obtain ⟨φ, env, m, r, m', S, E, hf, k⟩ := q
  obtain ⟨⟨r1, m1⟩, h1, hf⟩ := bind_some_iff hf
  obtain ⟨⟨o1, m2⟩, h2, hf⟩ := bind_some_iff hf
  obtain ⟨⟨o2, m3⟩, h3, hf⟩ := bind_some_iff hf
  by_cases ht : ∃ ds, r1 = .val (.tuple ds)
  · obtain ⟨ds, rfl⟩ := ht
    exact (x_slT ha hl hh).run pins s σ H Q I ⟨φ, env, m, r, m', S, E, by unfold eSlT; rw [h1]; simp only [Option.bind_some]; rw [h2]; simp only [Option.bind_some]; rw [h3]; exact hf, k⟩
  · simp only at hf
    split at hf
    · exact absurd ⟨_, rfl⟩ ht
    · exact (x_ofN (n_slL ha hl hh)).run pins s σ H Q I ⟨φ, env, m, r, m', S, E, by
        unfold eL nSlL
        rw [h1]
        simp only [Option.bind_some]
        rw [h2]
        simp only [Option.bind_some]
        rw [h3]
        simp only [Option.bind_some]
        obtain ⟨ds, h4, hf⟩ := bind_some_iff hf
        rw [h4]
        exact hf, k⟩⟩
/-- + of ints, tuples, lists -/
def pCatLf (a b : R) (m : M) : Option (R × M) := (asL a m).bind fun xs => (asL b m).bind fun ys => if xs.length + ys.length ≤ sizeLine then some (.val (.list (xs ++ ys)), m) else none
def pPlus : R → R → M → Option (R × M) := pOr pAddN pCatLf
theorem o_catLf : OpR X (binaryOp .Add) (r2P ζ X.K pCatLf) := by
  intro pins s σ H x y v u Q I rx ry q
  obtain ⟨φ, m, r1, r2, r, m', S, R1, R2, hf, k⟩ := q
  obtain ⟨xs, h1, hf⟩ := bind_some_iff hf
  obtain ⟨ys, h2, hf⟩ := bind_some_iff hf
  split at hf
  · rename_i hl
    cases hf
    exact o_catL pins s σ H x y v u Q I rx ry ⟨φ, m, r1, r2, xs, ys, S, R1, R2, h1, h2, hl, fun p vs hp hd => k φ _ _ (gr_alloc hp) (S.alloc hp) (rr_newL S hp hd)⟩
  · cases hf
theorem o_plus : OpR X (binaryOp .Add) (r2P ζ X.K pPlus) := o_or o_add o_catLf
/-- a name of the module -/
theorem x_glob {x : Str} {d : D} {v : V} {u : Value} (hg : Gl X x) (hm : X.mg x = some u) (r : RelV v u) (hv : ∀ H, Dp X.K H v d) (hd : (x == ("__debug__" : Str)) = false := by decide) : PE X (.Name x pos) (tE ζ X.K (eC d)) := x_c (pe_glob hg hm r hd) hv
theorem x_globI {x : Str} {i : Int} (hg : Gl X x) (hm : ∃ t, X.mg x = some (.int i t)) (hd : (x == ("__debug__" : Str)) = false := by decide) : PE X (.Name x pos) (tE ζ X.K (eC (.int i))) := by
  obtain ⟨t, hm⟩ := hm
  exact x_glob (v := .int i) hg hm ⟨t, rfl⟩ (fun _ => .int i) hd
/-! patterns -/
theorem p_name {i : Nat} {x : Str} (hN : X.N.Nodup) (hi : X.N[i]? = some x) (hx : Loc X.env.scope x) (hf : X.fn x = true ∨ X.env.scope.names.lookup x = some .local := by first | exact .inl rfl | exact .inr rfl | assumption) : PG X (.Name x pos) (gPat ζ X.K (.nm i)) := by
  rw [gPat]
  exact pg_name hN hi hx hf
theorem p_nil : PGs X [] (gPats ζ X.K .nil) := by
  rw [gPats]
  exact pgs_nil
theorem p_cons {es : List Expr} {q : Pat} {qs : Pats} (h1 : PG X e (gPat ζ X.K q)) (h2 : PGs X es (gPats ζ X.K qs)) (hs : (assignEach (e :: es) X.env).map (·.2) = assign e X.env :: (assignEach es X.env).map (·.2) := by rfl) : PGs X (e :: es) (gPats ζ X.K (.cons q qs)) := by
  rw [gPats]
  exact pgs_cons h1 h2 hs
theorem p_tup {es : List Expr} {k : Nat} {qs : Pats} (hc : X.calm = true) (h : PGs X es (gPats ζ X.K qs)) (hn : (assignEach es X.env).length = qs.len := by rfl) (hst : (assignEach es X.env).findIdx? (·.1) = none := by rfl) : PG X (.Tuple es k pos) (gPat ζ X.K (.tp qs)) := by
  rw [gPat]
  exact pg_tup hc h hn hst
/-! a, b, .. = x, y, .. by a tuple that is laid and taken apart -/
def setAll : List Nat → List R → Sl → Option Sl
  | [], [], env => some env
  | i :: is, r :: rs, env => setAll is rs (env.set i (some r))
  | _, _, _ => none
def sParG (is : List Nat) (f : AF) : SF := fun env m => (f env m).bind fun x => if x.1.length ≤ sizeLine then (setAll is x.1 env).bind fun e => some (.nx e x.2) else none
def gNames (is : List Nat) : TGs := match is with
  | [] => gNil
  | i :: is => gCons (gName i) (gNames is)
theorem gn_nil : PGs X [] (gNames []) := pgs_nil
theorem gn_cons {i : Nat} {is : List Nat} {x : Str} {es : List Expr} (hN : X.N.Nodup) (hi : X.N[i]? = some x) (hx : Loc X.env.scope x) (h : PGs X es (gNames is)) (hs : (assignEach (.Name x pos :: es) X.env).map (·.2) = assign (.Name x pos) X.env :: (assignEach es X.env).map (·.2) := by rfl)
    (hf : X.fn x = true ∨ X.env.scope.names.lookup x = some .local := by first | exact .inl rfl | exact .inr rfl | assumption) : PGs X (.Name x pos :: es) (gNames (i :: is)) := pgs_cons (pg_name hN hi hx hf) h hs
theorem gn_ok {K : PySem.W.Frag} {φ : Ad} {H : Hp} : ∀ {is : List Nat} {rs : List R} {vs : List V} {σ : L2.St} {env env' : Sl} {Q : L2.St → Hp → Prop}, ER K φ H σ env → RRs K φ H vs rs → setAll is rs env = some env' → (∀ σ', ER K φ H σ' env' → Q σ' H) → gNames is vs σ H Q
  | [], [], _, _, _, _, _, E, R, e, q => by
    cases e
    cases R
    exact ⟨rfl, q _ E⟩
  | i :: is, r :: rs, _, _, _, _, _, E, R, e, q => by
    cases R with
    | cons a t => exact ⟨_, _, rfl, gn_ok (E.set a i) t e q⟩
  | [], _ :: _, _, _, _, _, _, _, _, e, _ => by cases e
  | _ :: _, [], _, _, _, _, _, _, _, e, _ => by cases e
theorem s_parG {is : List Nat} {es ts : List Expr} {kt k2 : Nat} {pt pt2 : Pos} (hc : X.calm = true) (ha : PA X es (tA ζ X.K fa)) (hg : PGs X ts (gNames is)) (hn : (assignEach ts X.env).length = is.length := by rfl) (hst : (assignEach ts X.env).findIdx? (·.1) = none := by rfl)
    (hs : swapsWithSole [.Tuple ts kt pt] (.Tuple es k2 pt2) pos.line X.env = pure false := by rfl) (hw : swappedStores [.Tuple ts kt pt] (.Tuple es k2 pt2) X.env = pure none := by rfl) (h1 : (assignEach [.Tuple ts kt pt] X.env).map (·.2) = [assign (.Tuple ts kt pt) X.env] := by rfl) :
    PS X (.Assign [.Tuple ts kt pt] (.Tuple es k2 pt2) pos) (tS ζ X.K (sParG is fa)) := ps_imp (ps_asg (pe_tupF ha) (pg_tup hc hg hn hst) hs hw h1) fun W σ H q => by
  obtain ⟨φ, env, m, fl, S, E, hf, k⟩ := q
  obtain ⟨⟨rs, m1⟩, h1, hf⟩ := bind_some_iff hf
  split at hf
  · rename_i hl
    obtain ⟨e1, h2, hf⟩ := bind_some_iff hf
    cases hf
    refine ⟨φ, env, m, rs, m1, S, E, h1, fun φ1 H1 vs g1 S1 R1 => ⟨by rw [Paired.len R1]; exact hl, fun p o hp ho => ?_⟩⟩
    have g2 := g1.trans (gr_alloc (o := .frz o (.tup vs)) hp)
    have hlen : rs.length = is.length := len_setAll h2
    exact ⟨p, vs, rfl, .inl (.inr ⟨o, upd_same⟩), by rw [Paired.len R1]; exact hlen, gn_ok (E.mono g2) (RRs.mono (gr_alloc (o := .frz o (.tup vs)) hp) R1) h2 fun σ' E' => k φ1 σ' _ g2 (S1.alloc hp ho) E'⟩
  · cases hf
where
  len_setAll : ∀ {is : List Nat} {rs : List R} {env env' : Sl}, setAll is rs env = some env' → rs.length = is.length
    | [], [], _, _, _ => rfl
    | i :: is, r :: rs, _, _, e => by
      rw [List.length_cons, List.length_cons, len_setAll (is := is) (rs := rs) e]
    | [], _ :: _, _, _, e => by cases e
    | _ :: _, [], _, _, e => by cases e
/-! tuple * int, at least two -/
def pRepT (a b : R) (m : M) : Option (R × M) := match a with
  | .val (.tuple ds) => (asI b).bind fun k => if ds ≠ [] ∧ 2 ≤ k ∧ k ≤ 1000 ∧ ds.length ≤ 1000 then some (.val (.tuple (List.replicate k.toNat ds).flatten), m) else none
  | _ => none
theorem o_repT : OpR X (binaryOp .Mult) (r2P ζ X.K pRepT) := by
  intro pins s σ H x y v u Q I rx ry q
  obtain ⟨φ, m, r1, r2, r, m', S, R1, R2, hf, k⟩ := q
  unfold pRepT at hf
  split at hf
  · rename_i ds
    obtain ⟨n, h2, hf⟩ := bind_some_iff hf
    split at hf
    · rename_i hc
      cases hf
      have e2 := asI_some h2
      subst e2
      obtain ⟨a, xs, rfl, hs, hd⟩ := seqT_of R1
      have hn := DpAll.len hd
      have hne : xs ≠ [] := fun z => hc.1 (List.length_eq_zero_iff.mp (by rw [← hn, z]; rfl))
      exact op_repF pins s σ H _ _ v u Q I rx ry ⟨a, n, xs, rfl, rr_int R2, hs, hne, hc.2.1, hc.2.2.1, by rw [hn]; exact hc.2.2.2, fun p o hp ho => k φ _ _ (gr_alloc hp) (S.alloc hp ho) (rr_newT S hp (DpAll.rep hd _))⟩
    · cases hf
  · cases hf
end
/-! how many arguments -/
theorem la_nil : ∀ env m rs m', aNil env m = some (rs, m') → rs.length = 0 := fun env m rs m' h => by
  cases h
  rfl
theorem la_cons {f : EF} {g : AF} {n : Nat} (h : ∀ env m rs m', g env m = some (rs, m') → rs.length = n) : ∀ env m rs m', aCons f g env m = some (rs, m') → rs.length = n + 1 := fun env m rs m' e => by
  obtain ⟨⟨r1, m1⟩, h1, e⟩ := bind_some_iff e
  obtain ⟨⟨r2, m2⟩, h2, e⟩ := bind_some_iff e
  cases e
  rw [List.length_cons, h _ _ _ _ h2]
end Ev

set_option Elab.async false
set_option linter.all false
set_option maxRecDepth 100000
/-! xs[::-1]; what a def of the module is to its callers. -/
namespace Ev
open PySem PySem.Spec PyProof.Rows L2

section
variable {prog : Program} {w : World} {A : Around} {E : Value → Shared → Prop} {s : Shared}
theorem pick_back (xs : Array Value) : ((List.range xs.size).filterMap fun (m : Nat) => xs[(((xs.size : Int) - 1) + (m : Int) * (-1)).toNat]?).toArray = xs.toList.reverse.toArray := by
  have e : ((List.range xs.size).filterMap fun (m : Nat) => xs[(((xs.size : Int) - 1) + (m : Int) * (-1)).toNat]?) = (List.range xs.size).filterMap fun m => xs.toList.reverse[m]? := by
    have cg : ∀ (l : List Nat) (f g : Nat → Option Value), (∀ m ∈ l, f m = g m) → l.filterMap f = l.filterMap g := by
      intro l f g h
      induction l with
      | nil => rfl
      | cons a l ih => rw [List.filterMap_cons, List.filterMap_cons, h a List.mem_cons_self, ih fun m hm => h m (List.mem_cons_of_mem _ hm)]
    refine cg _ _ _ fun m hm => ?_
    have h := List.mem_range.mp hm
    rw [show (((xs.size : Int) - 1) + (m : Int) * (-1)).toNat = xs.size - 1 - m by omega, List.getElem?_reverse (by rw [Array.length_toList]; exact h), Array.length_toList, Array.getElem?_toList]
  rw [e]
  have h2 : xs.size = xs.toList.reverse.length := by simp
  rw [h2]
  congr 1
  have key : ∀ l : List Value, (List.range l.length).filterMap (fun m => l[m]?) = l := by
    intro l
    induction l with
    | nil => rfl
    | cons a l ih =>
      rw [List.length_cons, List.range_succ_eq_map, List.filterMap_cons]
      simp only [List.getElem?_cons_zero, List.filterMap_map]
      congr 1
  exact key _
theorem getItem_tuple_back {t sl : Addr} {items : Array Value} {vl vu vs : Value} {Q : Value → Shared → Prop} (ht : IsTup s.heap t items) (hs : s.heap.IsSliceOf sl vl vu vs) (pl : IsPart vl none) (pu : IsPart vu none) (ps : IsPart vs (some (-1)))
    (h : Q (.ref s.heap.objs.size) { s with heap := s.heap.push { cls := .type "tuple", data := .seq items.toList.reverse.toArray } })
    (hsz : items.size ≤ sizeLine) : wpAny (model prog w) A (getItem (.ref t) (.ref sl)) Q E s := by
  have htake : sizeOk (.seq items.toList.reverse.toArray) := by
    show items.toList.reverse.toArray.size ≤ sizeLine
    simp
    exact hsz
  obtain ⟨os, hos, hcs, hds⟩ := id hs
  have hTs : s.TypeIs (.ref sl) "slice" := ⟨os, hos, hcs⟩
  unfold getItem
  try with_reducible refine wpAny_holding ?_
  first | refine wpAny_bind (wpAny_pure ?_) | skip
  refine wpAny_bind (wpAny_sequenceKey ht.typeIs (by decide) ?_)
  refine wpAny_bind (wpAny_callSpecial?_slot (name := Str.ofString "__getitem__") ht.typeIs PyProof.Rows.slot_tuple_getitem
    (wpAny_call_entry PyProof.Rows.slot_tuple_getitem ht.typeIs entry_tuple_getitem ?_ (args_tuple_getitem _ _)))
  show wpAny _ _ (Builtin.Tuple.tupleItemsOf (.ref t) >>= _) _ _ s
  refine wpAny_bind (PyProof.Rows.tupleItemsOf_ ht ?_)
  refine wpAny_bind (wpAny_typeOf hTs ?_)
  rw [if_pos (by decide)]
  have places : Builtin.Slice.slicePlaces ((items.size : Int) - 1) (-1) (-1) = items.size := by
    unfold Builtin.Slice.slicePlaces
    have h1 : ¬ ((-1 : Int) > 0) := by decide
    simp only [h1, if_false, Int.neg_neg, Int.ediv_one]
    split <;> omega
  refine wpAny_bind ?_
  · unfold Builtin.Slice.sliceApplied Builtin.Slice.sliceFields
    refine wpAny_bind (wpAny_bind (wpAny_field hos hds (x := vl) rfl (wpAny_bind (wpAny_field hos hds (x := vu) rfl (wpAny_bind (wpAny_field hos hds (x := vs) rfl (wpAny_pure ?_)))))))
    refine wpAny_bind (HT.slicePart_ ps ?_)
    show wpAny _ _ (if ((-1 : Int) == 0) = true then _ else _) _ _ s
    rw [if_neg (by decide)]
    refine wpAny_bind (HT.slicePart_ pl (wpAny_bind (HT.slicePart_ pu (wpAny_bind (wpAny_pure ?_)))))
    show wpAny _ _ (pure (((items.size : Int) - 1), (-1 : Int), Builtin.Slice.slicePlaces ((items.size : Int) - 1) (-1) (-1))) _ _ s
    rw [places]
    refine wpAny_pure ?_
    have hno : ¬ (((((items.size : Int) - 1)) == 0 && (-1 : Int) == 1 && items.size == items.size) = true) := by
      intro q
      rw [Bool.and_eq_true, Bool.and_eq_true] at q
      exact absurd q.1.2 (by decide)
    show wpAny _ _ (if ((((items.size : Int) - 1)) == 0 && (-1 : Int) == 1 && items.size == items.size) = true then _ else _) _ _ s
    rw [if_neg hno, pick_back]
    first
      | exact wpAny_bind (m := Builtin.Tuple.tupleExact _) (wpAny_newObj_type (wpAny_pure ⟨_, rfl, wpAny_pure h⟩) htake)
      | exact wpAny_bind (m := Builtin.Tuple.tupleExact _) (wpAny_newObj_type (wpAny_bind (wpAny_pure (wpAny_pure ⟨_, rfl, wpAny_pure h⟩))) htake)
      | exact wpAny_bind (wpAny_bind (m := Builtin.Tuple.tupleExact _) (wpAny_newObj_type (wpAny_pure (wpAny_pure ⟨_, rfl, wpAny_pure h⟩)) htake))
      | exact wpAny_bind (wpAny_bind (m := Builtin.Tuple.tupleExact _) (wpAny_newObj_type (wpAny_pure ⟨_, rfl, wpAny_pure h⟩) htake))
end
def tRevT (K : PySem.W.Frag) (te : TE) : TE := fun σ H Q => te σ H fun x H1 => ∃ a xs, x = .ref a ∧ SqT K H1 a xs ∧ NewT H1 xs.reverse Q
section
variable {X : Cx}
theorem pe_revT {e : Expr} {te : TE} {k : Nat} {p1 p2 p3 pos : Pos} (he : PE X e te) : PE X (.Subscript e (.Slice none none (some (.UnaryOp .USub (.Constant (.int 1) k p1) p2)) p3) pos) (tRevT X.K te) := by
  refine ⟨fun pins s σ H Q I h => ?_⟩
  refine Subscript_ (thn (he.run pins s σ H _ I h) fun v s1 ⟨x, H1, I1, r1, q1⟩ => ?_)
  obtain ⟨a, xs, ex, hx, q⟩ := q1
  subst ex
  cases r1
  have hst : PO X (some (.UnaryOp .USub (.Constant (.int 1) k p1) p2)) (tPart (tUn (rU fun i => .int (-i)) (tC (.int 1)))) := po_some (pe_un un_neg pe_int)
  refine wpAny_Slice (thn (po_none.run pins s1 σ H1 (fun o H2 => o = none ∧ H2 = H1) I1 ⟨rfl, rfl⟩) fun vl s2 ⟨l, H2, I2, pl, el, e2⟩ => ?_)
  subst el e2
  refine thn (po_none.run pins s2 σ H2 (fun o H3 => o = none ∧ H3 = H2) I2 ⟨rfl, rfl⟩) fun vu s3 ⟨u, H3, I3, pu, eu, e3⟩ => ?_
  subst eu e3
  refine thn (hst.run pins s3 σ H3 (fun o H4 => o = some (-1) ∧ H4 = H3) I3 ⟨1, rfl, -1, rfl, rfl, rfl⟩) fun vs s4 ⟨o, H4, I4, ps, eo, e4⟩ => ?_
  subst eo e4
  have I5 : Inv X pins σ H4 { s4 with heap := s4.heap.push { cls := .type "slice", data := .fields #[vl, vu, vs] } } := I4.kept (t' := s4.toks) fun b ob q => Heap.get?_push_of_some _ q
  obtain ⟨its, r, ht, hz⟩ := I5.tuple hx
  have hlen := r.length
  show wpAny (model X.prog X.w) X.A (subscriptTail e (.Slice none none (some (.UnaryOp .USub (.Constant (.int 1) k p1) p2)) p3) (.ref a) (.ref s4.heap.objs.size)) (EP X pins σ Q) X.xe { s4 with heap := s4.heap.push { cls := .type "slice", data := .fields #[vl, vu, vs] } }
  refine tail_any (ops := [.ref a, .ref s4.heap.objs.size]) ht.typeIs (PyProof.Rows.slot_tuple_getitem.lookup) ?_ (by with_unfolding_all rfl)
  refine getItem_tuple_back ht (Heap.IsSliceOf.new _ vl vu vs) pl pu ps ?_ (by rw [List.size_toArray]; omega)
  exact newT_push (t' := s4.toks) I5 (by rw [List.length_reverse]; exact hz) r.reverse q
theorem DpAll.rev {K : PySem.W.Frag} {H : Hp} : ∀ {ds : List D} {vs : List V}, DpAll K H vs ds → DpAll K H vs.reverse ds.reverse
  | [], [], _ => .nil
  | _ :: _, _ :: _, .cons a t => by
    rw [List.reverse_cons, List.reverse_cons]
    exact DpAll.append (DpAll.rev t) (.cons a .nil)
/-- xs[::-1] -/
def eRev (f : EF) : EF := fun env m => (f env m).bind fun x => match x.1 with
  | .val (.tuple ds) => some (.val (.tuple ds.reverse), x.2)
  | r => (asL r x.2).bind fun ds => some (.val (.list ds.reverse), x.2)
theorem x_rev {a : Expr} {f : EF} {k : Nat} {p1 p2 p3 pos : Pos} (ha : PE X a (tE ζ X.K f)) : PE X (.Subscript a (.Slice none none (some (.UnaryOp .USub (.Constant (.int 1) k p1) p2)) p3) pos) (tE ζ X.K (eRev f)) := ⟨fun pins s σ H Q I q => by
  obtain ⟨φ, env, m, r, m', S, E, hf, k⟩ := q
  obtain ⟨⟨r1, m1⟩, h1, hf⟩ := bind_some_iff hf
  by_cases ht : ∃ ds, r1 = .val (.tuple ds)
  · obtain ⟨ds, rfl⟩ := ht
    cases hf
    exact (pe_revT ha).run pins s σ H Q I ⟨φ, env, m, _, _, S, E, h1, fun φ1 H1 v g1 S1 R1 => by
      obtain ⟨a, xs, rfl, hs, hd⟩ := seqT_of R1
      exact ⟨a, xs, rfl, hs, fun p o hp ho => k φ1 _ _ (g1.trans (gr_alloc hp)) (S1.alloc hp ho) (rr_newT S1 hp (DpAll.rev hd))⟩⟩
  · simp only at hf
    split at hf
    · exact absurd ⟨_, rfl⟩ ht
    · obtain ⟨ds, h4, hf⟩ := bind_some_iff hf
      cases hf
      exact (pe_revL ha).run pins s σ H Q I ⟨φ, env, m, _, _, S, E, h1, fun φ1 H1 v g1 S1 R1 => by
        obtain ⟨a, xs, rfl, hs, hd⟩ := seqL_of S1 R1 h4
        exact ⟨a, xs, rfl, hs, fun p hp => k φ1 _ _ (g1.trans (gr_alloc hp)) (S1.alloc hp) (rr_newL S1 hp (DpAll.rev hd))⟩⟩⟩
end

/-! ### a def of the module -/
def HasDef (K : PySem.W.Frag) (mg : Str → Option Value) (x nm : Str) (st : Stmt) (ps : List Str) : Prop := ∃ f fd, mg x = some (.ref f) ∧ Fun K nm nm st f fd ∧ ∀ us : List Value, us.length = ps.length → bindArgs fd ⟨us, []⟩ = pure (ps.zip us)
def Okd (ζ : Tbs) (P : Program) (w : World) (K : PySem.W.Frag) (mg : Str → Option Value) (base : Heap) (k : Nat) (x : Str) (ps : List Str) (F : Fn) : Prop :=
  ∃ f fd, mg x = some (.ref f) ∧ PySem.W.keepIn K (.ref f) = true ∧ (∃ oc od osl, K.lookup f = some ⟨oc, od, .func fd, osl⟩) ∧ (∀ us : List Value, us.length = ps.length → bindArgs fd ⟨us, []⟩ = pure (ps.zip us)) ∧ FnG P w K mg base k f fd ps (spF ζ K ps.length F)
section
variable {P : Program} {w : World} {K : PySem.W.Frag} {mg : Str → Option Value} {base : Heap}
theorem hasDef {x nm : Str} {st : Stmt} {ps : List Str} {h : Heap} {f : Addr} {oc : Value} {od an : Option Addr} {osl : Array (Option Value)} {kV doc pm cdv ct : Value} (X : K.In h) (G : h.Ns mainGlobals mg)
    (b : ∀ (kV doc pm : Value) (an : Option Addr) (cdv ct : Value) (us : List Value), us.length = ps.length → bindArgs (PySem.W.fnOf nm nm (defArgs st) (defBody st) (defScope st) .none kV doc pm an cdv ct) ⟨us, []⟩ = pure (ps.zip us))
    (a : PySem.W.nsIn K mainGlobals x = some (some (.ref f))) (l : K.lookup f = some ⟨oc, od, .func (PySem.W.fnOf nm nm (defArgs st) (defBody st) (defScope st) .none kV doc pm an cdv ct), osl⟩)
    (c : PySem.W.codeIn K cdv nm = true) (k : PySem.W.keepIn K (.ref f) = true) : HasDef K mg x nm st ps :=
  ⟨f, _, PySem.W.mg_of X G a, fun_mk l c k, b _ _ _ _ _ _⟩
theorem okd_of {x nm : Str} {st : Stmt} {ps : List Str} {k : Nat} {Fm : Fn} (D : HasDef K mg x nm st ps) (h : ∀ f fd, Fun K nm nm st f fd → FnG P w K mg base k f fd ps (spF ζ K ps.length Fm)) : Okd ζ P w K mg base k x ps Fm := by
  obtain ⟨f, fd, hm, F, hB⟩ := D
  obtain ⟨oc, od, kV, doc, pm, an, cdv, ct, osl, e, l, c⟩ := F.ex
  exact ⟨f, fd, hm, F.kp, ⟨oc, od, osl, l⟩, hB, h f fd F⟩
theorem okd {x nm : Str} {st : Stmt} {N ps : List Str} {k n : Nat} {body : SF} (D : HasDef K mg x nm st ps) (S : FnScope N ps (defScope st)) (hn : N.length = n)
    (hb : ∀ f cdv A outer s H E, A.guards = some [] → Room k (A.deeper (envOfC nm (defScope st) s.heap.objs.size f cdv)) → PSs (Cf P w K mg base N nm st f cdv A outer s H E) (defBody st) (tS ζ K body)) : Okd ζ P w K mg base (k + 1) x ps (bodyF n body) :=
  okd_of D fun f fd F => fnF F S hn fun cdv A outer s H E _ => hb f cdv A outer s H E
theorem okdK {x nm : Str} {st : Stmt} {N ps : List Str} {k n : Nat} {body : SF} (D : HasDef K mg x nm st ps) (S : FnScope N ps (defScope st)) (hn : N.length = n)
    (hb : ∀ f cdv A outer s H E, A.guards = some [] → Room k (A.deeper (envOfC nm (defScope st) s.heap.objs.size f cdv)) → PSs (Cf P w K mg base N nm st f cdv A outer s H E) (defBody st) (tS ζ K body)) : Okd ζ P w K mg base (k + 1) x ps (bodyK n body) :=
  okd_of D fun f fd F => fnK F S hn fun cdv A outer s H E _ => hb f cdv A outer s H E
theorem endO {x nm : Str} {st : Stmt} {p : Str} {k : Nat} {Fm : Fn} {fa : Addr} {h : Heap} {cs : List (Addr × Addr × Str)} (X : K.In h) (kt : KT K) (D : HasDef K mg x nm st [p]) (TA : TabsAt K h cs) (O : ∀ base : Heap, (∀ p ∈ cs, LamX.TabB base mg p.1 p.2.1) → Okd (tabT cs) P w K mg base k x [p] Fm) (hmg : mg x = some (.ref fa)) :
    ∃ (K : PySem.W.Frag) (fd : FuncData) (cs : List (Addr × Addr × Str)), K.In h ∧ KT K ∧ TabsAt K h cs ∧ (∀ (s : Shared) (u : Value), BindsTo s fd ⟨[u], []⟩ [(p, u)]) ∧ ∀ base : Heap, K.In base → base.Ns mainGlobals mg → (∀ p ∈ cs, LamX.TabB base mg p.1 p.2.1) → FnG P w K mg base k fa fd [p] (spF (tabT cs) K 1 Fm) := by
  obtain ⟨f, fd, hm, F, hB⟩ := D
  obtain ⟨oc, od, kV, doc, pm, an, cdv, ct, osl, e, l, c⟩ := F.ex
  rw [hm] at hmg
  cases hmg
  refine ⟨K, fd, cs, X, kt, TA, fun s u => .of_eq (hB [u] rfl), fun base _ _ TB => ?_⟩
  obtain ⟨f2, fd2, hm2, _, ⟨oc2, od2, osl2, l2⟩, _, G⟩ := O base TB
  rw [hm] at hm2
  cases hm2
  rw [l] at l2
  cases l2
  exact G
end
theorem x_callO {X : Cx} {k : Nat} {ps : List Str} {x : Str} {p pos : Pos} {e : Expr} {es : List Expr} {fa : AF} {F : Fn} (O : Okd ζ X.prog X.w X.K X.mg X.base k x ps F) (hr : Room k X.A) (hgd : X.A.guards = some []) (hg : Gl X x)
    (ha : PA X (e :: es) (tA ζ X.K fa)) (hl : ∀ env m rs m', fa env m = some (rs, m') → rs.length = ps.length) (hdb : (x == ("__debug__" : Str)) = false := by decide) (he : starEach (e :: es) X.env = (false, eval e X.env) :: starEach es X.env := by rfl) (hpl : (backTo pos (starEach es X.env)).any (·.1) = false := by rfl) :
    PE X (.Call (.Name x p) (e :: es) [] pos) (tE ζ X.K (eAp F fa)) := by
  obtain ⟨f, fd, hm, hk, _, hB, G⟩ := O
  exact x_call G hr hgd hg hm hk (.all hB) rfl ha hl hdb he hpl
/-- .. whose code object is known (it makes lambdas) -/
def HasCode (K : PySem.W.Frag) (mg : Str → Option Value) (x nm : Str) (st : Stmt) (ps : List Str) (c : Addr) : Prop := ∃ f fd, mg x = some (.ref f) ∧ Fun K nm nm st f fd ∧ fd.code = .ref c ∧ ∀ us : List Value, us.length = ps.length → bindArgs fd ⟨us, []⟩ = pure (ps.zip us)
section
variable {P : Program} {w : World} {K : PySem.W.Frag} {mg : Str → Option Value} {base : Heap}
theorem HasCode.def_ {x nm : Str} {st : Stmt} {ps : List Str} {c : Addr} (D : HasCode K mg x nm st ps c) : HasDef K mg x nm st ps := by
  obtain ⟨f, fd, a, b, _, e⟩ := D
  exact ⟨f, fd, a, b, e⟩
theorem okdC {x nm : Str} {st : Stmt} {N ps : List Str} {k n : Nat} {body : SF} {c : Addr} (D : HasCode K mg x nm st ps c) (S : FnScope N ps (defScope st)) (hn : N.length = n)
    (hb : ∀ f A outer s H E, A.guards = some [] → Room k (A.deeper (envOfC nm (defScope st) s.heap.objs.size f (.ref c))) → PSs (Cf P w K mg base N nm st f (.ref c) A outer s H E) (defBody st) (tS ζ K body)) : Okd ζ P w K mg base (k + 1) x ps (bodyF n body) := by
  obtain ⟨f, fd, hm, F, hc, hB⟩ := D
  obtain ⟨oc, od, kV, doc, pm, an, cdv, ct, osl, e, l, cd⟩ := F.ex
  exact ⟨f, fd, hm, F.kp, ⟨oc, od, osl, l⟩, hB, fnF F S hn fun cdv A outer s H E e2 hg hr => by
    have e3 : cdv = .ref c := e2.symm.trans hc
    subst e3
    exact hb f A outer s H E hg hr⟩
end
/-! ### the known part of the heap, tables left out -/
def cutK (K : PySem.W.Frag) (ts : List Addr) : PySem.W.Frag := K.filter fun q => !ts.contains q.1
theorem cutK_out {ts : List Addr} {a : Addr} (h : ts.contains a = false) : ∀ {K : PySem.W.Frag}, (cutK K ts).lookup a = K.lookup a
  | [] => rfl
  | (b, o) :: K => by
    have ih := cutK_out h (K := K)
    unfold cutK at ih ⊢
    rw [List.filter_cons, List.lookup_cons]
    by_cases hb : ts.contains b = true
    · have nab : (a == b) = false := beq_eq_false_iff_ne.mpr fun z => by
        rw [z, hb] at h
        cases h
      simp only [hb, Bool.not_true, Bool.false_eq_true, if_false, nab]
      exact ih
    · have hb' : ts.contains b = false := by simpa using hb
      simp only [hb', Bool.not_false, if_true, List.lookup_cons]
      cases a == b
      · exact ih
      · rfl
theorem cutK_none {ts : List Addr} {a : Addr} (h : ts.contains a = true) : ∀ {K : PySem.W.Frag}, (cutK K ts).lookup a = none
  | [] => rfl
  | (b, o) :: K => by
    have ih := cutK_none h (K := K)
    unfold cutK at ih ⊢
    rw [List.filter_cons]
    by_cases hb : ts.contains b = true
    · simp only [hb, Bool.not_true, Bool.false_eq_true, if_false]
      exact ih
    · have hb' : ts.contains b = false := by simpa using hb
      have nab : (a == b) = false := beq_eq_false_iff_ne.mpr fun z => by
        rw [z, hb'] at h
        cases h
      simp only [hb', Bool.not_false, if_true, List.lookup_cons, nab]
      exact ih
theorem cutK_In {K : PySem.W.Frag} {ts : List Addr} {h : Heap} (X : K.In h) : (cutK K ts).In h := fun a o e => by
  cases hc : ts.contains a with
  | true =>
    rw [cutK_none hc] at e
    cases e
  | false =>
    rw [cutK_out hc] at e
    exact X a o e
theorem cut_code {K : PySem.W.Frag} {ts : List Addr} {c : Addr} {q : Str} (h : ts.contains c = false) (e : PySem.W.codeIn K (.ref c) q = true) : PySem.W.codeIn (cutK K ts) (.ref c) q = true := by
  unfold PySem.W.codeIn at e ⊢
  simp only at e ⊢
  rw [cutK_out h]
  exact e
theorem cut_hd {K : PySem.W.Frag} {ts : List Addr} {c P : Addr} (h : ts.contains c = false) (e : PySem.W.codeHdIn K c P = true) : PySem.W.codeHdIn (cutK K ts) c P = true := by
  unfold PySem.W.codeHdIn at e ⊢
  rw [cutK_out h]
  exact e
/-- a def's facts, told of the cut part -/
theorem hasCode {K : PySem.W.Frag} {mg : Str → Option Value} {x nm : Str} {st : Stmt} {ps : List Str} {h : Heap} {ts : List Addr} {f c : Addr} {oc : Value} {od an : Option Addr} {osl : Array (Option Value)} {kV doc pm ct : Value} (X : K.In h) (G : h.Ns mainGlobals mg)
    (b : ∀ (kV doc pm : Value) (an : Option Addr) (cdv ct : Value) (us : List Value), us.length = ps.length → bindArgs (PySem.W.fnOf nm nm (defArgs st) (defBody st) (defScope st) .none kV doc pm an cdv ct) ⟨us, []⟩ = pure (ps.zip us))
    (a : PySem.W.nsIn K mainGlobals x = some (some (.ref f))) (l : K.lookup f = some ⟨oc, od, .func (PySem.W.fnOf nm nm (defArgs st) (defBody st) (defScope st) .none kV doc pm an (.ref c) ct), osl⟩)
    (cd : PySem.W.codeIn K (.ref c) nm = true) (nf : ts.contains f = false) (nc : ts.contains c = false) : HasCode (cutK K ts) mg x nm st ps c := by
  have l' : (cutK K ts).lookup f = some ⟨oc, od, .func (PySem.W.fnOf nm nm (defArgs st) (defBody st) (defScope st) .none kV doc pm an (.ref c) ct), osl⟩ := by rw [cutK_out nf]; exact l
  refine ⟨f, _, PySem.W.mg_of X G a, fun_mk l' (cut_code nc cd) ?_, rfl, b _ _ _ _ _ _⟩
  unfold PySem.W.keepIn
  simp only [l']
theorem cst_ {K : PySem.W.Frag} {mg : Str → Option Value} {h : Heap} {x : Str} {i : Int} {v : Value} (X : K.In h) (G : h.Ns mainGlobals mg) (a : PySem.W.nsIn K mainGlobals x = some (some v)) (e : ∃ t, v = .int i t) : ∃ t, mg x = some (.int i t) := by
  obtain ⟨t, rfl⟩ := e
  exact ⟨t, PySem.W.mg_of X G a⟩
/-! the builtins' names -/
theorem bt_len : bootBuiltins "len" = some (.builtin "len") := by decide +kernel
theorem bt_abs : bootBuiltins "abs" = some (.builtin "abs") := by decide +kernel
theorem bt_min : bootBuiltins "min" = some (.builtin "min") := by decide +kernel
theorem bt_max : bootBuiltins "max" = some (.builtin "max") := by decide +kernel
theorem bt_sum : bootBuiltins "sum" = some (.builtin "sum") := by decide +kernel
theorem bt_all : bootBuiltins "all" = some (.builtin "all") := by decide +kernel
theorem bt_any : bootBuiltins "any" = some (.builtin "any") := by decide +kernel
theorem bt_repr : bootBuiltins "repr" = some (.builtin "repr") := by decide +kernel
theorem bt_int : bootBuiltins "int" = some (.type "int") := by decide +kernel
theorem bt_bool : bootBuiltins "bool" = some (.type "bool") := by decide +kernel
theorem bt_tuple : bootBuiltins "tuple" = some (.type "tuple") := by decide +kernel
theorem bt_list : bootBuiltins "list" = some (.type "list") := by decide +kernel
theorem bt_isinstance : bootBuiltins "isinstance" = some (.builtin "isinstance") := by decide +kernel
theorem cut_tupB {K : PySem.W.Frag} {ts : List Addr} (h : tupB K = true) : tupB (cutK K ts) = true := List.all_eq_true.mpr fun q hq => List.all_eq_true.mp h q (List.mem_filter.mp hq).1
end Ev

set_option Elab.async false
set_option linter.all false
set_option maxRecDepth 100000
/-! Evaluators by simp; repr of small data. -/
namespace Ev
open PySem PySem.Spec PyProof.Rows L2

/-! ### small data: ints of at most 24 digits, no texts -/
mutual
def smallD : D → Bool
  | .none => true
  | .bool _ => true
  | .int i => decide (-(1000000000000000000000000 : Int) < i ∧ i < (1000000000000000000000000 : Int))
  | .list xs => smallDs xs
  | .tuple xs => smallDs xs
  | .str _ => false
  | .dict _ => false
def smallDs : List D → Bool
  | [] => true
  | x :: xs => smallD x && smallDs xs
end
theorem int_log {i : Int} (h : -(1000000000000000000000000 : Int) < i ∧ i < (1000000000000000000000000 : Int)) : i.natAbs < 1000000000000000000000000 := by omega
theorem len_ofString (s : String) : (Str.ofString s).length = s.length := by
  rw [Str.ofString_eq_toList]
  show (s.toList.map Char.toNat).toArray.size = s.length
  rw [List.size_toArray, List.length_map, String.length_toList]
theorem shown_int_len {i : Int} (h : i.natAbs < 1000000000000000000000000) : (PyData.shown (.int i)).length ≤ 25 := by
  have e : PyData.shown (.int i) = Str.ofString (toString i) := rfl
  rw [e, len_ofString]
  have hn : ∀ n : Nat, n < 1000000000000000000000000 → (Nat.repr n).length ≤ 24 := fun n hn => (Nat.length_repr_le_iff (by decide)).mpr (by simpa using hn)
  cases i with
  | ofNat n => exact Nat.le_succ_of_le (hn n h)
  | negSucc n =>
    have e2 : toString (Int.negSucc n) = "-" ++ Nat.repr (n + 1) := rfl
    rw [e2, String.length_append]
    have := hn (n + 1) h
    have e3 : ("-" : String).length = 1 := by decide
    omega
def okS (s : Str) : Prop := ∀ c ∈ s.cps.toList, c < 0x110000
theorem okS_of (s : String) : okS (Str.ofString s) := by
  rw [Str.ofString_eq_toList]
  intro c hc
  simp only [List.mem_map] at hc
  obtain ⟨x, _, rfl⟩ := hc
  have := x.valid
  rcases this with h | h <;> (show x.val.toNat < _; omega)
theorem okS_app {a b : Str} (ha : okS a) (hb : okS b) : okS (a ++ b) := fun c hc => by
  have e : (a ++ b).cps = a.cps ++ b.cps := rfl
  rw [e, Array.toList_append, List.mem_append] at hc
  exact hc.elim (ha c) (hb c)
theorem okS_join {sep : Str} (hs : okS sep) : ∀ {l : List Str}, (∀ x ∈ l, okS x) → okS (Str.join sep l)
  | [], _ => fun c hc => by simp [Str.join, Str.empty] at hc
  | [x], h => h x (by simp)
  | x :: y :: r, h => okS_app (okS_app (h x (by simp)) hs) (okS_join hs (l := y :: r) fun z hz => h z (by simp [hz]))
theorem okS_strOk {s : Str} (h : okS s) : PyData.strOk s = true := by
  unfold PyData.strOk
  rw [Array.all_eq_true_iff_forall_mem]
  intro x hx
  simpa using h x (Array.mem_toList_iff.mpr hx)
mutual
theorem small_ok : ∀ d : D, smallD d = true → d.showable = true ∧ d.hasDict = false ∧ d.leavesShort 25 = true ∧ okS d.shown
  | .none, _ => ⟨rfl, rfl, rfl, okS_of "None"⟩
  | .bool b, _ => ⟨rfl, rfl, rfl, by cases b <;> exact okS_of _⟩
  | .int i, h => by
    have h1 := int_log (of_decide_eq_true h)
    refine ⟨?_, rfl, ?_, okS_of _⟩
    · show decide (i.natAbs.log2 < 1920) = true
      refine decide_eq_true ?_
      have : i.natAbs.log2 < 80 := by
        by_cases z : i.natAbs = 0
        · rw [z]; decide
        · exact (Nat.log2_lt z).mpr (Nat.lt_of_lt_of_le h1 (by decide))
      omega
    · show decide ((PyData.shown (.int i)).length ≤ 25) = true
      exact decide_eq_true (shown_int_len h1)
  | .list xs, h => by
    obtain ⟨a, b, c, e⟩ := smalls_ok xs h
    refine ⟨a, b, c, ?_⟩
    show okS (listText (PyData.shownAll xs))
    rw [listText_eq_join]
    exact okS_app (okS_app (okS_of "[") (okS_join (okS_of ", ") e)) (okS_of "]")
  | .tuple xs, h => by
    obtain ⟨a, b, c, e⟩ := smalls_ok xs h
    refine ⟨a, b, c, ?_⟩
    show okS (tupleText (PyData.shownAll xs))
    unfold tupleText
    refine okS_app (okS_app (okS_of "(") (okS_join (okS_of ", ") e)) ?_
    split <;> exact okS_of _
  | .str _, h => by cases h
  | .dict _, h => by cases h
theorem smalls_ok : ∀ ds : List D, smallDs ds = true → PyData.showableAll ds = true ∧ PyData.hasDictAll ds = false ∧ PyData.leavesShortAll 25 ds = true ∧ ∀ x ∈ PyData.shownAll ds, okS x
  | [], _ => ⟨rfl, rfl, rfl, fun x hx => by cases hx⟩
  | d :: ds, h => by
    have h' : (smallD d && smallDs ds) = true := h
    rw [Bool.and_eq_true] at h'
    obtain ⟨a, b, c, e⟩ := small_ok d h'.1
    obtain ⟨a2, b2, c2, e2⟩ := smalls_ok ds h'.2
    refine ⟨?_, ?_, ?_, ?_⟩
    · show (PyData.showable d && PyData.showableAll ds) = true
      rw [a, a2]; rfl
    · show (PyData.hasDict d || PyData.hasDictAll ds) = false
      rw [b, b2]; rfl
    · show (PyData.leavesShort 25 d && PyData.leavesShortAll 25 ds) = true
      rw [c, c2]; rfl
    · intro x hx
      rcases List.mem_cons.mp (show x ∈ PyData.shown d :: PyData.shownAll ds from hx) with q | q
      · rw [q]; exact e
      · exact e2 x q
end
theorem pRepr_ok {d : D} {m : M} (h : smallD d = true) (hd : d.depth ≤ 60) (hw : d.weight ≤ 500000) : pRepr [.val d] m = some (.val (.str d.shown), m) := by
  obtain ⟨a, b, c, _⟩ := small_ok d h
  have h2 := PyData.shown_le 25 (by decide) d c
  have h3 : (25 + 2) * d.weight ≤ 27 * 500000 := Nat.mul_le_mul (by omega) hw
  have h4 : d.shown.length ≤ sizeLine := by
    rw [sizeLine_eq]
    omega
  show (if (d.showable && !d.hasDict && decide (d.depth ≤ 60) && decide (d.shown.length ≤ sizeLine)) = true then some (R.val (.str d.shown), m) else none) = _
  rw [a, b, decide_eq_true hd, decide_eq_true h4]
  rfl
theorem pNe_shown {d : D} {m : M} (h : smallD d = true) : pNe (.val (.str d.shown)) (.val (.str d.shown)) m = some (.val (.bool false), m) := by
  have z := okS_strOk (small_ok d h).2.2.2
  have s1 : SeqAt.shaped (.str d.shown) = true := by
    show (PyData.strOk d.shown && decide (PyData.depth (.str d.shown) ≤ 64)) = true
    rw [z]
    rfl
  have e : PyData.eqv (.str d.shown) (.str d.shown) = true := by simp [PyData.eqv]
  show (if (SeqAt.shaped (.str d.shown) && SeqAt.shaped (.str d.shown)) = true then some (R.val (.bool (if true then !PyData.eqv (.str d.shown) (.str d.shown) else PyData.eqv (.str d.shown) (.str d.shown))), m) else none) = _
  rw [s1, e]
  rfl
theorem pEq_shown {d : D} {m : M} (h : smallD d = true) : pEq (.val (.str d.shown)) (.val (.str d.shown)) m = some (.val (.bool true), m) := by
  have z := okS_strOk (small_ok d h).2.2.2
  have s1 : SeqAt.shaped (.str d.shown) = true := by
    show (PyData.strOk d.shown && decide (PyData.depth (.str d.shown) ≤ 64)) = true
    rw [z]
    rfl
  have e : PyData.eqv (.str d.shown) (.str d.shown) = true := by simp [PyData.eqv]
  show (if (SeqAt.shaped (.str d.shown) && SeqAt.shaped (.str d.shown)) = true then some (R.val (.bool (if false then !PyData.eqv (.str d.shown) (.str d.shown) else PyData.eqv (.str d.shown) (.str d.shown))), m) else none) = _
  rw [s1, e]
  rfl

/-! ### evaluation by simp -/
/-- a step that simp is to write down -/
theorem nr {α : Sort u} {a b : α} (h : a = b) : a = b := h
@[simp high] theorem ob_some {α β : Type} (a : α) (f : α → Option β) : (some a).bind f = f a := nr rfl
@[simp high] theorem ob_none {α β : Type} (f : α → Option β) : (none : Option α).bind f = none := nr rfl
section
variable {f g h : EF} {fa ga : AF} {tf tg : TF} {sf sg : SF} {gf : GF} {env : Sl} {m : M} {r : R} {p q : R → R → M → Option (R × M)}
@[simp] theorem ev_var0 {a : Option R} {l : Sl} : eVar 0 (a :: l) m = match a with
  | some r => some (r, m)
  | none => none := by cases a <;> rfl
@[simp] theorem ev_varS {i : Nat} {a : Option R} {l : Sl} : eVar (i + 1) (a :: l) m = eVar i l m := nr rfl
@[simp] theorem ev_c {d : D} : eC d env m = some (.val d, m) := nr rfl
@[simp] theorem ev_bin : eBin p f g env m = (f env m).bind fun x => (g env x.2).bind fun y => p x.1 y.1 y.2 := nr rfl
@[simp] theorem ev_un {p : R → M → Option (R × M)} : eUn p f env m = (f env m).bind fun x => p x.1 x.2 := nr rfl
@[simp] theorem ev_nil : aNil env m = some ([], m) := nr rfl
@[simp] theorem ev_cons : aCons f fa env m = (f env m).bind fun x => (fa env x.2).bind fun y => some (x.1 :: y.1, y.2) := nr rfl
@[simp] theorem ev_ap {p : List R → M → Option (R × M)} : eAp p fa env m = (fa env m).bind fun x => p x.1 x.2 := nr rfl
@[simp] theorem ev_tOf : tOf f env m = (f env m).bind fun x => (asB x.1).bind fun b => some (b, x.2) := nr rfl
@[simp] theorem ev_asB {b : Bool} : asB (.val (.bool b)) = some b := nr rfl
@[simp] theorem ev_asI {i : Int} : asI (.val (.int i)) = some i := nr rfl
@[simp] theorem ev_tNot : tNotF tf env m = (tf env m).bind fun x => some (!x.1, x.2) := nr rfl
@[simp] theorem ev_tAnd : tAndF tf tg env m = (tf env m).bind fun x => if x.1 = true then tg env x.2 else some (false, x.2) := nr rfl
@[simp] theorem ev_tOr : tOrF tf tg env m = (tf env m).bind fun x => if x.1 = true then some (true, x.2) else tg env x.2 := nr rfl
@[simp] theorem ev_eOf : eOf tf env m = (tf env m).bind fun x => some (.val (.bool x.1), x.2) := nr rfl
@[simp] theorem ev_eIf : eIf tf f g env m = (tf env m).bind fun x => if x.1 = true then f env x.2 else g env x.2 := nr rfl
@[simp] theorem ev_chain : eChain p q f g h env m = (f env m).bind fun x => (g env x.2).bind fun y => (p x.1 y.1 y.2).bind fun z =>
  (asB z.1).bind fun b => if b = true then (h env z.2).bind fun w => q y.1 w.1 w.2 else some (.val (.bool false), z.2) := rfl
@[simp] theorem ev_seq : sSeq sf sg env m = (sf env m).bind fun fl => thenF fl sg := nr rfl
@[simp] theorem ev_then_nx : thenF (.nx env m) sg = sg env m := nr rfl
@[simp] theorem ev_then_rt : thenF (.rt r m) sg = some (.rt r m) := nr rfl
@[simp] theorem ev_then_bk : thenF (.bk env m) sg = some (.bk env m) := nr rfl
@[simp] theorem ev_then_ct : thenF (.ct env m) sg = some (.ct env m) := nr rfl
@[simp] theorem ev_aft_nx {k : SF} : aftF (.nx env m) k = k env m := nr rfl
@[simp] theorem ev_aft_ct {k : SF} : aftF (.ct env m) k = k env m := nr rfl
@[simp] theorem ev_aft_rt {k : SF} : aftF (.rt r m) k = some (.rt r m) := nr rfl
@[simp] theorem ev_aft_bk {k : SF} : aftF (.bk env m) k = some (.nx env m) := nr rfl
@[simp] theorem ev_next : sNext env m = some (.nx env m) := nr rfl
@[simp] theorem ev_never : sNever env m = none := nr rfl
@[simp] theorem ev_break : sBreak env m = some (.bk env m) := nr rfl
@[simp] theorem ev_contn : sCont env m = some (.ct env m) := nr rfl
@[simp] theorem ev_ret : sRet f env m = (f env m).bind fun x => some (.rt x.1 x.2) := nr rfl
@[simp] theorem ev_retN : sRetN env m = some (.rt (.val .none) m) := nr rfl
@[simp] theorem ev_expr : sExpr f env m = (f env m).bind fun x => some (.nx env x.2) := nr rfl
@[simp] theorem ev_if : sIf tf sf sg env m = (tf env m).bind fun x => if x.1 = true then sf env x.2 else sg env x.2 := nr rfl
@[simp] theorem ev_asg : sAsg f gf env m = (f env m).bind fun x => (gf x.1 env x.2).bind fun y => some (.nx y.1 y.2) := nr rfl
@[simp] theorem ev_gNm {i : Nat} : gNm i r env m = some (env.set i (some r), m) := nr rfl
@[simp] theorem ev_par {i j : Nat} : sPar i j fa env m = (fa env m).bind fun x => match x.1 with
  | [a, b] => some (.nx ((env.set i (some a)).set j (some b)) x.2)
  | _ => none := nr rfl
@[simp] theorem ev_parG {is : List Nat} : sParG is fa env m = (fa env m).bind fun x => if x.1.length ≤ sizeLine then (setAll is x.1 env).bind fun e => some (.nx e x.2) else none := nr rfl
@[simp] theorem ev_sub {pp : R → R → R → M → Option M} : gSubF pp f g r env m = (f env m).bind fun x => (g env x.2).bind fun y => (pp x.1 y.1 r y.2).bind fun m' => some (env, m') := nr rfl
@[simp] theorem ev_aug {i : Nat} : sAugF p i f env m = (eVar i env m).bind fun x => (f env m).bind fun y => (p x.1 y.1 y.2).bind fun z => some (.nx (env.set i (some z.1)) z.2) := nr rfl
@[simp] theorem ev_augS {pp : R → R → R → M → Option M} : sAugSF q pp f g h env m = (f env m).bind fun x => (g env x.2).bind fun y => (pIdx x.1 y.1 y.2).bind fun z => (h env z.2).bind fun w => (q z.1 w.1 w.2).bind fun u => (pp x.1 y.1 u.1 u.2).bind fun m' => some (.nx env m') := nr rfl
@[simp] theorem ev_bm {pp : MF} : eBM pp f fa env m = (f env m).bind fun x => (asL x.1 x.2).bind fun _ => (fa env x.2).bind fun y => pp x.1 y.1 y.2 := nr rfl
@[simp] theorem ev_eL {nf : NF} : eL nf env m = (nf env m).bind fun x => some (.val (.list x.1), x.2) := nr rfl
@[simp] theorem ev_eNew {nf : NF} : eNew nf env m = (nf env m).bind fun x => some (.ref x.2.length, x.2 ++ [.lst x.1]) := nr rfl
@[simp] theorem ev_nLst : nLst fa env m = (fa env m).bind fun x => (vals x.1).bind fun ds => if ds.length ≤ sizeLine then some (ds, x.2) else none := nr rfl
@[simp] theorem ev_vals0 : vals [] = some [] := nr rfl
@[simp] theorem ev_valsC {d : D} {rs : List R} : vals (.val d :: rs) = (vals rs).bind fun ds => some (d :: ds) := nr rfl
@[simp] theorem ev_pTup {rs : List R} : pTup rs m = (vals rs).bind fun ds => if ds.length ≤ sizeLine then some (.val (.tuple ds), m) else none := nr rfl
@[simp] theorem ev_isA {t : Ty} : eIsA t f env m = (f env m).bind fun x => match x.1 with
  | .val d => some (.val (.bool (isA t (.val d))), x.2)
  | .ref k => (x.2[k]?).bind fun o => match o with
    | .lst _ => some (.val (.bool (isA t (.ref k))), x.2)
    | .dct _ _ _ => none
  | .tp _ => none := by
  unfold eIsA
  congr 1
  funext x
  obtain ⟨r, m'⟩ := x
  cases r <;> rfl

/-! loops and comprehensions -/
def runI (o : Option ((Src × Nat) × M)) (gf : GF) (sf : SF) (env : Sl) : Option Fl := o.bind fun x => loop x.1.1 gf sf x.1.2 0 env x.2
@[simp] theorem ev_for {it : IF} : sFor it gf sf env m = runI (it env m) gf sf env := nr rfl
@[simp] theorem run_iL {ds : List D} : runI (iL ds m) gf sf env = loopL gf sf ds env m := loop_srcL ds ds 0 env m rfl
def runC (o : Option ((Src × Nat) × M)) (p : Pat) (vs : List Nat) (tt : TF) (te : EF) (env : Sl) : Option (List D × M) := o.bind fun x => if x.1.2 ≤ sizeLine then clp x.1.1 p tt te (wipeE env vs) x.1.2 0 x.2 else none
@[simp] theorem ev_comp {it : IF} {p : Pat} {vs : List Nat} {tt : TF} {te : EF} : nComp it p vs tt te env m = runC (it env m) p vs tt te env := nr rfl
@[simp] theorem sz : sizeLine = 16777216 := sizeLine_eq
theorem runC_iL {p : Pat} {vs : List Nat} {tt : TF} {te : EF} {ds : List D} (h : ds.length ≤ 16777216) : runC (iL ds m) p vs tt te env = clpL p tt te (wipeE env vs) ds m := by
  have := nComp_L (it := fun _ m => iL ds m) (p := p) (vs := vs) (tt := tt) (te := te) (env := env) (m := m) (m' := m) (ds := ds) rfl (by rw [sz]; exact h)
  exact this
@[simp] theorem run_none {gf : GF} {sf : SF} {env : Sl} : runI none gf sf env = none := nr rfl
def rg1 (rs : List R) (m : M) : Option ((Src × Nat) × M) := match rs with
  | [.val (.int j)] => if -(2 ^ 62) ≤ j ∧ j < 2 ^ 62 then iL (rngD 0 j.toNat) m else none
  | _ => none
def rg2 (rs : List R) (m : M) : Option ((Src × Nat) × M) := match rs with
  | [.val (.int i), .val (.int j)] => if -(2 ^ 62) ≤ i ∧ i < 2 ^ 62 ∧ -(2 ^ 62) ≤ j ∧ j < 2 ^ 62 then iL (rngD i (j - i).toNat) m else none
  | _ => none
@[simp] theorem it_rg1 {fa : AF} : itRng1 fa env m = (fa env m).bind fun x => rg1 x.1 x.2 := nr rfl
@[simp] theorem it_rg2 {fa : AF} : itRng2 fa env m = (fa env m).bind fun x => rg2 x.1 x.2 := nr rfl
theorem rngD_nat (a n : Nat) : rngD (a : Int) n = (List.range' a n).map fun j : Nat => PyData.int j := by
  unfold rngD
  rw [List.range'_eq_map_range, List.map_map]
  apply List.map_congr_left
  intro j _
  simp
theorem rg1_nat {n : Nat} (h : n ≤ 1000000000) : rg1 [.val (.int n)] m = iL ((List.range n).map fun j : Nat => PyData.int j) m := by
  have h2 : -(2 ^ 62) ≤ (n : Int) ∧ (n : Int) < 2 ^ 62 := by omega
  simp only [rg1]
  rw [if_pos h2, Int.toNat_natCast, List.range_eq_range']
  exact congrArg (fun l => iL l m) (rngD_nat 0 n)
theorem rg2_nat {a b : Nat} {i j : Int} (hi : i = a) (hj : j = b) (ha : a ≤ 1000000000) (h : b ≤ 1000000000) : rg2 [.val (.int i), .val (.int j)] m = iL ((List.range' a (b - a)).map fun j : Nat => PyData.int j) m := by
  subst hi hj
  have h2 : -(2 ^ 62) ≤ (a : Int) ∧ (a : Int) < 2 ^ 62 ∧ -(2 ^ 62) ≤ (b : Int) ∧ (b : Int) < 2 ^ 62 := by omega
  simp only [rg2]
  rw [if_pos h2, show ((b : Int) - a).toNat = b - a by omega, rngD_nat]
@[simp] theorem leave_v {b : Nat} {d : D} : leave b (.val d) m = some (.val d, m.take b) := nr rfl
theorem step_nx {sf : SF} {gf : GF} {d : D} {ds : List D} {env1 env2 : Sl} {m1 m2 : M} (hg : gf (.val d) env m = some (env1, m1)) (hb : sf env1 m1 = some (.nx env2 m2)) : loopL gf sf (d :: ds) env m = loopL gf sf ds env2 m2 := by
  show ((gf (.val d) env m).bind fun x => (sf x.1 x.2).bind fun fl => aftF fl (loopL gf sf ds)) = _
  rw [hg]
  simp only [Option.bind_some]
  rw [hb]
  rfl
theorem step_rt {sf : SF} {gf : GF} {d : D} {ds : List D} {env1 : Sl} {m1 m2 : M} {r : R} (hg : gf (.val d) env m = some (env1, m1)) (hb : sf env1 m1 = some (.rt r m2)) : loopL gf sf (d :: ds) env m = some (.rt r m2) := by
  show ((gf (.val d) env m).bind fun x => (sf x.1 x.2).bind fun fl => aftF fl (loopL gf sf ds)) = _
  rw [hg]
  simp only [Option.bind_some]
  rw [hb]
  rfl
@[simp] theorem loop_nil {sf : SF} {gf : GF} : loopL gf sf [] env m = some (.nx env m) := nr rfl
def en1 (rs : List R) (m : M) : Option ((Src × Nat) × M) := match rs with
  | [.val (.tuple ds)] => iL (enumD ds) m
  | [.val (.list ds)] => iL (enumD ds) m
  | [.ref k] => match m[k]? with
    | some (.lst ds) => some ((srcE k, ds.length), m)
    | _ => none
  | _ => none
@[simp] theorem it_en {fa : AF} : itEnum fa env m = (fa env m).bind fun x => en1 x.1 x.2 := nr rfl
@[simp] theorem en1_t {ds : List D} : en1 [.val (.tuple ds)] m = iL (enumD ds) m := nr rfl
@[simp] theorem en1_l {ds : List D} : en1 [.val (.list ds)] m = iL (enumD ds) m := nr rfl
def an1 (r : R) (m : M) : Option ((Src × Nat) × M) := match r with
  | .val (.tuple ds) => iL ds m
  | .val (.list ds) => iL ds m
  | .ref k => match m[k]? with
    | some (.lst ds) => some ((srcR k, ds.length), m)
    | _ => none
  | _ => none
@[simp] theorem it_an {f : EF} : itAny f env m = (f env m).bind fun x => an1 x.1 x.2 := nr rfl
@[simp] theorem an1_t {ds : List D} : an1 (.val (.tuple ds)) m = iL ds m := nr rfl
@[simp] theorem an1_l {ds : List D} : an1 (.val (.list ds)) m = iL ds m := nr rfl
def rev1 (r : R) (m : M) : Option (R × M) := match r with
  | .val (.tuple ds) => some (.val (.tuple ds.reverse), m)
  | r => (asL r m).bind fun ds => some (.val (.list ds.reverse), m)
@[simp] theorem ev_rev : eRev f env m = (f env m).bind fun x => rev1 x.1 x.2 := nr rfl
@[simp] theorem rev1_t {ds : List D} : rev1 (.val (.tuple ds)) m = some (.val (.tuple ds.reverse), m) := nr rfl
@[simp] theorem rev1_l {ds : List D} : rev1 (.val (.list ds)) m = some (.val (.list ds.reverse), m) := nr rfl
end
end Ev

set_option Elab.async false
set_option linter.all false
set_option maxRecDepth 100000
/-! Operators on known values, by simp; comprehensions and loops by invariants. -/
namespace Ev
open PySem PySem.Spec PyProof.Rows L2
section
variable {m : M} {i j : Int} {a b : Bool} {ds es : List D} {d e : D} {k : Nat}
@[simp] theorem pp_ii : pPlus (.val (.int i)) (.val (.int j)) m = some (.val (.int (i + j)), m) := nr rfl
theorem pp_tt (h : ds.length + es.length ≤ 16777216) : pPlus (.val (.tuple ds)) (.val (.tuple es)) m = some (.val (.tuple (ds ++ es)), m) := by
  show (match (match pAddI (.val (.tuple ds)) (.val (.tuple es)) m with
    | some x => some x
    | none => pCatT (.val (.tuple ds)) (.val (.tuple es)) m) with
    | some x => some x
    | none => pCatLf (.val (.tuple ds)) (.val (.tuple es)) m) = _
  have e1 : pAddI (.val (.tuple ds)) (.val (.tuple es)) m = none := rfl
  have e2 : pCatT (.val (.tuple ds)) (.val (.tuple es)) m = some (.val (.tuple (ds ++ es)), m) := by
    show (if ds.length + es.length ≤ sizeLine then some (R.val (.tuple (ds ++ es)), m) else none) = _
    rw [sz, if_pos h]
  rw [e1]
  simp only [e2]
theorem pp_ll (h : ds.length + es.length ≤ 16777216) : pPlus (.val (.list ds)) (.val (.list es)) m = some (.val (.list (ds ++ es)), m) := by
  show (match (match pAddI (.val (.list ds)) (.val (.list es)) m with
    | some x => some x
    | none => pCatT (.val (.list ds)) (.val (.list es)) m) with
    | some x => some x
    | none => pCatLf (.val (.list ds)) (.val (.list es)) m) = _
  have e1 : pAddI (.val (.list ds)) (.val (.list es)) m = none := rfl
  have e2 : pCatT (.val (.list ds)) (.val (.list es)) m = none := rfl
  rw [e1]
  simp only [e2]
  show (if ds.length + es.length ≤ sizeLine then some (R.val (.list (ds ++ es)), m) else none) = _
  rw [sz, if_pos h]
@[simp] theorem pa_ii : pAddI (.val (.int i)) (.val (.int j)) m = some (.val (.int (i + j)), m) := nr rfl
@[simp] theorem ps_ii : pSub (.val (.int i)) (.val (.int j)) m = some (.val (.int (i - j)), m) := nr rfl
theorem log2_lt_of {n k : Nat} (h : n < 2 ^ (k + 1)) : n.log2 ≤ k := by
  by_cases z : n = 0
  · rw [z]; exact Nat.zero_le _
  · exact Nat.le_of_lt_succ ((Nat.log2_lt z).mpr h)
theorem pm_ii (hi : i.natAbs < 18446744073709551616) (hj : j.natAbs < 18446744073709551616) : pMul (.val (.int i)) (.val (.int j)) m = some (.val (.int (i * j)), m) := by
  have h : mulOk i j = true := by
    have h1 := log2_lt_of (k := 63) (n := i.natAbs) hi
    have h2 := log2_lt_of (k := 63) (n := j.natAbs) hj
    exact decide_eq_true (by omega)
  show (if mulOk i j = true then some (R.val (.int (i * j)), m) else none) = _
  rw [if_pos h]
theorem pdv_ii (h : 0 < j) (hj : j < 18446744073709551616) : pDiv (.val (.int i)) (.val (.int j)) m = some (.val (.int (i / j)), m) := by
  have h : divOk i j = true := by
    have h2 := log2_lt_of (k := 63) (n := j.natAbs) (by omega)
    exact decide_eq_true ⟨h, by omega⟩
  show (if divOk i j = true then some (R.val (.int (i / j)), m) else none) = _
  rw [if_pos h]
theorem pmd_ii (h : 0 < j) : pMod (.val (.int i)) (.val (.int j)) m = some (.val (.int (i % j)), m) := by
  have h : modOk i j = true := decide_eq_true h
  show (if modOk i j = true then some (R.val (.int (i % j)), m) else none) = _
  rw [if_pos h]
@[simp] theorem plt_ii : pLt (.val (.int i)) (.val (.int j)) m = some (.val (.bool (decide (i < j))), m) := nr rfl
@[simp] theorem ple_ii : pLe (.val (.int i)) (.val (.int j)) m = some (.val (.bool (decide (i ≤ j))), m) := nr rfl
@[simp] theorem pgt_ii : pGt (.val (.int i)) (.val (.int j)) m = some (.val (.bool (decide (j < i))), m) := nr rfl
@[simp] theorem pge_ii : pGe (.val (.int i)) (.val (.int j)) m = some (.val (.bool (decide (j ≤ i))), m) := nr rfl
@[simp] theorem peq_ii : pEq (.val (.int i)) (.val (.int j)) m = some (.val (.bool (decide (i = j))), m) := by
  have : PyData.eqv (.int i) (.int j) = decide (i = j) := by show (i == j) = _; rfl
  show some (R.val (.bool (PyData.eqv (.int i) (.int j))), m) = _
  rw [this]
@[simp] theorem pne_ii : pNe (.val (.int i)) (.val (.int j)) m = some (.val (.bool (decide (i ≠ j))), m) := by
  have : PyData.eqv (.int i) (.int j) = decide (i = j) := by show (i == j) = _; rfl
  show some (R.val (.bool (!PyData.eqv (.int i) (.int j))), m) = _
  rw [this]
  by_cases h : i = j <;> simp [h]
@[simp] theorem peq_bb : pEq (.val (.bool a)) (.val (.bool b)) m = some (.val (.bool (a == b)), m) := nr rfl
@[simp] theorem pne_bb : pNe (.val (.bool a)) (.val (.bool b)) m = some (.val (.bool (a != b)), m) := nr rfl
@[simp] theorem pis_n : pIsN (.val .none) (.val .none) m = some (.val (.bool true), m) := nr rfl
@[simp] theorem pis_i : pIsN (.val (.int i)) (.val .none) m = some (.val (.bool false), m) := nr rfl
@[simp] theorem pis_t : pIsN (.val (.tuple ds)) (.val .none) m = some (.val (.bool false), m) := nr rfl
@[simp] theorem pisnt_n : pIsnt (.val .none) (.val .none) m = some (.val (.bool false), m) := nr rfl
@[simp] theorem pisnt_i : pIsnt (.val (.int i)) (.val .none) m = some (.val (.bool true), m) := nr rfl
@[simp] theorem pisnt_t : pIsnt (.val (.tuple ds)) (.val .none) m = some (.val (.bool true), m) := nr rfl
@[simp] theorem pneg_i : pNeg (.val (.int i)) m = some (.val (.int (-i)), m) := nr rfl
@[simp] theorem plen_t : pLen [.val (.tuple ds)] m = some (.val (.int ds.length), m) := nr rfl
@[simp] theorem plen_l : pLen [.val (.list ds)] m = some (.val (.int ds.length), m) := nr rfl
@[simp] theorem pabs_i : pAbs [.val (.int i)] m = some (.val (.int (if i < 0 then -i else i)), m) := nr rfl
@[simp] theorem pmin_ii : pMin [.val (.int i), .val (.int j)] m = some (.val (.int (if j < i then j else i)), m) := nr rfl
@[simp] theorem pmax_ii : pMax [.val (.int i), .val (.int j)] m = some (.val (.int (if j > i then j else i)), m) := nr rfl
@[simp] theorem pint_i : pInt [.val (.int i)] m = some (.val (.int i), m) := nr rfl
@[simp] theorem ptup_l : pTupleOf [.val (.list ds)] m = some (.val (.tuple ds), m) := nr rfl
@[simp] theorem ptup_t : pTupleOf [.val (.tuple ds)] m = some (.val (.tuple ds), m) := nr rfl
theorem ptup_r (h : m[k]? = some (.lst ds)) : pTupleOf [.ref k] m = some (.val (.tuple ds), m) := by
  show ((asL (.ref k) m).bind fun ds => some (R.val (.tuple ds), m)) = _
  simp [asL, h]
theorem plen_r (h : m[k]? = some (.lst ds)) : pLen [.ref k] m = some (.val (.int ds.length), m) := by
  show ((asLT (.ref k) m).bind fun ds => some (R.val (.int ds.length), m)) = _
  simp [asLT, asL, h]
@[simp] theorem pix_t : pIdx (.val (.tuple ds)) (.val (.int i)) m = (atI ds i).bind fun d => some (.val d, m) := nr rfl
@[simp] theorem pix_l : pIdx (.val (.list ds)) (.val (.int i)) m = (atI ds i).bind fun d => some (.val d, m) := nr rfl
theorem pix_r (h : m[k]? = some (.lst ds)) : pIdx (.ref k) (.val (.int i)) m = (atI ds i).bind fun d => some (.val d, m) := by
  show ((asLT (.ref k) m).bind fun ds => (atI ds i).bind fun d => some (R.val d, m)) = _
  simp [asLT, asL, h]
theorem pset_r (h : m[k]? = some (.lst ds)) : pSet (.ref k) (.val (.int i)) (.val d) m = (ixN ds.length i).bind fun j => some (m.set k (.lst (ds.set j d))) := by
  unfold pSet
  simp [h]
theorem papp_r (h : m[k]? = some (.lst ds)) (hl : ds.length < 16777216) : pAppend (.ref k) [.val d] m = some (.val .none, m.set k (.lst (ds ++ [d]))) := by
  simp [pAppend, h, hl]
theorem asL_r (h : m[k]? = some (.lst ds)) : asL (.ref k) m = some ds := by
  simp [asL, h]
@[simp] theorem asBs_map (bs : List Bool) : asBs (bs.map PyData.bool) = some bs := by
  induction bs with
  | nil => rfl
  | cons b bs ih => simp [asBs, ih]
@[simp] theorem asIs_map (ns : List Int) : asIs (ns.map PyData.int) = some ns := by
  induction ns with
  | nil => rfl
  | cons b bs ih => simp [asIs, ih]
theorem asBs_map' {α : Type} (l : List α) (f : α → Bool) : asBs (l.map fun x => PyData.bool (f x)) = some (l.map f) := by
  have := asBs_map (l.map f)
  rwa [List.map_map] at this
theorem asIs_map' {α : Type} (l : List α) (f : α → Int) : asIs (l.map fun x => PyData.int (f x)) = some (l.map f) := by
  have := asIs_map (l.map f)
  rwa [List.map_map] at this
theorem pany_l {α : Type} (l : List α) (f : α → Bool) : pAny [.val (.list (l.map fun x => PyData.bool (f x)))] m = some (.val (.bool (l.any f)), m) := by
  show ((asBs (l.map fun x => PyData.bool (f x))).bind fun ns => some (R.val (.bool (ns.any id)), m)) = _
  rw [asBs_map']
  simp [List.any_map]
theorem pall_l {α : Type} (l : List α) (f : α → Bool) : pAll [.val (.list (l.map fun x => PyData.bool (f x)))] m = some (.val (.bool (l.all f)), m) := by
  show ((asBs (l.map fun x => PyData.bool (f x))).bind fun ns => some (R.val (.bool (ns.all id)), m)) = _
  rw [asBs_map']
  simp [List.all_map]
theorem psum_t {α : Type} (l : List α) (f : α → Int) : pSum [.val (.tuple (l.map fun x => PyData.int (f x)))] m = some (.val (.int (l.map f).sum), m) := by
  show ((asIs (l.map fun x => PyData.int (f x))).bind fun ns => some (R.val (.int ns.sum), m)) = _
  rw [asIs_map']
  rfl
end
/-! places -/
section
variable {α : Type} {xs : List α}
theorem ixN_nat {n k : Nat} (h : k < n) : ixN n (k : Int) = some k := by
  unfold ixN
  rw [if_pos (by omega)]
  simp [h]
theorem at_nat {k : Nat} {x : α} (h : xs[k]? = some x) : atI xs (k : Int) = some x := by
  have hk : k < xs.length := (List.getElem?_eq_some_iff.mp h).1
  unfold atI
  rw [ixN_nat hk]
  exact h
theorem at_int {i : Int} {x : α} (h0 : 0 ≤ i) (h : xs[i.toNat]? = some x) : atI xs i = some x := by
  have e : i = (i.toNat : Int) := by omega
  rw [e]
  exact at_nat h
@[simp] theorem atI_0 {x : α} : atI (x :: xs) 0 = some x := at_nat (k := 0) rfl
@[simp] theorem atI_1 {x y : α} : atI (x :: y :: xs) 1 = some y := at_nat (k := 1) rfl
@[simp] theorem atI_2 {x y z : α} : atI (x :: y :: z :: xs) 2 = some z := at_nat (k := 2) rfl
end
/-! comprehensions -/
theorem asD0_val (d : D) : clp.asD0 (.val d) = some d := rfl
theorem clpL_map {α : Type} {p : Pat} {tt : TF} {te : EF} {env : Sl} {m : M} (enc : α → D) (t : α → Bool) (F : α → D) : ∀ (l : List α),
    (∀ a ∈ l, ∃ e, bindP p (enc a) env = some e ∧ tt e m = some (t a, m) ∧ (t a = true → te e m = some (.val (F a), m))) → clpL p tt te env (l.map enc) m = some ((l.filter t).map F, m)
  | [], _ => rfl
  | a :: l, h => by
    obtain ⟨e, h1, h2, h3⟩ := h a List.mem_cons_self
    have ih := clpL_map (p := p) (tt := tt) (te := te) (env := env) (m := m) enc t F l fun b hb => h b (List.mem_cons_of_mem _ hb)
    rw [List.map_cons]
    unfold clpL
    rw [h1]
    simp only [Option.bind_some]
    rw [h2]
    simp only [Option.bind_some]
    cases ht : t a with
    | false =>
      rw [if_neg Bool.false_ne_true, ih, List.filter_cons_of_neg (by rw [ht]; exact Bool.false_ne_true)]
    | true =>
      rw [if_pos rfl, h3 ht]
      simp only [Option.bind_some, asD0_val]
      rw [ih, List.filter_cons_of_pos ht]
      rfl
theorem clpL_all {α : Type} {p : Pat} {te : EF} {env : Sl} {m : M} (enc : α → D) (F : α → D) (l : List α)
    (h : ∀ a ∈ l, ∃ e, bindP p (enc a) env = some e ∧ te e m = some (.val (F a), m)) : clpL p tTrue te env (l.map enc) m = some (l.map F, m) := by
  have := clpL_map (p := p) (tt := tTrue) (te := te) (env := env) (m := m) enc (fun _ => true) F l fun a ha => by
    obtain ⟨e, h1, h2⟩ := h a ha
    exact ⟨e, h1, rfl, fun _ => h2⟩
  rw [this, List.filter_eq_self.mpr fun _ _ => rfl]
/-- with a store that moves on -/
theorem clpL_inv {p : Pat} {te : EF} {env : Sl} (I : M → Prop) (P : D → Prop) : ∀ (ds : List D) (m : M), I m →
    (∀ d ∈ ds, ∀ m, I m → ∃ e d' m', bindP p d env = some e ∧ te e m = some (.val d', m') ∧ P d' ∧ I m') → ∃ ds' m', clpL p tTrue te env ds m = some (ds', m') ∧ ds'.length = ds.length ∧ (∀ d ∈ ds', P d) ∧ I m'
  | [], m, hI, _ => ⟨[], m, rfl, rfl, (fun d hd => by cases hd), hI⟩
  | d :: ds, m, hI, h => by
    obtain ⟨e, d', m1, h1, h2, hP, hI1⟩ := h d List.mem_cons_self m hI
    obtain ⟨ds', m2, h3, hl, hPs, hI2⟩ := clpL_inv (p := p) (te := te) (env := env) I P ds m1 hI1 fun b hb => h b (List.mem_cons_of_mem _ hb)
    refine ⟨d' :: ds', m2, ?_, by rw [List.length_cons, List.length_cons, hl], fun x hx => ?_, hI2⟩
    · unfold clpL
      rw [h1]
      simp only [Option.bind_some]
      rw [show tTrue e m = some (true, m) from rfl]
      simp only [Option.bind_some, if_true]
      rw [h2]
      simp only [Option.bind_some, asD0_val]
      rw [h3]
      rfl
    · rcases List.mem_cons.mp hx with q | q
      · rw [q]; exact hP
      · exact hPs x q
end Ev

set_option Elab.async false
set_option linter.all false
set_option maxRecDepth 100000
/-! sorted(xs). -/
namespace Ev
open PySem PySem.Spec PyProof.Rows L2
/-- what sorted takes: all alike; all tuples that hold something, or none a tuple or None -/
def sortableB (ds : List D) : Bool := (ds.all fun x => ds.all fun y => PySem.W.alike x y) && ((ds.all fun x => match x with
  | .tuple (_ :: _) => true
  | _ => false) || ds.all fun x => match x with
  | .none => false
  | .tuple _ => false
  | _ => true)
theorem sortable_ok {ds : List D} (h : sortableB ds = true) : PySem.W.AllAlike ds ∧ PySem.W.Sortable ds := by
  unfold sortableB at h
  rw [Bool.and_eq_true, Bool.or_eq_true, List.all_eq_true, List.all_eq_true, List.all_eq_true] at h
  refine ⟨fun x hx y hy => List.all_eq_true.mp (h.1 x hx) y hy, ?_⟩
  rcases h.2 with q | q
  · refine .inl fun d hd => ?_
    have z := q d hd
    split at z
    · exact ⟨_, _, rfl⟩
    · cases z
  · refine .inr fun d hd => ⟨fun e => ?_, fun xs e => ?_⟩
    · have z := q d hd
      rw [e] at z
      cases z
    · have z := q d hd
      rw [e] at z
      cases z
def sortD (ds : List D) : List D := ds.mergeSort (PySem.W.dataLe false id)
def pSorted : PF := p1 fun r m => (asL r m).bind fun ds => if (sortableB ds && smallAll ds && decide (ds.length ≤ sizeLine)) = true then some (.val (.list (sortD ds)), m) else none
theorem each_of {K : PySem.W.Frag} {H : Hp} : ∀ {ds : List D} {xs : List V} {its : List Value}, DpAll K H xs ds → Vals xs its → PySem.W.EachIs (fun v d => ∃ x : V, RelV x v ∧ Dp K H x d) its ds
  | [], [], [], _, _ => .nil
  | _ :: _, _ :: _, _ :: _, .cons a t, .cons r u => .cons ⟨_, r, a⟩ (each_of t u)
theorem of_each {K : PySem.W.Frag} {H : Hp} : ∀ {ds : List D} {its : List Value}, PySem.W.EachIs (fun v d => ∃ x : V, RelV x v ∧ Dp K H x d) its ds → ∃ xs : List V, Vals xs its ∧ DpAll K H xs ds
  | [], [], _ => ⟨[], .nil, .nil⟩
  | _ :: _, _ :: _, .cons ⟨x, r, a⟩ t => by
    obtain ⟨xs, u, w⟩ := of_each t
    exact ⟨x :: xs, .cons r u, .cons a w⟩
theorem depth_all {ds : List D} {d : D} (h : d ∈ ds) : d.depth ≤ PyData.depthAll ds := by
  induction ds with
  | nil => cases h
  | cons e ds ih =>
    show d.depth ≤ max e.depth (PyData.depthAll ds)
    rcases List.mem_cons.mp h with q | q
    · rw [q]; omega
    · have := ih q
      omega
section
variable {X : Cx} {k : Nat}
theorem c_sorted (hr : Room k X.A) : CallR X (.builtin "sorted") (rsP ζ X.K pSorted) := c_one fun pins s σ H v us Q φ m a r m' I rx S ra hf kk => by
  obtain ⟨ds, h1, hf⟩ := bind_some_iff hf
  split at hf
  · rename_i hc
    cases hf
    rw [Bool.and_eq_true, Bool.and_eq_true] at hc
    obtain ⟨⟨c1, c2⟩, c3⟩ := hc
    obtain ⟨hal, hso⟩ := sortable_ok c1
    have hsm := of_decide_eq_true c2
    have hlen := of_decide_eq_true c3
    obtain ⟨p, xs, rfl, hs, hd⟩ := seqL_of S ra h1
    obtain ⟨u, rfl, ru⟩ := one_val rx
    cases ru
    obtain ⟨its, rv, hl, hz⟩ := I.list hs
    have hun := hr.un
    have e1 := each_of hd rv
    have er : PySem.W.EachIs (fun v b => ∃ as, Reads s.heap v (id b) as) its ds := e1.mono fun v d ⟨x, r, q⟩ => Dp.reads I _ _ _ (dp_mono off_same q) r
    refine PySem.W.sorted_data (enc := id) hl.isList e1 er (by rw [List.map_id]; exact hal) (by rw [List.map_id]; exact hso) hlen (fun b hb => ?_) fun out ho eo => ?_
    · have := depth_all hb
      show X.A.units + 2 + b.depth < cLine
      omega
    · obtain ⟨ys, rv2, hd2⟩ := of_each eo
      obtain ⟨e, he⟩ := sortedAll_at s.heap its (List.toArray out)
      have hp : H (s.heap.objs.size + 1) = none := I.hok.fresh (Nat.le_succ _)
      have hyl : ys.length = out.length := rv2.length
      have I2 : Inv X pins σ (upd H (s.heap.objs.size + 1) (.lst ys)) { s with heap := sortedAll s.heap its (List.toArray out), toks := s.toks } := I.laid (o := .lst ys) (fun b ob q => sortedAll_old q) (Nat.le_succ _) ⟨by rw [hyl, ho]; exact hlen, out, e, rv2, he⟩
      exact ⟨.ref _, _, I2, rfl, kk φ _ _ (gr_alloc hp) (S.alloc hp) (rr_newL S hp hd2)⟩
  · cases hf
end
theorem bt_sorted : bootBuiltins "sorted" = some (.builtin "sorted") := by decide +kernel
end Ev

set_option Elab.async false
set_option linter.all false
set_option maxRecDepth 100000
/-! three names at once; list.remove. -/
namespace Ev
open PySem PySem.Spec PyProof.Rows L2
def sPar3 (i j l : Nat) (f : AF) : SF := fun env m => (f env m).bind fun x => match x.1 with
  | [a, b, c] => some (.nx (((env.set i (some a)).set j (some b)).set l (some c)) x.2)
  | _ => none
section
variable {X : Cx} {fa : AF} {pos : Pos}
theorem s_par3 {i j l : Nat} {x y z : Str} {a b c : Expr} {px py pz pt : Pos} {kt k2 : Nat} {pt2 : Pos} (hc : X.calm = true) (hN : X.N.Nodup) (hi : X.N[i]? = some x) (hj : X.N[j]? = some y) (hl : X.N[l]? = some z) (hij : i ≠ j) (hil : i ≠ l) (hjl : j ≠ l)
    (hx : X.env.scope.names.lookup x = some .local) (hy : X.env.scope.names.lookup y = some .local) (hz : X.env.scope.names.lookup z = some .local) (ha : PA X [a, b, c] (tA ζ X.K fa))
    (hw : swappedStores [.Tuple [.Name x px, .Name y py, .Name z pz] kt pt] (.Tuple [a, b, c] k2 pt2) X.env = pure (some [x, y, z]))
    (hs : swapsWithSole [.Tuple [.Name x px, .Name y py, .Name z pz] kt pt] (.Tuple [a, b, c] k2 pt2) pos.line X.env = pure false := by rfl) :
    PS X (.Assign [.Tuple [.Name x px, .Name y py, .Name z pz] kt pt] (.Tuple [a, b, c] k2 pt2) pos) (tS ζ X.K (sPar3 i j l fa)) := ps_imp (ps_par3 hc hN hi hj hl hij hil hjl hx hy hz ha hw hs) fun W σ H q => by
  obtain ⟨φ, env, m, fl, S, E, hf, k⟩ := q
  obtain ⟨⟨rs, m1⟩, h1, hf⟩ := bind_some_iff hf
  simp only at hf
  split at hf
  · cases hf
    refine ⟨φ, env, m, _, m1, S, E, h1, fun φ1 H1 vs g1 S1 R1 => ?_⟩
    cases R1 with
    | cons a1 t1 =>
      cases t1 with
      | cons a2 t2 =>
        cases t2 with
        | cons a3 t3 =>
          cases t3
          exact ⟨_, _, _, rfl, k φ1 _ H1 g1 S1 ((((E.mono g1).set a1 i).set a2 j).set a3 l)⟩
  · cases hf
end
/-- the first place of x -/
def placeI (x : Int) : List Int → Option Nat
  | [] => none
  | y :: ys => if y = x then some 0 else (placeI x ys).bind fun j => some (j + 1)
theorem placeI_at {x : Int} : ∀ {ns : List Int} {j : Nat}, placeI x ns = some j → ns[j]? = some x ∧ ∀ i : Nat, i < j → ns[i]? ≠ some x
  | [], j, h => by cases h
  | y :: ys, j, h => by
    unfold placeI at h
    split at h
    · rename_i e
      cases h
      subst e
      exact ⟨rfl, fun i hi => absurd hi (Nat.not_lt_zero _)⟩
    · rename_i e
      obtain ⟨i, h1, h⟩ := bind_some_iff h
      cases h
      obtain ⟨a, b⟩ := placeI_at h1
      refine ⟨by simpa using a, fun q hq => ?_⟩
      cases q with
      | zero => simpa using e
      | succ q => simpa using b q (Nat.lt_of_succ_lt_succ hq)
def pRemove : MF := fun r rs m => match r, rs with
  | .ref k, [.val (.int x)] => (m[k]?).bind fun o => match o with
    | .lst ds => (asIs ds).bind fun ns => (placeI x ns).bind fun j => some (.val .none, m.set k (.lst ((ns.eraseIdx j).map PyData.int)))
    | .dct _ _ _ => none
  | _, _ => none
section
variable {X : Cx} {k : Nat}
theorem m_remove : MtR X "list.remove" (rmP ζ X.K pRemove) := by
  intro pins s σ H x xs v us Q I rx rxs h
  obtain ⟨φ, m, r0, rs, r, m', S, R0, RS, hf, kk⟩ := h
  unfold pRemove at hf
  split at hf
  · rename_i k y
    obtain ⟨ob, ho, hf⟩ := bind_some_iff hf
    cases ob with
    | dct t lk kvs => cases hf
    | lst ds =>
      obtain ⟨ns, h1, hf⟩ := bind_some_iff hf
      obtain ⟨j, h2, hf⟩ := bind_some_iff hf
      cases hf
      have e := asIs_eq h1
      subst e
      obtain ⟨a, rfl, ha⟩ := R0
      obtain ⟨zs, h3, h4⟩ := S.obj k _ a ho ha
      have ez := ints_of_dpAll h4
      subst ez
      obtain ⟨e1, e2⟩ := placeI_at h2
      have hin : a ∈ φ.s := List.mem_of_getElem? ha
      cases RS with
      | cons r1 t1 =>
        cases t1
        have e3 := rr_int r1
        subst e3
        exact mt_remove pins s σ H _ _ v us Q I rx rxs ⟨a, ns, y, j, rfl, rfl, h3, e1, e2, kk φ _ _ (gr_write hin (S.apart hin) (nf_lst h3)) (S.write ha (dpAll_ints _)) Dp.non⟩
  · cases hf
end
end Ev

set_option Elab.async false
set_option linter.all false
set_option maxRecDepth 100000
/-! list(range(..)), tuple(range(..)). -/
namespace Ev
open PySem PySem.Spec PyProof.Rows L2
theorem rgV_dp {K : PySem.W.Frag} {H : Hp} (a b : Int) : DpAll K H (rgV a b) (rngD a (b - a).toNat) := by
  unfold rgV rngD
  have : ∀ l : List Nat, DpAll K H (l.map fun i => V.int (a + (i : Nat))) (l.map fun j : Nat => PyData.int (a + (j : Int))) := by
    intro l
    induction l with
    | nil => exact .nil
    | cons x l ih => exact .cons (.int _) ih
  exact this _
def rgOkB (a b : Int) : Bool := decide (-(2 ^ 62) ≤ a ∧ a < 2 ^ 62 ∧ -(2 ^ 62) ≤ b ∧ b < 2 ^ 62 ∧ (b - a).toNat ≤ 2 ^ 24)
theorem rgOk_of {a b : Int} (h : rgOkB a b = true) : RgOk a b := of_decide_eq_true (p := -(2 ^ 62) ≤ a ∧ a < 2 ^ 62 ∧ -(2 ^ 62) ≤ b ∧ b < 2 ^ 62 ∧ (b - a).toNat ≤ 2 ^ 24) h
/-- range(b), range(a, b) as data -/
def nRg1 (f : EF) : NF := fun env m => (f env m).bind fun x => (asI x.1).bind fun b => if rgOkB 0 b = true then some (rngD 0 (b - 0).toNat, x.2) else none
def nRg2 (f g : EF) : NF := fun env m => (f env m).bind fun x => (g env x.2).bind fun y => (asI x.1).bind fun a => (asI y.1).bind fun b => if rgOkB a b = true then some (rngD a (b - a).toNat, y.2) else none
def eTupN (f : NF) : EF := fun env m => (f env m).bind fun x => some (.val (.tuple x.1), x.2)
section
variable {X : Cx} {a b : Expr} {f g : EF} {p p2 pos pos2 : Pos}
theorem n_listRg1 (hc : X.calm = true) (hg : Gl X "list") (hm : X.mg "list" = none) (hg2 : Gl X "range") (hm2 : X.mg "range" = none) (ha : PE X a (tE ζ X.K f)) (na : starEach [a] X.env = (false, eval a X.env) :: starEach [] X.env := by rfl)
    (nc : starEach [.Call (.Name "range" p2) [a] [] pos2] X.env = (false, eval (.Call (.Name "range" p2) [a] [] pos2) X.env) :: starEach [] X.env := by rfl) : PE X (.Call (.Name "list" p) [.Call (.Name "range" p2) [a] [] pos2] [] pos) (tN ζ X.K (nRg1 f)) :=
  pe_imp (pe_listRg hc hg hm (prg_1 hg2 hm2 ha na) nc) fun σ H Q q => by
  obtain ⟨φ, env, m, ds, m', S, E, hf, k⟩ := q
  obtain ⟨⟨r, m1⟩, h1, hf⟩ := bind_some_iff hf
  obtain ⟨i, h2, hf⟩ := bind_some_iff hf
  split at hf
  · rename_i hr
    cases hf
    refine ⟨φ, env, m, r, m1, S, E, h1, fun φ1 H1 v g1 S1 R1 => ?_⟩
    have e := asI_some h2
    simp only at e
    subst e
    have e2 := rr_int R1
    subst e2
    exact ⟨i, rfl, rgOk_of hr, fun q hq => k φ1 H1 q _ g1 S1 hq (rgV_dp 0 i)⟩
  · cases hf
theorem n_listRg2 (hc : X.calm = true) (hg : Gl X "list") (hm : X.mg "list" = none) (hg2 : Gl X "range") (hm2 : X.mg "range" = none) (ha : PE X a (tE ζ X.K f)) (hb : PE X b (tE ζ X.K g))
    (na : starEach [a, b] X.env = (false, eval a X.env) :: starEach [b] X.env := by rfl) (nb : starEach [b] X.env = (false, eval b X.env) :: starEach [] X.env := by rfl) (nh : (backTo pos2 (starEach [b] X.env)).any (·.1) = false := by rfl)
    (nc : starEach [.Call (.Name "range" p2) [a, b] [] pos2] X.env = (false, eval (.Call (.Name "range" p2) [a, b] [] pos2) X.env) :: starEach [] X.env := by rfl) : PE X (.Call (.Name "list" p) [.Call (.Name "range" p2) [a, b] [] pos2] [] pos) (tN ζ X.K (nRg2 f g)) :=
  pe_imp (pe_listRg hc hg hm (prg_2 hg2 hm2 ha hb na nb nh) nc) fun σ H Q q => by
  obtain ⟨φ, env, m, ds, m', S, E, hf, k⟩ := q
  obtain ⟨⟨r, m1⟩, h1, hf⟩ := bind_some_iff hf
  obtain ⟨⟨r2, m2⟩, h2, hf⟩ := bind_some_iff hf
  obtain ⟨i, h3, hf⟩ := bind_some_iff hf
  obtain ⟨j, h4, hf⟩ := bind_some_iff hf
  split at hf
  · rename_i hr
    cases hf
    refine ⟨φ, env, m, r, m1, S, E, h1, fun φ1 H1 v g1 S1 R1 => ?_⟩
    refine ⟨φ1, env, m1, r2, m2, S1, E.mono g1, h2, fun φ2 H2 v2 g2 S2 R2 => ?_⟩
    have e3 := asI_some h3
    have e4 := asI_some h4
    simp only at e3 e4
    subst e3 e4
    have e5 := rr_int R1
    have e6 := rr_int R2
    subst e5 e6
    exact ⟨i, j, rfl, rfl, rgOk_of hr, fun q hq => k φ2 H2 q _ (g1.trans g2) S2 hq (rgV_dp i j)⟩
  · cases hf
end
end Ev

set_option Elab.async false
set_option linter.all false
set_option maxRecDepth 100000
set_option maxHeartbeats 1000000
/-! A lambda of one parameter: its context. -/
namespace Ev
open PySem PySem.Spec PyProof.Rows L2 LamX
/-- slots that the lambda's own name hides are masked -/
def mskL {α : Type} : List Bool → List (Option α) → List (Option α)
  | true :: bs, _ :: l => none :: mskL bs l
  | false :: bs, x :: l => x :: mskL bs l
  | [], l => l
  | _, [] => []
theorem mskL_len {α : Type} : ∀ (bs : List Bool) (l : List (Option α)), (mskL bs l).length = l.length
  | true :: bs, _ :: l => by simp [mskL, mskL_len bs l]
  | false :: bs, _ :: l => by simp [mskL, mskL_len bs l]
  | [], l => by cases l <;> rfl
  | true :: _, [] => rfl
  | false :: _, [] => rfl
theorem mskL_get {α : Type} : ∀ {bs : List Bool} {l : List (Option α)} {i : Nat} {x : α}, (mskL bs l)[i]? = some (some x) → l[i]? = some (some x) ∧ bs[i]? ≠ some true
  | true :: bs, _ :: l, 0, x, h => by simp [mskL] at h
  | true :: bs, _ :: l, i + 1, x, h => by
    have := mskL_get (bs := bs) (l := l) (i := i) (by simpa [mskL] using h)
    simpa using this
  | false :: bs, y :: l, 0, x, h => by
    simp only [mskL, List.getElem?_cons_zero] at h ⊢
    exact ⟨h, by simp⟩
  | false :: bs, _ :: l, i + 1, x, h => by
    have := mskL_get (bs := bs) (l := l) (i := i) (by simpa [mskL] using h)
    simpa using this
  | [], l, i, x, h => by
    have e : mskL [] l = l := by cases l <;> rfl
    rw [e] at h
    exact ⟨h, by simp⟩
  | true :: _, [], i, x, h => by simp [mskL] at h
  | false :: _, [], i, x, h => by simp [mskL] at h
/-- one parameter p, no name of its own else: captured ones and globals -/
structure LamP (sc scope : Scope) (p : Str) : Prop where
  kind : scope.kind = .function
  co : scope.isCoroutine = false
  gen : scope.isGenerator = false
  par : scope.names.lookup p = some .local
  nocell : ∀ y ∈ scope.names, y.2 ≠ .cell
  own : ∀ y ∈ scope.names, y.2 = .local → y.1 = p
  free : ∀ y ∈ scope.names, y.2 = .free → sc.names.lookup y.1 = some .cell ∨ sc.names.lookup y.1 = some .free
def lamPB (sc scope : Scope) (p : Str) : Bool :=
  decide (scope.kind = .function) && !scope.isCoroutine && !scope.isGenerator && decide (scope.names.lookup p = some .local) && scope.names.all fun y => !decide (y.2 = .cell) && (!decide (y.2 = .local) || decide (y.1 = p)) && (!decide (y.2 = .free) || decide (sc.names.lookup y.1 = some .cell) || decide (sc.names.lookup y.1 = some .free))
theorem lamP_by {sc scope : Scope} {p : Str} (h : lamPB sc scope p = true) : LamP sc scope p := by
  unfold lamPB at h
  simp only [Bool.and_eq_true, Bool.or_eq_true, Bool.not_eq_true', decide_eq_true_eq, decide_eq_false_iff_not, List.all_eq_true] at h
  obtain ⟨⟨⟨⟨h1, h2⟩, h3⟩, h5⟩, h4⟩ := h
  refine ⟨h1, h2, h3, h5, fun y hy => (h4 y hy).1.1, fun y hy e => ?_, fun y hy e => ?_⟩
  · rcases (h4 y hy).1.2 with z | z
    · exact absurd e z
    · exact z
  · rcases (h4 y hy).2 with (z | z) | z
    · exact absurd e z
    · exact .inl z
    · exact .inr z
theorem LamP.has {X : Cx} {scope : Scope} {p : Str} (L : LamP X.env.scope scope p) (ok : X.Ok) : ∀ y ∈ scope.names, y.2 = .free → ∃ c, X.env.cells.lookup y.1 = some c := fun y hy e => by
  rcases L.free y hy e with k | k
  · exact ok.has _ (.inl k)
  · exact ok.has _ (.inr k)
/-- nothing is wanted of an exception: there is none -/
def noX : XK := fun _ _ _ => False
/-- the context of the lambda's body -/
def lamCxP (X : Cx) (A : Around) (outer : List Env) (s : Shared) (H : Hp) (scope : Scope) (p : Str) (f c' : Addr) : Cx := { LamX.lamCx X A outer s H noX scope f c' with N := p :: X.N }
section
variable {X : Cx} {pins : List (Addr × Obj)} {σ : L2.St} {H : Hp} {s : Shared}
theorem lam_startP {A : Around} {scope : Scope} {p : Str} {f c' : Addr} {h₁ : Heap} {tk : Nat} {bs : List Bool} {v : V} {u : Value} (I : Inv X pins σ H s) (L : LamP X.env.scope scope p) (e0 : Env0 X.prog X.w X.K X.mg X.base A X.stack s H) (hd : A.handled = none)
    (hm : ∀ i : Nat, X.N[i]? = some p → bs[i]? = some true) (r : RelV v u)
    (hns : h₁.Ns s.heap.objs.size fun y => ([(p, u)] : List (Str × Value)).reverse.lookup y) (kp : ∀ b o, s.heap.get? b = some o → h₁.get? b = some o) :
    Inv (lamCxP X A X.stack s H scope p f c') [] (some v :: mskL bs σ) H { s with heap := h₁, toks := tk } := by
  have hfree := L.has I.ok
  have cm : ∀ {y c}, (cloFrom X.env.cells scope.names []).lookup y = some c → X.env.cells.lookup y = some c := fun {y c} e => by
    rcases cloFrom_mem (PySem.mem_of_lookup e) with hm | ⟨h1, h2⟩
    · cases hm
    · obtain ⟨c1, hc⟩ := hfree _ h1 rfl
      have hc : X.env.cells.lookup y = some c1 := hc
      have e2 : c = c1 := by
        rw [h2, hc] <;> rfl
      rw [e2]
      exact hc
  have look : ∀ {y}, scope.names.lookup y = some .free → ∃ c, (cloFrom X.env.cells scope.names []).lookup y = some c := fun {y} hl => by
    have hy : (y, NameKind.free) ∈ scope.names := PySem.mem_of_lookup hl
    exact mem_lookup (cloFrom_has (cells := X.env.cells) (acc := []) hy)
  have cellK : ∀ {c : Addr} {v : Option Value}, s.heap.IsCell c v → h₁.IsCell c v := fun {c v} ⟨o, ho, hd⟩ => ⟨o, kp _ _ ho, hd⟩
  have noA : ∀ b : Addr, b ∉ (lamCxP X A X.stack s H scope p f c').ex := fun b z => absurd (show b ∈ ([] : List Addr) from z) (by simp)
  refine ⟨⟨e0.mod, L.kind, rfl, rfl, Nat.le_refl _, fun y z c e1 e2 => I.ok.inj y z c (cm e1) (cm e2), fun y hy => ?_, fun y c z _ => ?_, fun _ => hd, Around.frames_deeper e0.frames, .inr ⟨rfl, rfl⟩, fun b z => absurd z (noA b), e0.bs, e0.bsz, fun b _ _ => noA b,
      fun b z => absurd z (noA b), e0.funs, e0.frf⟩,
    rfl, e0.bare, Un.kept kp, ⟨_, hns, fun i y w e1 e2 e3 => ?_⟩, fun y c e => ?_, e0.hok.fresh (Nat.le_refl _), fun y c e => ?_, fun q hq => absurd (show q ∈ ([] : List (Addr × Obj)) ++ [] from hq) (by simp), e0.hok.kept kp, ?_⟩
  · have hy : scope.names.lookup y = some .cell ∨ scope.names.lookup y = some .free := hy
    rcases hy with hy | hy
    · exact absurd rfl (L.nocell _ (PySem.mem_of_lookup hy))
    · exact look hy
  · have z : false = true := z
    cases z
  · have e1 : (p :: X.N)[i]? = some y := e1
    have e3 : Vis scope y := e3
    cases i with
    | zero =>
      simp only [List.getElem?_cons_zero, Option.some.injEq] at e1 e2
      subst e1
      subst e2
      exact ⟨u, r, .inl ⟨L.par, by simp⟩⟩
    | succ i =>
      simp only [List.getElem?_cons_succ] at e1 e2
      obtain ⟨e2, hb⟩ := mskL_get e2
      have np : y ≠ p := fun z => hb (hm i (z ▸ e1))
      rcases e3 with k | k | k
      · exact absurd (L.own _ (PySem.mem_of_lookup k) rfl) np
      · exact absurd rfl (L.nocell _ (PySem.mem_of_lookup k))
      · obtain ⟨m, hn, hl⟩ := I.loc
        have hvis : Vis X.env.scope y := (L.free _ (PySem.mem_of_lookup k) rfl).elim (fun k => .inr (.inl k)) (fun k => .inr (.inr k))
        obtain ⟨w', r, q⟩ := hl i y w e1 e2 hvis
        obtain ⟨c2, h2⟩ := look k
        refine ⟨w', r, .inr ⟨.inr k, c2, h2, ?_⟩⟩
        have c1 := cm h2
        rcases q with ⟨k', _⟩ | ⟨_, c3, e', z⟩
        · have k' : X.env.scope.names.lookup y = some .local := k'
          rcases L.free _ (PySem.mem_of_lookup k) rfl with k2 | k2 <;> rw [show X.env.scope.names.lookup y = _ from k2] at k' <;> cases k'
        · rw [c1] at e'
          cases e'
          exact cellK z
  · obtain ⟨w', z⟩ := I.cell y c (cm e)
    exact ⟨w', cellK z⟩
  · exact I.freeC y c (cm e)
  · show (some v :: mskL bs σ).length = (p :: X.N).length
    rw [List.length_cons, List.length_cons, mskL_len, I.len]
/-- the lambda is called -/
theorem lam_callP {A : Around} {scope : Scope} {p : Str} {f c' : Addr} {params : Arguments} {body : Expr} {pm ctv : Value} {bs : List Bool} {v : V} {u : Value} {k : Nat} {Q : VK} {tb : TE} (I : Inv X pins σ H s) (L : LamP X.env.scope scope p) (e0 : Env0 X.prog X.w X.K X.mg X.base A X.stack s H)
    (hr : Room (k + 1) A) (hm : ∀ i : Nat, X.N[i]? = some p → bs[i]? = some true) (r : RelV v u)
    (hf : s.heap.get? f = some (PySem.W.kla_obj "<lambda>" (X.env.qual ++ "<lambda>") params body scope (cloFrom X.env.cells scope.names []) pm c' ctv)) (hco : H c' = some (CodeO c' (X.env.qual ++ "<lambda>")))
    (hbind : bindArgs (PySem.W.kla_fn "<lambda>" (X.env.qual ++ "<lambda>") params body scope (cloFrom X.env.cells scope.names []) pm (.ref c') ctv) ⟨[u], []⟩ = pure [(p, u)])
    (hbody : Room k (A.deeper (lamEnv X scope s.heap.objs.size f c')) → PE (lamCxP X A X.stack s H scope p f c') body tb) (ht : tb (some v :: mskL bs σ) H Q) :
    codeAny (model X.prog X.w) A (.call (.ref f) ⟨[u], []⟩) (CR (L2.CX X.prog X.w) X.stack X.prog X.w H s Q noX) s := by
  obtain ⟨⟨oc, vs, t, hoc, hdc, hvc⟩, _, _⟩ := I.hok c' _ hco
  refine PySem.W.kla_callFunE hr.depth hf rfl L.co L.gen rfl ⟨c', oc, vs, t, rfl, hoc, hdc, hvc⟩ ?_
  rw [hbind]
  refine wpAny_pure (wpAny_newFunctionEnv L.nocell (fun y hy => ?_) (fun h₁ hns hsb => ⟨I.nolimit.fresh _ hsb, ?_⟩) L.kind)
  · rw [List.mem_singleton.mp hy]
    exact L.par
  show codeAny _ _ (.expr body (lamEnv X scope s.heap.objs.size f c')) _ _
  have kp : ∀ b o, s.heap.get? b = some o → h₁.get? b = some o := fun b o e => hsb.extBut b o (Nat.ne_of_lt (Heap.lt_size e)) (Heap.get?_push_of_some _ e)
  have J : Inv (lamCxP X A X.stack s H scope p f c') [] (some v :: mskL bs σ) H { s with heap := h₁, toks := s.toks + ([(p, u)] : List (Str × Value)).length } := lam_startP I L e0 hr.hd hm r hns kp
  refine PySem.W.kla_codeExpr (wpAny_mono ((hbody (hr.deeper _)).run [] _ _ H Q J ht) (fun v s' hq => ?_) fun e s' hq => hq)
  obtain ⟨w', H', J', rv, q⟩ := hq
  exact ⟨w', H', J'.os, J'.bare, J'.base, J'.hok, rv, q⟩
theorem noX_cx {P : Program} {w : World} {outer : List Env} {H : Hp} {s s' : Shared} {u : Value} (h : L2.CX P w outer H s noX u s') : False := by
  obtain ⟨a, B, H', cls, d, _, _, _, _, _, _, _, q⟩ := h
  exact q
end
end Ev

set_option Elab.async false
set_option linter.all false
set_option maxRecDepth 100000
set_option maxHeartbeats 1000000
/-! sorted(xs, key=f): f may do what it likes with the store. -/
namespace PySem.W
open PySem PySem.Calls PyProof.Rows
section
variable {prog : Program} {w : World} {A : Around} {E : Value → Shared → Prop} {s : Shared} {a kS : Addr} {b : Bool} {vs : List Value} {e1 : Nat} {P : PySem.Fin → Shared → Prop}
theorem keyI_rest {f : Value} {J : Nat → Array Value → Shared → Prop} (h0 : J 0 #[] s) (nk : s.heap.get? kS = some (seqObj "list" #[] 0)) (na : s.heap.get? a = some (seqObj "list" #[] e1)) (hka : kS ≠ a) (hZ : vs.length ≤ sizeLine)
    (turn : ∀ (i : Nat) (v : Value) (keys : Array Value) (e : Nat) (s' : Shared), vs[i]? = some v → J i keys s' → s'.heap.get? kS = some (seqObj "list" keys e) → s'.heap.get? a = some (seqObj "list" #[] e1) →
      wpAny (model prog w) A (call f [v]) (fun k s'' => s''.heap.get? kS = some (seqObj "list" keys e) ∧ s''.heap.get? a = some (seqObj "list" #[] e1) ∧ ∀ h', Heap.SameBut kS s''.heap h' → (∃ o, h'.get? kS = some o) → J (i + 1) (keys.push k) { s'' with heap := h' }) (fun _ _ => False) s')
    (done : ∀ (keys : Array Value) (e : Nat) (s' : Shared), J vs.length keys s' → s'.heap.get? kS = some (seqObj "list" keys e) → s'.heap.get? a = some (seqObj "list" #[] e1) → keys.size = vs.length →
      ∃ kz : List PyData, EachIs (fun v k => ∃ as, Reads s'.heap v k as) keys.toList kz ∧ AllAlike kz ∧ Sortable kz ∧ (∀ d, d ∈ kz → A.units + d.depth < cLine) ∧
        ∀ h' tk out c, (∀ b o, b ≠ a → b ≠ kS → s'.heap.get? b = some o → h'.get? b = some o) → h'.get? a = some (seqObj "list" (List.toArray out) c) → KeyedOut b kz vs out → P (.done (.ret .none)) { s' with heap := h', toks := tk }) :
    wpAny (model prog w) A (ksk_rest a f b vs.toArray e1 (.ref kS)) P E s := by
  unfold ksk_rest
  refine wpAny_bind (wpAny_rule ?_)
  first
    | rw [List.forIn_toArray]
    | (rw [← Array.forIn_toList]; simp only [List.toList_toArray])
    | rw [← Array.forIn_toList]
  refine wpAny_bind (ksk_fold (fun i s' => ∃ kA e, J i kA s' ∧ kA.size = i ∧ s'.heap.get? kS = some (seqObj "list" kA e) ∧ s'.heap.get? a = some (seqObj "list" #[] e1)) vs 0 s
    ⟨#[], 0, h0, rfl, nk, na⟩ ?step ?done)
  case step =>
    rintro j x s' hx ⟨kA, e, hJ, hsz, nk', na'⟩
    simp only [Nat.zero_add] at hJ hsz ⊢
    have hj : j < vs.length := (List.getElem?_eq_some_iff.mp hx).1
    have hz : kA.size ≤ vs.length := by omega
    refine wpAny_bind (wpAny_attempt (wpAny_mono (turn j x kA e s' hx hJ nk' na') (fun v s'' he => ?_) fun _ _ hF => hF.elim))
    obtain ⟨nk2, na2, hn⟩ := he
    try dsimp only
    have s1 := Heap.SameBut.update s''.heap kS (Obj.mapSeq (·.push v))
    obtain ⟨c2, hc2⟩ : ∃ c2, (s''.heap.update kS (Obj.mapSeq (·.push v))).get? kS = some (seqObj "list" (kA.push v) c2) := ⟨_, get?_update_seq nk2 (·.push v)⟩
    refine wpAny_bind (listUpdate_at nk2 rfl ?_ (Nat.le_trans hz hZ) (Nat.le_trans (Nat.le_of_eq (Array.size_push ..)) (Nat.succ_le_succ (Nat.le_trans hz hZ))))
    refine wpAny_pure ⟨rfl, kA.push v, c2, hn _ s1 ⟨_, hc2⟩, ?_, hc2, (s1.2 a hka.symm).trans na2⟩
    rw [Array.size_push, hsz]
  case done =>
    rintro s' ⟨kA, e, hJ, hsz, nk', na'⟩
    rw [Nat.zero_add] at hJ hsz
    obtain ⟨kz, hk, hal, hsk, hu, fin⟩ := done kA e s' hJ nk' na' hsz
    try dsimp only
    refine wpAny_bind (listItems_at nk' rfl ?_)
    have hs : ∀ b, b ∈ ([kS] : List Addr) → b = kS := fun b hb => List.mem_singleton.mp hb
    have hg : ∀ b o, (hideAll s'.heap [kS]).get? b = some o → s'.heap.get? b = some o := fun b o q => of_hideAll [kS] q
    have kp : KeepsBut a (hideAll s'.heap [kS]) s'.heap := fun b o _ q => hg b o q
    have hkS : (hideAll s'.heap [kS]).get? kS = none := hideAll_none [kS] (by simp)
    have hd : EachIs (fun v k => ∃ as, Reads s'.heap v k as) kA.toList kz := hk
    refine keyH_end (κ := dataKind s'.heap kz) (h₁ := hideAll s'.heap [kS]) kp hkS nk' na' hka (SortsAt.data (s := s') hk hal hsk hu) hsz hZ fun h3 tk3 c k3 n3 => ?_
    exact fin h3 tk3 _ c (fun b o h1 h2 q => k3 b o h1 (hideAll_get _ q (by simpa using h2))) n3 ⟨s'.heap, kA.toList, hal, rfl, hk⟩
theorem keyI_tree {f : Value} {n : Nat} {J : Nat → Array Value → Shared → Prop} (ho : s.heap.get? a = some (seqObj "list" vs.toArray n)) (hZ : vs.length ≤ sizeLine)
    (h0 : ∀ h' e1, (∀ b o, b ≠ a → s.heap.get? b = some o → h'.get? b = some o) → h'.get? a = some (seqObj "list" #[] e1) → h'.get? (s.heap.objs.size + 1) = some (seqObj "list" #[] 0) → J 0 #[] { s with heap := h' })
    (turn : ∀ (i : Nat) (v : Value) (keys : Array Value) (e e1 : Nat) (s' : Shared), vs[i]? = some v → J i keys s' → s'.heap.get? (s.heap.objs.size + 1) = some (seqObj "list" keys e) → s'.heap.get? a = some (seqObj "list" #[] e1) →
      wpAny (model prog w) A (call f [v]) (fun k s'' => s''.heap.get? (s.heap.objs.size + 1) = some (seqObj "list" keys e) ∧ s''.heap.get? a = some (seqObj "list" #[] e1) ∧ ∀ h', Heap.SameBut (s.heap.objs.size + 1) s''.heap h' → (∃ o, h'.get? (s.heap.objs.size + 1) = some o) → J (i + 1) (keys.push k) { s'' with heap := h' }) (fun _ _ => False) s')
    (done : ∀ (keys : Array Value) (e : Nat) (s' : Shared), J vs.length keys s' → s'.heap.get? (s.heap.objs.size + 1) = some (seqObj "list" keys e) → keys.size = vs.length →
      ∃ kz : List PyData, EachIs (fun v k => ∃ as, Reads s'.heap v k as) keys.toList kz ∧ AllAlike kz ∧ Sortable kz ∧ (∀ d, d ∈ kz → A.units + d.depth < cLine) ∧
        ∀ h' tk out c, (∀ b o, b ≠ a → b ≠ s.heap.objs.size + 1 → s'.heap.get? b = some o → h'.get? b = some o) → h'.get? a = some (seqObj "list" (List.toArray out) c) → KeyedOut b kz vs out → P (.done (.ret .none)) { s' with heap := h', toks := tk }) :
    wpAny (model prog w) A (ksk_tree a f b) P E s := by
  have ha : a < s.heap.objs.size := Heap.lt_size ho
  obtain ⟨e1, ho1⟩ : ∃ e1, (s.heap.update a (Obj.mapSeq fun _ => (#[] : Array Value))).get? a = some (seqObj "list" #[] e1) := ⟨_, get?_update_seq ho fun _ => #[]⟩
  have hkS : ((s.heap.update a (Obj.mapSeq fun _ => (#[] : Array Value))).push (seqObj "tuple" vs.toArray 0)).objs.size = s.heap.objs.size + 1 := by rw [size_push', Heap.size_update]
  unfold ksk_tree
  refine wpAny_bind (listItems_at ho rfl ?_)
  refine wpAny_bind (listUpdate_at ho rfl ?_ (by rw [List.size_toArray]; exact hZ) (Nat.zero_le _))
  refine wpAny_bind (seqEpoch_at ho1 rfl ?_)
  refine wpAny_bind (wpAny_newTuple ?_ (by show vs.length ≤ _; exact hZ))
  refine wpAny_bind (wpAny_newList ?_ (Nat.zero_le _))
  refine wpAny_holding ?_
  have kp : ∀ b o, b ≠ a → s.heap.get? b = some o → (sortingHeap s.heap a vs).get? b = some o := fun b o hb q => sortingHeap_old hb q
  have hk2 : (((s.heap.update a (Obj.mapSeq fun _ => (#[] : Array Value))).push (seqObj "tuple" vs.toArray 0)).push (seqObj "list" #[] 0)).get? (s.heap.objs.size + 1) = some (seqObj "list" #[] 0) := by
    rw [← hkS]
    exact Heap.get?_push_size _ rfl
  have ha2 : (((s.heap.update a (Obj.mapSeq fun _ => (#[] : Array Value))).push (seqObj "tuple" vs.toArray 0)).push (seqObj "list" #[] 0)).get? a = some (seqObj "list" #[] e1) := Heap.get?_push_of_some _ (Heap.get?_push_of_some _ ho1)
  have J0 := h0 (((s.heap.update a (Obj.mapSeq fun _ => (#[] : Array Value))).push (seqObj "tuple" vs.toArray 0)).push (seqObj "list" #[] 0)) e1 kp ha2 hk2
  rw [hkS]
  exact keyI_rest (J := J) (s := { s with heap := ((s.heap.update a (Obj.mapSeq fun _ => (#[] : Array Value))).push (seqObj "tuple" vs.toArray 0)).push (seqObj "list" #[] 0) }) (kS := s.heap.objs.size + 1) J0 hk2 ha2
    (Nat.ne_of_gt (Nat.lt_succ_of_lt ha)) hZ (fun i v keys e s' h1 h2 h3 h4 => turn i v keys e e1 s' h1 h2 h3 h4) fun keys e s' h1 h2 _ h4 => done keys e s' h1 h2 h4
end
end PySem.W

set_option Elab.async false
set_option linter.all false
set_option maxRecDepth 100000
set_option maxHeartbeats 1000000
/-! sorted(.., key=lambda p: ..). -/
namespace PySem.W
open PySem PySem.Calls PyProof.Rows
section
variable {prog : Program} {w : World} {A : Around} {E : Value → Shared → Prop} {s : Shared}
/-- sorted(xs, ..): the items collected, a new list of them sorted -/
theorem sorted_of_collect {u : Value} {kw : List (Str × Value)} {Q : Value → Shared → Prop} (ha1 : argsOk "sorted" ⟨[u], kw⟩) (ha2 : ∀ x, argsOk "list.sort" ⟨[.ref x], kw⟩)
    (body : ∀ E' : Value → Shared → Prop, wpAny (model prog w) A.in1 (collect u) (fun vs s1 => vs.length ≤ sizeLine ∧
      ∀ h2 c, (∀ b o, s1.heap.get? b = some o → h2.get? b = some o) → h2.objs.size = s1.heap.objs.size + 1 → h2.get? s1.heap.objs.size = some (seqObj "list" vs.toArray c) →
        ∀ E2 : Value → Shared → Prop, wpAny (model prog w) A.in1.in1 (Builtin.«list.sort» ⟨[.ref s1.heap.objs.size], kw⟩) (fun f s' => f = .done (.ret .none) ∧ Q (.ref s1.heap.objs.size) s') E2 { s1 with heap := h2 }) E' s) :
    wpAny (model prog w) A (call (.builtin "sorted") [u] kw) Q E s := by
  refine call_function_entry_kw kind_sorted plain_sorted entry_sorted ha1 ?_
  unfold Builtin.«sorted»
  refine wpAny_bind (m := checkCount "sorted" 1 1 _) (wpAny_pure ?_)
  refine wpAny_bind (wpAny_mono (body _) (fun vs s1 hq => ?_) fun _ _ e => e)
  obtain ⟨hL, hb⟩ := hq
  refine wpAny_bind (wpAny_newList ?_ hL)
  have hat : (s1.heap.push (seqObj "list" vs.toArray 0)).get? s1.heap.objs.size = some (seqObj "list" vs.toArray 0) := Heap.get?_push_size _ rfl
  refine wpAny_bind (wpAny_holding (wpAny_call_entry_kw slot_list_sort ⟨_, hat, rfl⟩ entry_list_sort ?body (ha2 _)))
  case body =>
    refine wpAny_mono (hb (s1.heap.push (seqObj "list" vs.toArray 0)) 0 (fun b o q => Heap.get?_push_of_some _ q) (size_push' _ _) hat _) (fun f s' hf => ?_) fun _ _ e => e
    obtain ⟨rfl, hq⟩ := hf
    exact ⟨_, rfl, wpAny_pure ⟨_, rfl, hq⟩⟩
end
end PySem.W
namespace Ev
open PySem PySem.Spec PyProof.Rows L2 LamX
/-- a lambda at f that is there, with its body's reading -/
structure LamAt (ζ : Tbs) (X : Cx) (k : Nat) (bs : List Bool) (fb : EF) (p : Str) (f : Addr) (s : Shared) (H : Hp) : Prop where
  call : ∀ {pins : List (Addr × Obj)} {σ : L2.St} {H' : Hp} {s' : Shared} {φ : Ad} {env : Sl} {m m1 : M} {r r1 : R} {v : V} {u : Value} {A : Around}, Inv X pins σ H' s' → Env0 X.prog X.w X.K X.mg X.base A X.stack s' H' → Room (k + 1) A →
    (s.heap.get? f = s'.heap.get? f) → (∀ c q, H c = some (CodeO c q) → H' c = some (CodeO c q)) → RelV v u → SR ζ X.K φ H' m → ER X.K φ H' σ env → RR X.K φ H' v r → fb (some r :: mskL bs env) m = some (r1, m1) →
      wpAny (model X.prog X.w) A (PySem.call (.ref f) [u]) (fun k s'' => ∃ x φ2 H'', RelV x k ∧ Inv X pins σ H'' s'' ∧ Un (frs X.stack) [] H' H'' s'.heap s''.heap ∧ Gr φ H' φ2 H'' ∧ SR ζ X.K φ2 H'' m1 ∧ RR X.K φ2 H'' x r1) (fun _ _ => False) s'
  free : H f = none
  nofr : f ∉ frs X.stack
  here : ∃ o, s.heap.get? f = some o
theorem er_msk {K : PySem.W.Frag} {φ : Ad} {H : Hp} {σ : L2.St} {env : Sl} {v : V} {r : R} (E : ER K φ H σ env) (h : RR K φ H v r) (bs : List Bool) : ER K φ H (some v :: mskL bs σ) (some r :: mskL bs env) := by
  refine ⟨by rw [List.length_cons, List.length_cons, mskL_len, mskL_len, E.len], fun i q e => ?_⟩
  cases i with
  | zero =>
    simp only [List.getElem?_cons_zero, Option.some.injEq] at e
    subst e
    exact ⟨v, rfl, h⟩
  | succ i =>
    rw [List.getElem?_cons_succ] at e
    obtain ⟨e1, nb⟩ := mskL_get e
    obtain ⟨w, e2, e3⟩ := E.at_ i q e1
    refine ⟨w, ?_, e3⟩
    rw [List.getElem?_cons_succ]
    have : ∀ (bs : List Bool) (l : L2.St) (i : Nat) (w : V), l[i]? = some (some w) → bs[i]? ≠ some true → (mskL bs l)[i]? = some (some w) := by
      intro bs
      induction bs with
      | nil =>
        intro l i w e _
        have z : mskL [] l = l := by cases l <;> rfl
        rw [z]
        exact e
      | cons b bs ih =>
        intro l i w e nb
        cases l with
        | nil => simp at e
        | cons y l =>
          cases i with
          | zero =>
            simp only [List.getElem?_cons_zero] at e nb ⊢
            cases b with
            | true => exact absurd rfl nb
            | false => simpa [mskL] using e
          | succ i =>
            simp only [List.getElem?_cons_succ] at e nb
            have := ih l i w e nb
            cases b <;> simpa [mskL] using this
    exact this bs σ i w e2 nb
theorem code_stay {K : PySem.W.Frag} {φ φ' : Ad} {H H' : Hp} {m : M} (S : SR ζ K φ H m) (g : Gr φ H φ' H') {c : Addr} {q : Str} (h : H c = some (CodeO c q)) : H' c = some (CodeO c q) := by
  by_cases hc : c ∈ φ.h
  · exact g.stay c hc _ h codeO_ne
  · have hs : c ∉ φ.s := fun z => by
      obtain ⟨i, hi, e⟩ := List.mem_iff_getElem.mp z
      have hm : i < m.length := by rw [← S.len]; exact hi
      have o := S.obj i m[i] c (List.getElem?_eq_getElem hm) (by rw [List.getElem?_eq_getElem hi, e])
      exact (o.tc h).2 q rfl
    have ho : off φ H c = some (CodeO c q) := off_some.mpr ⟨fun z => (Ad.mem.mp z).elim hs hc, h, rfl⟩
    exact (off_some.mp (g.same _ _ ho)).2.1
/-- new entries are no tuples -/
def PlN (H H' : Hp) : Prop := ∀ b u, H' b = some u → H b = some u ∨ plO u
theorem plO_code {c : Addr} {q : Str} : plO (CodeO c q) := by
  unfold CodeO
  exact trivial
theorem lam_makeP {X : Cx} {pins : List (Addr × Obj)} {σ : L2.St} {H : Hp} {s : Shared} {T : List (Addr × Str)} {c P : Addr} {params : Arguments} {body : Expr} {scope : Scope} {pos : Pos} {E : Value → Shared → Prop} {Q : Value → Shared → Prop} (I : Inv X pins σ H s) (TB : TabB X.base X.mg c P) (hcode : X.env.code = .ref c)
    (hm : (P, X.env.qual ++ "<lambda>") ∈ T) (hu : ∀ p ∈ T, p.1 = P → p.2 = X.env.qual ++ "<lambda>") (hT : Tabs T H) (hdef : defaultsOf params X.env = ([], [])) (hfree : ∀ y ∈ scope.names, y.2 = .free → ∃ c, X.env.cells.lookup y.1 = some c)
    (h : ∀ (f cb : Addr) (pm ctv : Value) (Hb : Hp) (sb : Shared), Inv X pins σ Hb sb → ExtN H Hb → PlN H Hb → Tabs T Hb →
      sb.heap.get? f = some (PySem.W.kla_obj "<lambda>" (X.env.qual ++ "<lambda>") params body scope (cloFrom X.env.cells scope.names []) pm cb ctv) → Hb f = none → f ∉ frs X.stack → Hb cb = some (CodeO cb (X.env.qual ++ "<lambda>")) → Q (.ref f) sb) :
    wpAny (model X.prog X.w) X.A (eval (.Lambda params body scope pos) X.env) Q E s := by
  obtain ⟨ps, hP, tr, am⟩ := hT _ hm
  refine PySem.W.kla_eval hdef ?_
  have hPs : s.heap.get? P = some { cls := .none, data := .fields ps } := I.hok P _ hP
  have bP : s.heap.BuiltinsAt X.mg P := TB.bm.keeps I.bk
  have out : ∀ f, s.heap.objs.size ≤ f → f ∉ frs X.stack := fun f hf z => by
    rcases List.mem_cons.mp (I.stkSub _ z) with e | e
    · have := I.lt
      rw [← e] at this
      exact Nat.lt_irrefl _ (Nat.lt_of_lt_of_le this hf)
    · exact I.nofs hf e
  cases hc : codeAmong pos ps.toList with
  | some cv =>
    obtain ⟨cb, e, hco⟩ := am pos cv hc
    subst e
    refine PySem.W.kla_makeFunctionHit (mg := X.mg) (c := c) (P := P) (ps := ps) (closure_ok hfree) I.ok.glob (I.mod.glob.keeps I.bk) hcode (TB.code.keeps I.bk) hPs tr hc bP fun ctv h' tk hx hsz => ?_
    exact h _ cb _ ctv H _ (I.kept (t' := tk) fun b o e => Heap.get?_push_of_some _ (hx b o e)) (ExtN.refl H) (fun _ _ e => .inl e) hT (Heap.get?_push_size _ rfl) (I.hok.fresh hsz) (out _ hsz) hco
  | none =>
    refine PySem.W.kla_makeFunction (mg := X.mg) (c := c) (P := P) (ps := ps) (closure_ok hfree) I.ok.glob (I.mod.glob.keeps I.bk) hcode (TB.code.keeps I.bk) hPs tr hc TB.gP bP fun cb ctv h' tk hx hge hlt hrec htb => ?_
    obtain ⟨c2, oc, vs, t, e2, hoc, hd, hv⟩ := hrec
    cases e2
    have hz : s.heap.objs.size ≤ h'.objs.size := Nat.le_trans hge (Nat.le_of_lt hlt)
    have nC : H cb = none := I.hok.fresh hge
    have I1 := inv_table (t' := tk) (more := #[rawInt pos.line, rawInt pos.col, .ref cb]) (h' := h'.push (PySem.W.kla_obj "<lambda>" (X.env.qual ++ "<lambda>") params body scope (cloFrom X.env.cells scope.names []) ((X.mg "__name__").getD .none) cb ctv)) I hP
      (fun b o hb e => Heap.get?_push_of_some _ (hx b o hb e)) (Heap.get?_push_of_some _ htb) hge ⟨oc, vs, t, Heap.get?_push_of_some _ hoc, hd, hv⟩
    have ex : ExtN H (upd (upd H P (.tbl (ps ++ #[rawInt pos.line, rawInt pos.col, .ref cb]))) cb (CodeO cb (X.env.qual ++ "<lambda>"))) := fun b o e n => by
      rw [upd_ne (ne_of_none e nC), upd_ne (fun z => n ps (Option.some.inj (e.symm.trans (by rw [z]; exact hP))))]
      exact e
    have pn : PlN H (upd (upd H P (.tbl (ps ++ #[rawInt pos.line, rawInt pos.col, .ref cb]))) cb (CodeO cb (X.env.qual ++ "<lambda>"))) := fun b u e => by
      by_cases z : b = cb
      · subst z
        rw [upd_same] at e
        cases e
        exact .inr plO_code
      · rw [upd_ne z] at e
        by_cases y : b = P
        · subst y
          rw [upd_same] at e
          cases e
          exact .inr trivial
        · rw [upd_ne y] at e
          exact .inl e
    have el : (ps ++ #[rawInt pos.line, rawInt pos.col, .ref cb]).toList = ps.toList ++ [rawInt pos.line, rawInt pos.col, .ref cb] := by simp
    refine h h'.objs.size cb ((X.mg "__name__").getD .none) ctv _ _ I1 ex pn (fun p hp => ?_) (Heap.get?_push_size _ rfl) ?_ (out _ hz) upd_same
    · by_cases hb : p.1 = P
      · rw [hu p hp hb, hb]
        refine ⟨_, by rw [upd_ne (ne_of_none hP nC), upd_same], by rw [el]; exact PySem.TriplesOk_snoc _ _ _ _ tr, fun p' cv hcv => ?_⟩
        rw [el] at hcv
        rcases among_app _ tr hcv with z | z
        · obtain ⟨c0, e1, e2⟩ := am p' cv z
          exact ⟨c0, e1, ex _ _ e2 codeO_ne⟩
        · exact ⟨cb, z, upd_same⟩
      · obtain ⟨qs, a1, a2, a3⟩ := hT p hp
        refine ⟨qs, by rw [upd_ne (ne_of_none a1 nC), upd_ne hb]; exact a1, a2, fun p' cv hcv => ?_⟩
        obtain ⟨c0, e1, e2⟩ := a3 p' cv hcv
        exact ⟨c0, e1, ex _ _ e2 codeO_ne⟩
    · rw [upd_ne (Nat.ne_of_gt hlt), upd_ne (Nat.ne_of_gt (Nat.lt_of_lt_of_le (Heap.lt_size hPs) hz))]
      exact I.hok.fresh hz
/-- the tables may have grown -/
theorem gr_extN {φ : Ad} {H H' : Hp} (e : ExtN H H') : Gr φ H φ H' := ⟨List.prefix_refl _, rfl, rfl, fun b o h => by
  rw [off_some] at h ⊢
  exact ⟨h.1, e b o h.2.1 (fun ps z => by rw [z] at h; exact absurd h.2.2 (by simp [isTb])), h.2.2⟩, fun b _ u h n => e b u h n, fun b o u h => e b _ h (fun ps z => by cases z)⟩
theorem SR.extN {K : PySem.W.Frag} {φ : Ad} {H H' : Hp} {m : M} (S : SR ζ K φ H m) (e : ExtN H H') (pn : PlN H H') (hT : Tabs φ.t H') : SR ζ K φ H' m := by
  refine ⟨S.len, S.nd, fun i o a e1 e2 => ?_, fun a ha => ?_, S.teq, S.tin, hT, fun b u z => (pn b u z).elim (S.pl b u) id, S.kt⟩
  · have q := S.obj i o a e1 e2
    exact q.mono' (gr_extN e).same fun u z => e _ _ z (fun ps y => (q.tc z).1 ps y)
  · rcases S.hid a ha with ⟨u, h, n⟩ | h
    · exact .inl ⟨u, e a u h (fun ps z => by rw [z] at n; cases n), n⟩
    · exact .inr h
end Ev

set_option Elab.async false
set_option linter.all false
set_option maxRecDepth 100000
set_option maxHeartbeats 1000000
/-! sorted(.., key=lambda p: ..): the rule. -/
namespace Ev
open PySem PySem.Spec PyProof.Rows L2 LamX
section
variable {X : Cx} {pins : List (Addr × Obj)} {σ : L2.St} {H : Hp} {s : Shared} {k : Nat} {bs : List Bool} {fb : EF} {p : Str} {f : Addr}
/-- what a lambda of one parameter asks of its maker -/
structure LamOk (ζ : Tbs) (X : Cx) (k : Nat) (bs : List Bool) (fb : EF) (p : Str) (params : Arguments) (body : Expr) (scope : Scope) (c P : Addr) : Prop where
  tb : TabB X.base X.mg c P
  code : X.env.code = .ref c
  mem : (P, X.env.qual ++ "<lambda>") ∈ ζ
  uniq : ∀ q ∈ ζ, q.1 = P → q.2 = X.env.qual ++ "<lambda>"
  scp : LamP X.env.scope scope p
  dflt : defaultsOf params X.env = ([], [])
  bind : ∀ (q : Str) (cl : List (Str × Addr)) (pm cv ctv : Value) (u : Value), bindArgs (PySem.W.kla_fn "<lambda>" q params body scope cl pm cv ctv) ⟨[u], []⟩ = pure [(p, u)]
  msk : ∀ i : Nat, X.N[i]? = some p → bs[i]? = some true
  body : ∀ (A : Around) (s : Shared) (H : Hp) (f c' : Addr), Room k (A.deeper (lamEnv X scope s.heap.objs.size f c')) → PE (lamCxP X A X.stack s H scope p f c') body (tE ζ X.K fb)
/-- a lambda made: it can be called -/
theorem lam_make {params : Arguments} {body : Expr} {scope : Scope} {pos : Pos} {c P : Addr} {φ : Ad} {m : M} {E : Value → Shared → Prop} {Q : Value → Shared → Prop} (L : LamOk ζ X k bs fb p params body scope c P) (I : Inv X pins σ H s) (S : SR ζ X.K φ H m)
    (h : ∀ f H1 s', Inv X pins σ H1 s' → Gr φ H φ H1 → SR ζ X.K φ H1 m → LamAt ζ X k bs fb p f s' H1 → Q (.ref f) s') : wpAny (model X.prog X.w) X.A (eval (.Lambda params body scope pos) X.env) Q E s := by
  refine lam_makeP (T := ζ) I L.tb L.code L.mem L.uniq (by rw [← S.teq]; exact S.tab) L.dflt (L.scp.has I.ok) fun f c' pm ctv H1 s' I1 eN pn T1 hf hfn hfr hco => ?_
  refine h f H1 s' I1 (gr_extN eN) (S.extN eN pn (by rw [S.teq]; exact T1)) ⟨?_, hfn, hfr, ⟨_, hf⟩⟩
  intro pins σ H' s2 φ env m m1 r r1 v u A I2 e0 hr hfe hcc rv S2 E2 R2 hfb
  have hf2 := hf
  rw [hfe] at hf2
  refine wpAny_call (codeAny_mono (lam_callP (Q := fun x H'' => ∃ φ2, Gr φ H' φ2 H'' ∧ SR ζ X.K φ2 H'' m1 ∧ RR X.K φ2 H'' x r1) I2 L.scp e0 hr L.msk rv hf2 (hcc _ _ hco) (L.bind _ _ _ _ _ _) (fun _ => L.body A s2 H' f c' ‹_›)
    ⟨φ, some r :: mskL bs env, m, r1, m1, S2, er_msk E2 R2 bs, hfb, fun φ2 H2 v2 g2 S3 R3 => ⟨φ2, g2, S3, R3⟩⟩) fun q s3 hq => ?_)
  cases q with
  | error e => exact (noX_cx hq).elim
  | ok fl =>
    cases fl with
    | ret u2 =>
      obtain ⟨x, H2, os, bare, un, hok, rx, φ2, g2, S3, R3⟩ := hq
      obtain ⟨hh, g, d, t, os'⟩ := s3
      obtain rfl : os' = s2.os := os
      exact ⟨x, φ2, H2, rx, I2.call (h' := hh) (g' := g) (d' := d) (t' := t) (ch := []) un hok bare (fun b z => absurd z (by simp)), un, g2, S3, R3⟩
    | next => exact False.elim hq
    | brk => exact False.elim hq
    | cont => exact False.elim hq
end
/-- a key as data -/
def keyF (fb : EF) (bs : List Bool) (env : Sl) (d : D) (m : M) : Option (D × M) := (fb (some (.val d) :: mskL bs env) m).bind fun x => match x.1 with
  | .val k => some (k, x.2)
  | _ => none
def kfold (fk : D → M → Option (D × M)) : List D → M → Option (List D × M)
  | [], m => some ([], m)
  | d :: ds, m => (fk d m).bind fun x => (kfold fk ds x.2).bind fun y => some (x.1 :: y.1, y.2)
theorem kfold_len {fk : D → M → Option (D × M)} : ∀ {ds ks : List D} {m m' : M}, kfold fk ds m = some (ks, m') → ks.length = ds.length
  | [], _, _, _, h => by cases h; rfl
  | d :: ds, _, m, _, h => by
    obtain ⟨x, h1, h⟩ := bind_some_iff h
    obtain ⟨y, h2, h⟩ := bind_some_iff h
    cases h
    rw [List.length_cons, List.length_cons, kfold_len h2]
/-- stably by the keys -/
def sortKD (ks ds : List D) : List D := ((ks.zip ds).mergeSort (PySem.W.dataLe false Prod.fst)).map Prod.snd
def sortKF (fk : D → M → Option (D × M)) (ds : List D) (m : M) : Option (R × M) := (kfold fk ds m).bind fun x => if (sortableB x.1 && smallAll x.1 && decide (ds.length ≤ sizeLine)) = true then some (.val (.list (sortKD x.1 ds)), x.2) else none
/-- a value that reads as data -/
def Rk (K : PySem.W.Frag) (φ : Ad) (H : Hp) (v : Value) (d : D) : Prop := ∃ x : V, RelV x v ∧ Dp K (off φ H) x d
theorem Rk.mono {K : PySem.W.Frag} {φ φ' : Ad} {H H' : Hp} {v : Value} {d : D} (g : Gr φ H φ' H') (h : Rk K φ H v d) : Rk K φ' H' v d := by
  obtain ⟨x, r, q⟩ := h
  exact ⟨x, r, dp_mono g.same q⟩
theorem each_at {α β : Type} {F : α → β → Prop} : ∀ {as : List α} {bs : List β} {i : Nat} {a : α}, PySem.W.EachIs F as bs → as[i]? = some a → ∃ b, bs[i]? = some b ∧ F a b
  | _, _, _, _, .nil, e => by simp at e
  | _, _, 0, _, .cons (b := b) h t, e => by
    simp at e
    subst e
    exact ⟨b, rfl, h⟩
  | _, _, i + 1, _, .cons _ t, e => by
    obtain ⟨v, h1, h2⟩ := each_at (i := i) t (by simpa using e)
    exact ⟨v, by simpa using h1, h2⟩
theorem each_push {α β : Type} {F : α → β → Prop} : ∀ {as : List α} {bs : List β} {a : α} {b : β}, PySem.W.EachIs F as bs → F a b → PySem.W.EachIs F (as ++ [a]) (bs ++ [b])
  | _, _, _, _, .nil, h => .cons h .nil
  | _, _, _, _, .cons q t, h => .cons q (each_push t h)
theorem each_zip {α β γ : Type} {F : α → β → Prop} : ∀ {as : List α} {bs : List β} {cs : List γ}, cs.length = bs.length → PySem.W.EachIs F as bs → PySem.W.EachIs (fun a (q : γ × β) => F a q.2) as (cs.zip bs)
  | _, _, [], e, .nil => .nil
  | _, _, _ :: _, e, .nil => by simp at e
  | _, _, [], e, .cons _ _ => by simp at e
  | _, _, c :: cs, e, .cons q t => .cons q (each_zip (by simpa using e) t)
theorem each_mapB {α β γ : Type} {F : α → γ → Prop} (f : β → γ) : ∀ {as : List α} {bs : List β}, PySem.W.EachIs (fun a b => F a (f b)) as bs → PySem.W.EachIs F as (bs.map f)
  | _, _, .nil => .nil
  | _, _, .cons q t => .cons q (each_mapB f t)
section
variable {X : Cx} {pins : List (Addr × Obj)} {σ : L2.St} {H : Hp} {s : Shared} {k : Nat} {bs : List Bool} {fb : EF} {p : Str} {f : Addr}
theorem sortK_core {φ : Ad} {env : Sl} {m m' : M} {r : R} {ds : List D} {u : Value} {Q : VK} (I : Inv X pins σ H s) (hr : Room (k + 3) X.A) (S : SR ζ X.K φ H m) (E : ER X.K φ H σ env) (L : LamAt ζ X k bs fb p f s H) (hev : sortKF (keyF fb bs env) ds m = some (r, m'))
    (hcol : ∀ E' : Value → Shared → Prop, wpAny (model X.prog X.w) X.A.in1 (collect u) (fun vs s1 => Inv X pins σ H s1 ∧ (∀ b o, s.heap.get? b = some o → s1.heap.get? b = some o) ∧ PySem.W.EachIs (Rk X.K φ H) vs ds) E' s)
    (q : ∀ φ2 H2 v2, Gr φ H φ2 H2 → SR ζ X.K φ2 H2 m' → RR X.K φ2 H2 v2 r → Q v2 H2) :
    wpAny (model X.prog X.w) X.A (PySem.call (.builtin "sorted") [u] [(Str.ofString "key", .ref f)]) (EP X pins σ Q) X.xe s := by
  obtain ⟨⟨ks, mE⟩, hk, hev⟩ := bind_some_iff hev
  simp only at hev
  split at hev
  · rename_i hc
    cases hev
    rw [Bool.and_eq_true, Bool.and_eq_true] at hc
    obtain ⟨⟨c1, c2⟩, c3⟩ := hc
    obtain ⟨hal, hso⟩ := sortable_ok c1
    have hsm := of_decide_eq_true c2
    have hlen := of_decide_eq_true c3
    have hun := hr.un
    have hkl := kfold_len hk
    refine PySem.W.sorted_of_collect (PyProof.Rows.ksk_s1 _ _) (fun _ => PyProof.Rows.ksk_l1 _ _) fun E' => ?_
    refine wpAny_mono (hcol E') (fun vs s1 ⟨I1, up, hR⟩ => ⟨by rw [hR.length]; exact hlen, fun h2 c kp hsz hat E2 => ?_⟩) fun _ _ e => e
    rw [PyProof.Rows.ksk_t1]
    have I2 : Inv X pins σ H { s1 with heap := h2 } := I1.kept (t' := s1.toks) kp
    have nS : ∀ b : Addr, s1.heap.objs.size ≤ b → H b = none := fun b hb => I1.hok.fresh hb
    have nF : ∀ b : Addr, s1.heap.objs.size ≤ b → b ∉ frs X.stack := fun b hb z => by
      rcases List.mem_cons.mp (I1.stkSub _ z) with e | e
      · have h1 := I1.lt
        rw [← e] at h1
        exact Nat.lt_irrefl _ (Nat.lt_of_lt_of_le h1 hb)
      · exact I1.nofs hb e
    have hkS : s1.heap.objs.size ≤ h2.objs.size + 1 := by omega
    obtain ⟨of, hof⟩ := L.here
    have hflt : f < s1.heap.objs.size := Heap.lt_size (up _ _ hof)
    have hfa : f ≠ s1.heap.objs.size := Nat.ne_of_lt hflt
    have hfk : f ≠ h2.objs.size + 1 := by rw [hsz]; exact Nat.ne_of_lt (Nat.lt_succ_of_lt (Nat.lt_succ_of_lt hflt))
    have hka : h2.objs.size + 1 ≠ s1.heap.objs.size := by omega
    have fpk : ∀ {H' : Hp}, H' (h2.objs.size + 1) = none → FpOk X pins H' (h2.objs.size + 1) := fun h => I1.fpOk hkS h
    have fpa : ∀ {H' : Hp}, H' s1.heap.objs.size = none → FpOk X pins H' s1.heap.objs.size := fun h => I1.fpOk (Nat.le_refl _) h
    refine PySem.W.keyI_tree (s := { s1 with heap := h2 }) (n := c) (J := fun i keys s' => ∃ φ' H' m1 kds rest, Inv X pins σ H' s' ∧ Gr φ H φ' H' ∧ SR ζ X.K φ' H' m1 ∧ H' (h2.objs.size + 1) = none ∧ H' s1.heap.objs.size = none ∧ H' f = none ∧ s'.heap.get? f = s.heap.get? f ∧
        PySem.W.EachIs (Rk X.K φ' H') keys.toList kds ∧ kfold (keyF fb bs env) (ds.drop i) m1 = some (rest, m') ∧ ks = kds ++ rest) hat (by rw [hR.length]; exact hlen) (fun h' e1 k1 na nk => ?_) (fun i v keys e e1 s' hv hJ nk na => ?_) fun keys e s' hJ nk hsz2 => ?_
    · -- the start
      have I3 : Inv X pins σ H { s1 with heap := h' } := Inv.turnedL (s := { s1 with heap := h2 }) (t' := s1.toks) I2 (ch := [s1.heap.objs.size]) (fun b o hb e => k1 b o (fun z => hb (by simp [z])) e) (fun b hb => by
        rw [List.mem_singleton.mp hb]
        exact fpa (nS _ (Nat.le_refl _)))
      exact ⟨φ, H, m, [], ks, I3, .refl, S, nS _ hkS, nS _ (Nat.le_refl _), L.free, (k1 f _ hfa (kp _ _ (up _ _ hof))).trans hof.symm, .nil, hk, rfl⟩
    · -- a turn
      obtain ⟨φ', H', m1, kds, rest, I', g, S', nk', na', nf', hf', hkd, hfo, eks⟩ := hJ
      obtain ⟨d, hd, rd⟩ := each_at hR hv
      have hdr : ds.drop i = d :: ds.drop (i + 1) := by
        obtain ⟨hi, e⟩ := List.getElem?_eq_some_iff.mp hd
        rw [List.drop_eq_getElem_cons hi, e]
      rw [hdr] at hfo
      obtain ⟨⟨kd, m2⟩, h1, hfo⟩ := bind_some_iff hfo
      obtain ⟨⟨rest2, m3⟩, h3, hfo⟩ := bind_some_iff hfo
      cases hfo
      obtain ⟨⟨r1, m4⟩, h4, h1⟩ := bind_some_iff h1
      cases r1 with
      | tp j => first | (cases hf; done) | (cases e; done) | (cases h1; done) | (cases h; done) | (cases h7; done) | (cases h2; done)
      | ref j => cases h1
      | val kd' =>
        cases h1
        obtain ⟨x, rx, dx⟩ := Rk.mono g rd
        refine wpAny_mono (L.call I' I'.env0.in1.in1 (hr.in1.in1) hf'.symm (fun cc q hc => code_stay S g hc) rx S' (E.mono g) (r := .val d) dx h4) (fun kv s'' hq => ?_) fun _ _ e => e
        obtain ⟨x2, φ2, H2, rx2, I3, un, g2, S3, R3⟩ := hq
        have k2 : s''.heap.get? (h2.objs.size + 1) = some (seqObj "list" keys e) := un.keep _ _ nk nk' (nF _ hkS) (by simp)
        have a2 : s''.heap.get? s1.heap.objs.size = some (seqObj "list" #[] e1) := un.keep _ _ na na' (nF _ (Nat.le_refl _)) (by simp)
        have f2 : s''.heap.get? f = s.heap.get? f := by
          rw [hof] at hf' ⊢
          exact un.keep _ _ hf' nf' L.nofr (by simp)
        refine ⟨k2, a2, fun h' sb hex => ?_⟩
        have n2 : H2 (h2.objs.size + 1) = none := un.free _ _ nk nk' (by simp)
        have n3 : H2 s1.heap.objs.size = none := un.free _ _ na na' (by simp)
        have n4 : H2 f = none := un.free _ _ (hf'.trans hof) nf' (by simp)
        have I4 : Inv X pins σ H2 { s'' with heap := h' } := I3.turnedL (t' := s''.toks) (ch := [h2.objs.size + 1]) (fun b o hb e => by
            rw [sb.2 b (fun z => hb (by simp [z]))]
            exact e) (fun b hb => by
          rw [List.mem_singleton.mp hb]
          exact fpk n2)
        refine ⟨φ2, H2, m4, kds ++ [kd], rest2, I4, g.trans g2, S3, n2, n3, n4, (sb.2 f hfk).trans f2, ?_, h3, by rw [List.append_assoc]; exact eks⟩
        have : (keys.push kv).toList = keys.toList ++ [kv] := by simp
        rw [this]
        exact each_push (hkd.mono fun v d z => z.mono g2) ⟨x2, rx2, R3⟩
    · -- the end
      obtain ⟨φ', H', m1, kds, rest, I', g, S', nk', na', nf', hf', hkd, hfo, eks⟩ := hJ
      have hdr : ds.drop vs.length = [] := List.drop_eq_nil_of_le (by rw [hR.length]; exact Nat.le_refl _)
      rw [hdr] at hfo
      cases hfo
      rw [List.append_nil] at eks
      subst eks
      refine ⟨ks, hkd.mono fun v d ⟨x, r, q⟩ => Dp.reads I' _ _ _ (dp_mono off_same q) r, hal, hso, fun d hd => ?_, fun h' tk out c2 kb hb ko => ⟨rfl, ?_⟩⟩
      · have h1 := depth_all hd
        show X.A.units + 2 + d.depth < cLine
        omega
      · have hkk : (ks.zip ds).map Prod.fst = ks := by
          rw [List.map_fst_zip]
          omega
        have e0 := PySem.W.keyedOut_each (bs := ks.zip ds) Prod.fst (by rw [hkk]; exact ko) (each_zip hkl hR)
        have e1 : PySem.W.EachIs (Rk X.K φ H) out (sortKD ks ds) := each_mapB (F := Rk X.K φ H) Prod.snd e0
        obtain ⟨ys, rv, hd⟩ := of_each (e1.mono fun v d z => z.mono g)
        have hyl : ys.length ≤ sizeLine := by
          rw [rv.length, e1.length]
          unfold sortKD
          rw [List.length_map, List.length_mergeSort, List.length_zip]
          omega
        have hsz3 : s1.heap.objs.size < h2.objs.size := by omega
        have nin : ∀ b w, H' b = some w → b ≠ s1.heap.objs.size ∧ b ≠ h2.objs.size + 1 := fun b w e => ⟨(fun z => by rw [z, na'] at e; cases e), (fun z => by rw [z, nk'] at e; cases e)⟩
        have I5 : Inv X pins σ (upd H' s1.heap.objs.size (.lst ys)) { s' with heap := h', toks := tk } := by
          refine I'.step (g' := s'.gens) (d' := s'.drawn) (ch := [s1.heap.objs.size, h2.objs.size + 1]) (fun b hb => ?_) (fun b o _ _ hc e _ => kb b o (fun z => hc (by simp [z])) (fun z => hc (by simp [z])) e) (fun b o _ _ hc e _ => ⟨o.slots, kb b o (fun z => hc (by simp [z])) (fun z => hc (by simp [z])) e⟩)
            (fun b o hc _ n => by rw [upd_ne (fun z => hc (by simp [z]))]; exact n) (fun b o hc e => ⟨o, kb b o (fun z => hc (by simp [z])) (fun z => hc (by simp [z])) e⟩) (fun b xs e => by rw [upd_ne (nin b _ e).1]; exact e) (fun b o w e => by rw [upd_ne (nin b _ e).1]; exact e) (fun b ps e => ⟨#[], by rw [upd_ne (nin b _ e).1, e]; simp⟩)
            (fun mm hm => ?_) (fun b w e => ?_) I'.bare
          · rcases List.mem_cons.mp hb with z | z
            · subst z
              have f0 := fpa (H' := H') na'
              exact ⟨f0.2.2.2.1, f0.2.1, f0.2.2.2.2.1, f0.2.2.2.2.2⟩
            · rw [List.mem_singleton.mp z]
              have f0 := fpk (H' := H') nk'
              exact ⟨f0.2.2.2.1, f0.2.1, f0.2.2.2.2.1, f0.2.2.2.2.2⟩
          · obtain ⟨o, es, ep, ho, rr⟩ := hm
            exact ⟨o, es, ep, kb _ o (fpa (H' := H') na').2.1.symm (fpk (H' := H') nk').2.1.symm ho, rr⟩
          · by_cases hb2 : b = s1.heap.objs.size
            · subst hb2
              rw [upd_same] at e
              cases e
              exact ⟨hyl, out, c2, rv, hb⟩
            · rw [upd_ne hb2] at e
              refine (I'.hok b w e).stay (fun d v hd z => ?_) (fun d z => by rw [upd_ne (nin d _ z).1]; exact z) fun d xs z => by rw [upd_ne (nin d _ z).1]; exact z
              rcases hd with y | y
              · rw [y] at z ⊢
                exact kb _ _ (nin b _ e).1 (nin b _ e).2 z
              · exact kb _ _ (nin d _ y).1 (nin d _ y).2 z
        refine ⟨.ref s1.heap.objs.size, _, I5, rfl, q φ' _ _ (g.trans (gr_alloc na')) (S'.alloc na') (rr_newL S' na' hd)⟩
  · cases hev
end
theorem collect_tupV {P : Program} {w : World} {A : Around} {E : Value → Shared → Prop} {s : Shared} {l : Addr} {vs : List Value} {Q : List Value → Shared → Prop} (hl : IsTup s.heap l vs.toArray) (hz : vs.length ≤ sizeLine)
    (q : ∀ h' : Heap, (∀ b o, s.heap.get? b = some o → h'.get? b = some o) → Q vs { s with heap := h' }) : wpAny (model P w) A (collect (.ref l)) Q E s := by
  obtain ⟨o, ho, hc, n, hd⟩ := hl
  have hn : (s.heap.push (seqObj "list" #[] 0)).get? s.heap.objs.size = some (seqObj "list" #[] 0) := Heap.get?_push_size _ rfl
  have ho' : (s.heap.push (seqObj "list" #[] 0)).get? l = some o := Heap.get?_push_of_some _ ho
  unfold collect
  refine wpAny_bind (wpAny_runValue (codeAny_builtin F.entry_proto_collect ?_))
  refine wpAny_bind (m := newList []) (wpAny_newList (wpAny_pure ⟨plainId_quiet F.plain_list_iadd _, codeAny_builtin F.entry_list_iadd ?_⟩))
  show wpAny (model P w) _ (Builtin.List.listExtendWith (.ref s.heap.objs.size) (.ref l) (.ref s.heap.objs.size)) _ _ ⟨s.heap.push (seqObj "list" #[] 0), s.gens, s.drawn, s.toks, s.os⟩
  unfold Builtin.List.listExtendWith
  refine wpAny_bind (wpAny_typeOf (T := "tuple") ⟨o, ho', hc⟩ ?_)
  have ht : (Value.type "tuple" == Value.type "tuple") = true := rfl
  rw [if_pos (by rw [ht, Bool.or_true])]
  refine wpAny_bind (listItems_at ho' hd (wpAny_bind (listItems_at hn rfl ?_)))
  rw [if_neg (by simp)]
  refine wpAny_bind (listUpdate_at hn rfl (wpAny_pure ?_) (Nat.zero_le _) (by
    have e : (#[] ++ vs.toArray).size = vs.length := by simp
    rw [e]
    exact Nat.le_succ_of_le hz))
  refine wpAny_bind (m := load s.heap.objs.size) (wpAny_load (get?_update_seq hn _) ?_)
  have e : ((#[] : Array Value) ++ vs.toArray).toList = vs := by simp
  show wpAny _ _ (pure ((#[] : Array Value) ++ vs.toArray).toList) Q E _
  rw [e]
  refine wpAny_pure (q _ fun b u hb => ?_)
  have nb : b ≠ s.heap.objs.size := Nat.ne_of_lt (Heap.lt_size hb)
  rw [Heap.get?_update_ne _ _ _ _ nb]
  exact Heap.get?_push_of_some _ hb
section
variable {X : Cx} {k : Nat} {bs : List Bool} {fb fe : EF} {p : Str} {e body : Expr} {params : Arguments} {scope : Scope} {c P : Addr} {p0 pos lpos kpos : Pos}
/-- a list or a tuple as what is gone through -/
theorem col_LT {pins : List (Addr × Obj)} {σ : L2.St} {φ : Ad} {H : Hp} {m : M} {s : Shared} {r : R} {v : V} {u : Value} {ds : List D} (I : Inv X pins σ H s) (S : SR ζ X.K φ H m) (R : RR X.K φ H v r) (rv : RelV v u) (h : asLT r m = some ds) {A : Around} {E : Value → Shared → Prop} :
    wpAny (model X.prog X.w) A (collect u) (fun vs s1 => Inv X pins σ H s1 ∧ (∀ b o, s.heap.get? b = some o → s1.heap.get? b = some o) ∧ PySem.W.EachIs (Rk X.K φ H) vs ds) E s := by
  by_cases ht : ∃ ts, r = .val (.tuple ts)
  · obtain ⟨ts, rfl⟩ := ht
    cases h
    obtain ⟨a, xs, rfl, hs, hd⟩ := seqT_of R
    obtain rfl : u = Value.ref a := rv
    obtain ⟨its, rvs, hl, hz⟩ := I.tuple hs
    refine collect_tupV hl (by rw [← rvs.length]; exact hz) fun h' up => ⟨I.kept (t' := s.toks) up, up, each_of hd rvs⟩
  · have h2 : asL r m = some ds := by
      unfold asLT at h
      split at h
      · exact absurd ⟨_, rfl⟩ ht
      · exact h
    obtain ⟨a, xs, rfl, hs, hd⟩ := seqL_of S R h2
    obtain rfl : u = Value.ref a := rv
    obtain ⟨its, rvs, hl, hz⟩ := I.list hs
    have up : ∀ b o, s.heap.get? b = some o → ((s.heap.push (seqObj "list" #[] 0)).update s.heap.objs.size (Obj.mapSeq (· ++ its.toArray))).get? b = some o := fun b o hb => by
      rw [Heap.get?_update_ne _ _ _ _ (Nat.ne_of_lt (Heap.lt_size hb))]
      exact Heap.get?_push_of_some _ hb
    refine collect_list hl.isList ⟨I.kept (t' := s.toks) up, up, each_of hd rvs⟩ (by rw [← rvs.length]; exact hz)
def lst1 (fa : AF) : Sl → M → Option (R × M) := fun env m => (fa env m).bind fun x => match x.1 with
  | [r] => some (r, x.2)
  | _ => none
def eSortK (bs : List Bool) (fb : EF) (fa : AF) : EF := fun env m => (lst1 fa env m).bind fun x => (asLT x.1 x.2).bind fun ds => sortKF (keyF fb bs env) ds x.2
theorem x_sortK {fa : AF} (L : LamOk ζ X k bs fb p params body scope c P) (hr : Room (k + 3) X.A) (hg : Gl X "sorted") (hm : X.mg "sorted" = none) (ha : PA X [e] (tA ζ X.K fa))
    (h1 : backTo pos (starEach [e] X.env) = (false, eval e X.env) :: backTo pos (starEach [] X.env) := by rfl) (h2 : (backTo pos (starEach [e] X.env)).any (·.1) = false := by rfl) :
    PE X (.Call (.Name "sorted" p0) [e] [⟨some "key", .Lambda params body scope lpos, kpos⟩] pos) (tE ζ X.K (eSortK bs fb fa)) := by
  refine ⟨fun pins s σ H Q I h => ?_⟩
  obtain ⟨φ, env, m, r, m', S, E, hf, q⟩ := h
  obtain ⟨⟨r1, m1⟩, h3, hf⟩ := bind_some_iff hf
  obtain ⟨ds, h4, hf⟩ := bind_some_iff hf
  obtain ⟨⟨rs, m2⟩, h5, h3⟩ := bind_some_iff h3
  simp only at h3
  split at h3
  · rename_i r0
    cases h3
    refine wpAny_Call_Name_kw (ld_blt I hg hm bt_sorted ?_)
    refine callWith_kw (thn (ha.run pos pins s σ H (fun vs H1 => ∃ φ1, Gr φ H φ1 H1 ∧ SR ζ X.K φ1 H1 m1 ∧ RRs X.K φ1 H1 vs [r1]) I ⟨φ, env, m, [r1], m1, S, E, h5, fun φ1 H1 vs g1 S1 R1 => ⟨φ1, g1, S1, R1⟩⟩) fun us s1 ⟨vs, H1, I1, rvs, φ1, g1, S1, R1⟩ => ?_) h1 h2
    cases R1 with
    | cons R1 R0 =>
      cases R0
      obtain ⟨u, rfl, rv⟩ := one_val rvs
      show wpAny _ _ (evalAll ((do let v ← eval (.Lambda params body scope lpos) X.env; standAt pos; pure v) :: (backToKw pos (keywordEach [] X.env)).map (·.2))) _ _ s1
      refine wpAny_evalAll_cons (wpAny_bind (lam_make L I1 S1 fun f H2 s2 I2 g2 S2 LA => wpAny_bind (wpAny_standAt (wpAny_pure (wpAny_evalAll_nil ?_)))))
      exact sortK_core I2 hr S2 (E.mono (g1.trans g2)) LA hf (fun E' => col_LT I2 S2 (R1.mono g2) rv h4) fun φ2 H3 v2 g3 S3 R3 => q φ2 H3 v2 (g1.trans (g2.trans g3)) S3 R3
  · cases h3
/-! ranges -/
theorem cr_range1 : CallR X (.type "range") (fun vs H Q => ∃ j, vs = [V.int j] ∧ ∀ p, H p = none → Q (.ref p) (upd H p (.rng 0 j))) := by
  intro pins s σ H vs us Q I r h
  obtain ⟨j, rfl, q⟩ := h
  obtain ⟨u1, rfl, rj⟩ := one_val r
  obtain ⟨t, rfl⟩ := rj
  refine call_range_1 ⟨.ref s.heap.objs.size, upd H s.heap.objs.size (.rng 0 j), I.laid (fun b o z => Heap.get?_push_of_some _ z) (Nat.le_refl _) ?_, rfl, q _ (I.hok.fresh (Nat.le_refl _))⟩
  exact ⟨_, t, _, Heap.get?_push_size _ rfl⟩
/-- range(b) or range(a, b): the bounds -/
def bds (rs : List R) : Option (Int × Int) := match rs with
  | [.val (.int j)] => some (0, j)
  | [.val (.int i), .val (.int j)] => some (i, j)
  | _ => none
theorem col_R {pins : List (Addr × Obj)} {σ : L2.St} {φ : Ad} {H : Hp} {s : Shared} {a : Addr} {i j : Int} (I : Inv X pins σ H s) (hc : X.calm = true) (h : H a = some (.rng i j)) (ok : RgOk i j) {E : Value → Shared → Prop} :
    wpAny (model X.prog X.w) X.A.in1 (collect (.ref a)) (fun vs s1 => Inv X pins σ H s1 ∧ (∀ b o, s.heap.get? b = some o → s1.heap.get? b = some o) ∧ PySem.W.EachIs (Rk X.K φ H) vs (rngD i (j - i).toNat)) E s := by
  obtain ⟨t, u, v, ho⟩ := I.hok a _ h
  obtain ⟨b1, b2, b3, b4, b5⟩ := ok
  refine collect_range (A := X.A.in1) (a := i) (b := j) (c := 1) (t := t) (u := u) (v := v) (n := (j - i).toNat) (I.ok.hd hc) ho (small_one b1 b2 b3 b4) (rangeSize_nat i j) b5 fun h' tk acc up hi => ⟨I.kept up, up, ?_⟩
  exact each_of (rgV_dp i j) (vals_rg hi)
def eSortKR (bs : List Bool) (fb : EF) (fa : AF) : EF := fun env m => (fa env m).bind fun x => (bds x.1).bind fun b => if rgOkB b.1 b.2 = true then sortKF (keyF fb bs env) (rngD b.1 (b.2 - b.1).toNat) x.2 else none
theorem x_sortKR {e : Expr} {es : List Expr} {fa : AF} {pr pr2 : Pos} (L : LamOk ζ X k bs fb p params body scope c P) (hc : X.calm = true) (hr : Room (k + 3) X.A) (hg : Gl X "sorted") (hm : X.mg "sorted" = none) (hg2 : Gl X "range") (hm2 : X.mg "range" = none) (ha : PA X (e :: es) (tA ζ X.K fa))
    (he : starEach (e :: es) X.env = (false, eval e X.env) :: starEach es X.env := by rfl) (hpl : (backTo pr2 (starEach es X.env)).any (·.1) = false := by rfl)
    (h0 : starEach [.Call (.Name "range" pr) (e :: es) [] pr2] X.env = (false, eval (.Call (.Name "range" pr) (e :: es) [] pr2) X.env) :: starEach [] X.env := by rfl)
    (h1 : backTo pos (starEach [.Call (.Name "range" pr) (e :: es) [] pr2] X.env) = (false, eval (.Call (.Name "range" pr) (e :: es) [] pr2) X.env) :: backTo pos (starEach [] X.env) := by rfl) (h2 : (backTo pos (starEach [.Call (.Name "range" pr) (e :: es) [] pr2] X.env)).any (·.1) = false := by rfl) :
    PE X (.Call (.Name "sorted" p0) [.Call (.Name "range" pr) (e :: es) [] pr2] [⟨some "key", .Lambda params body scope lpos, kpos⟩] pos) (tE ζ X.K (eSortKR bs fb fa)) := by
  refine ⟨fun pins s σ H Q I h => ?_⟩
  obtain ⟨φ, env, m, r, m', S, E, hf, q⟩ := h
  obtain ⟨⟨rs, m1⟩, h5, hf⟩ := bind_some_iff hf
  obtain ⟨⟨i, j⟩, h4, hf⟩ := bind_some_iff hf
  simp only at hf h4
  split at hf
  · rename_i ok
    have hrg : ∀ vs H1 φ1 (Q : VK), RRs X.K φ1 H1 vs rs → (∀ p, H1 p = none → Q (.ref p) (upd H1 p (.rng i j))) → (∀ pins s σ us, Inv X pins σ H1 s → Vals vs us → wpAny (model X.prog X.w) X.A (call (.type "range") us) (EP X pins σ Q) X.xe s) := by
      intro vs H1 φ1 Q R q pins s σ us I rv
      unfold bds at h4
      split at h4
      · cases h4
        cases R with
        | cons a t =>
          cases t
          have e := rr_int a
          subst e
          exact cr_range1 pins s σ H1 _ us Q I rv ⟨_, rfl, q⟩
      · cases h4
        cases R with
        | cons a t =>
          cases t with
          | cons b t =>
            cases t
            have e := rr_int a
            have e2 := rr_int b
            subst e e2
            exact cr_range2 pins s σ H1 _ us Q I rv ⟨_, _, rfl, q⟩
      · cases h4
    have hR : PE X (.Call (.Name "range" pr) (e :: es) [] pr2) (fun σ H Q => ∃ φ env m m', SR ζ X.K φ H m ∧ ER X.K φ H σ env ∧ fa env m = some (rs, m') ∧ ∀ φ' H' p, Gr φ H φ' H' → SR ζ X.K φ' H' m' → H' p = none → Q (.ref p) (upd H' p (.rng i j))) := by
      refine ⟨fun pins s σ H Q I h => ?_⟩
      obtain ⟨φ, env, m, m', S, E, hf, q⟩ := h
      refine wpAny_Call_Name_kw (ld_blt I hg2 hm2 boot_range ?_)
      refine PyProof.Rows.callWith_type1 (thn (ha.run pr2 pins s σ H (fun vs H1 => ∃ φ1, Gr φ H φ1 H1 ∧ SR ζ X.K φ1 H1 m' ∧ RRs X.K φ1 H1 vs rs) I ⟨φ, env, m, rs, m', S, E, hf, fun φ1 H1 vs g1 S1 R1 => ⟨φ1, g1, S1, R1⟩⟩) fun us s1 ⟨vs, H1, I1, rvs, φ1, g1, S1, R1⟩ => ?_) he hpl
      exact hrg vs H1 φ1 Q R1 (fun p hp => q φ1 H1 p g1 S1 hp) pins s1 σ us I1 rvs
    refine wpAny_Call_Name_kw (ld_blt I hg hm bt_sorted ?_)
    refine callWith_kw (args_cons (thn (hR.run pins s σ H (fun v H1 => ∃ φ1 p, Gr φ H φ1 H1 ∧ SR ζ X.K φ1 H1 m1 ∧ v = .ref p ∧ off φ1 H1 p = some (.rng i j)) I ⟨φ, env, m, m1, S, E, h5, fun φ1 H1 p g1 S1 hp => ⟨φ1, p, g1.trans (gr_alloc hp), S1.alloc hp, rfl, off_some.mpr ⟨S1.new hp, upd_same, rfl⟩⟩⟩) fun u s1 ⟨v, H1, I1, rv, φ1, p1, g1, S1, ev, ho⟩ => args_nil ?_) h0) h1 h2
    subst ev
    obtain rfl : u = Value.ref p1 := rv
    show wpAny _ _ (evalAll ((do let v ← eval (.Lambda params body scope lpos) X.env; standAt pos; pure v) :: (backToKw pos (keywordEach [] X.env)).map (·.2))) _ _ s1
    refine wpAny_evalAll_cons (wpAny_bind (lam_make L I1 S1 fun f H2 s2 I2 g2 S2 LA => wpAny_bind (wpAny_standAt (wpAny_pure (wpAny_evalAll_nil ?_)))))
    exact sortK_core I2 hr S2 (E.mono (g1.trans g2)) LA hf (fun E' => col_R I2 hc (off_some.mp (g2.same _ _ ho)).2.1 (rgOk_of ok)) fun φ2 H3 v2 g3 S3 R3 => q φ2 H3 v2 (g1.trans (g2.trans g3)) S3 R3
  · cases hf
end
end Ev
namespace Ev
open PySem PySem.Spec PyProof.Rows L2 LamX
theorem msk_ok {N : List Str} {p : Str} {bs : List Bool} (h : (N.map fun x => decide (x = p)) = bs) (i : Nat) (e : N[i]? = some p) : bs[i]? = some true := by
  rw [← h, List.getElem?_map, e]
  simp
theorem msk_no {N : List Str} {p : Str} {bs : List Bool} (h : N.contains p = false) (i : Nat) (e : N[i]? = some p) : bs[i]? = some true := by
  have := List.mem_of_getElem? e
  rw [← List.contains_iff_mem, h] at this
  cases this
theorem tab_uniq : ∀ (ζ : Tbs) {P : Addr} {x : Str}, (ζ.map Prod.fst).Nodup → (P, x) ∈ ζ → ∀ p ∈ ζ, p.1 = P → p.2 = x
  | [], _, _, _, h => by cases h
  | z :: ζ, P, x, nd, h => fun p hp e => by
    rw [List.map_cons, List.nodup_cons] at nd
    rcases List.mem_cons.mp h with h | h
    · rcases List.mem_cons.mp hp with q | q
      · rw [q, ← h]
      · exact absurd (List.mem_map.mpr ⟨p, q, by rw [e, ← h]⟩) nd.1
    · rcases List.mem_cons.mp hp with q | q
      · refine absurd (List.mem_map.mpr ⟨_, h, ?_⟩) nd.1
        rw [← q, e]
      · exact tab_uniq ζ nd.2 h p q e
end Ev

/-! fractions, in plain Lean -/
namespace Qa
theorem low_num (n d : Int) (h : 0 < d) : n / (Int.gcd n d : Int) = ((n:Rat)/d).num ∧ d / (Int.gcd n d : Int) = (((n:Rat)/d).den : Int) := by
  rw [← Rat.divInt_eq_div, Rat.num_divInt, Rat.den_divInt]
  rw [Int.sign_eq_one_of_pos h, Int.gcd_comm d n]
  constructor
  · rw [Int.one_mul]
  · rw [if_neg (by omega)]
    have : (d.natAbs : Int) = d := by omega
    push_cast
    rw [this]
theorem frac (x : Rat) : ((x.num : Int) : Rat) / (((x.den : Nat) : Int) : Rat) = x := by
  rw [← Rat.divInt_eq_div, Rat.num_divInt_den]
theorem den_pos (x : Rat) : (0 : Int) < ((x.den : Nat) : Int) := by
  have := x.den_nz
  omega
theorem den_ne (x : Rat) : (((x.den : Nat) : Int) : Rat) ≠ 0 := by
  have h := x.den_nz
  intro e
  have : ((x.den : Nat) : Int) = 0 := by exact_mod_cast e
  omega
theorem add_eq (x y : Rat) : (((x.num * y.den + y.num * x.den : Int)) : Rat) / ((((x.den * y.den : Int))) : Rat) = x + y := by
  have h1 := frac x
  have h2 := frac y
  have h3 := den_ne x
  have h4 := den_ne y
  push_cast at *
  generalize ((x.num : Int) : Rat) = a at *
  generalize ((y.num : Int) : Rat) = b at *
  generalize ((x.den : Nat) : Rat) = c at *
  generalize ((y.den : Nat) : Rat) = d at *
  rw [← h1, ← h2]
  grind
theorem mul_eq (x y : Rat) : (((x.num * y.num : Int)) : Rat) / ((((x.den * y.den : Int))) : Rat) = x * y := by
  have h1 := frac x
  have h2 := frac y
  have h3 := den_ne x
  have h4 := den_ne y
  push_cast at *
  generalize ((x.num : Int) : Rat) = a at *
  generalize ((y.num : Int) : Rat) = b at *
  generalize ((x.den : Nat) : Rat) = c at *
  generalize ((y.den : Nat) : Rat) = d at *
  rw [← h1, ← h2]
  grind
theorem num_neg (x : Rat) : (-x).num = -x.num ∧ (-x).den = x.den := ⟨rfl, rfl⟩
/-- a multiple of 1 / N -/
def In (N : Nat) (x : Rat) : Prop := ∃ k : Int, x * (N : Rat) = k
theorem In.add {N : Nat} {x y : Rat} (a : In N x) (b : In N y) : In N (x + y) := by
  obtain ⟨k, a⟩ := a
  obtain ⟨l, b⟩ := b
  refine ⟨k + l, ?_⟩
  push_cast
  grind
theorem In.neg {N : Nat} {x : Rat} (a : In N x) : In N (-x) := by
  obtain ⟨k, a⟩ := a
  refine ⟨-k, ?_⟩
  push_cast
  grind
theorem In.sub {N : Nat} {x y : Rat} (a : In N x) (b : In N y) : In N (x - y) := by
  obtain ⟨k, a⟩ := a
  obtain ⟨l, b⟩ := b
  refine ⟨k - l, ?_⟩
  push_cast
  grind
theorem In.mul {N M : Nat} {x y : Rat} (a : In N x) (b : In M y) : In (N * M) (x * y) := by
  obtain ⟨k, a⟩ := a
  obtain ⟨l, b⟩ := b
  refine ⟨k * l, ?_⟩
  push_cast
  grind
theorem In.int {N : Nat} (i : Int) : In N (i : Rat) := ⟨i * N, by push_cast; rfl⟩
theorem In.nat {N : Nat} (i : Nat) : In N (i : Rat) := ⟨i * N, by push_cast; rfl⟩
theorem In.up {N : Nat} {x : Rat} (a : In N x) (M : Nat) : In (N * M) x := by
  obtain ⟨k, a⟩ := a
  refine ⟨k * M, ?_⟩
  push_cast
  grind
theorem In.dvd {N M : Nat} {x : Rat} (a : In N x) (h : N ∣ M) : In M x := by
  obtain ⟨c, rfl⟩ := h
  exact a.up c
theorem In.inv {N : Nat} (h : 0 < N) : In N (1 / (N : Rat)) := ⟨1, by
  have : (N : Rat) ≠ 0 := by
    intro e
    have : N = 0 := by exact_mod_cast e
    omega
  grind⟩
theorem In.den {N : Nat} {x : Rat} (hN : 0 < N) (a : In N x) : x.den ∣ N := by
  obtain ⟨k, a⟩ := a
  have hn : (N : Rat) ≠ 0 := by
    intro e
    have : N = 0 := by exact_mod_cast e
    omega
  have e : x = (k : Rat) / (((N : Nat) : Int) : Rat) := by
    push_cast
    grind
  have h2 := (low_num k N (by omega)).2
  rw [← e] at h2
  have h3 : (x.den : Int) * (Int.gcd k N : Int) = N := by
    rw [← h2]
    exact Int.ediv_mul_cancel (Int.gcd_dvd_right _ _)
  exact ⟨Int.gcd k N, by exact_mod_cast h3.symm⟩
theorem In.den_le {N : Nat} {x : Rat} (hN : 0 < N) (a : In N x) : x.den ≤ N := Nat.le_of_dvd hN (a.den hN)
theorem num_le {B : Nat} {x : Rat} (h1 : -(B : Rat) ≤ x) (h2 : x ≤ (B : Rat)) : x.num.natAbs ≤ B * x.den := by
  have e1 := Rat.le_iff (a := -(B : Rat)) (b := x)
  have e2 := Rat.le_iff (a := x) (b := (B : Rat))
  have a1 := e1.mp h1
  have a2 := e2.mp h2
  have n1 : (-(B : Rat)).num = -(B : Int) := rfl
  have n2 : ((B : Rat)).num = (B : Int) := rfl
  have n3 : (-(B : Rat)).den = 1 := rfl
  have n4 : ((B : Rat)).den = 1 := rfl
  rw [n1, n3] at a1
  rw [n2, n4] at a2
  have e3 : (-(B : Int)) * (x.den : Int) = -(((B * x.den : Nat)) : Int) := by push_cast; grind
  have e4 : ((B : Int)) * (x.den : Int) = (((B * x.den : Nat)) : Int) := by push_cast; rfl
  rw [e3] at a1
  rw [e4] at a2
  omega
end Qa

set_option Elab.async false
set_option linter.all false
set_option maxRecDepth 100000
/-! greatest common divisors, fractions. -/
namespace Ev
open PySem PySem.Spec PyProof.Rows L2 Qa
theorem gcd_loop {c : TF} {body : SF} {m : M} (e : Nat → Nat → Sl) (hc : ∀ a b, c (e a b) m = some (decide (0 < b), m)) (hb : ∀ a b, 0 < b → body (e a b) m = some (.nx (e b (a % b)) m)) :
    ∀ (k n a b : Nat), b < 2 ^ k → 2 * k + 1 ≤ n → wloop c body n (e a b) m = some (.nx (e (Nat.gcd a b) 0) m)
  | k, 0, a, b, _, h => by omega
  | k, n + 1, a, 0, _, _ => by
    unfold wloop
    rw [hc, ob_some]
    simp
  | 0, n + 1, a, b + 1, h, _ => by simp at h
  | k + 1, n + 1, a, b + 1, h, hn => by
    have hp : 0 < b + 1 := Nat.succ_pos b
    have hlt : a % (b + 1) < b + 1 := Nat.mod_lt a hp
    unfold wloop
    rw [hc, ob_some]
    simp only [hp, decide_true, if_true]
    rw [hb a (b + 1) hp, ob_some, ev_aft_nx]
    have e1 : Nat.gcd a (b + 1) = Nat.gcd (b + 1) (a % (b + 1)) := by rw [Nat.gcd_comm a, Nat.gcd_rec, Nat.gcd_comm]
    rw [e1]
    cases n with
    | zero => omega
    | succ n =>
      by_cases hr : a % (b + 1) = 0
      · rw [hr]
        unfold wloop
        rw [hc, ob_some]
        simp
      · have hrp : 0 < a % (b + 1) := Nat.pos_of_ne_zero hr
        unfold wloop
        rw [hc, ob_some]
        simp only [hrp, decide_true, if_true]
        rw [hb _ _ hrp, ob_some, ev_aft_nx]
        have h2 : (b + 1) % (a % (b + 1)) < 2 ^ k := by
          have h3 : (b + 1) % (a % (b + 1)) < a % (b + 1) := Nat.mod_lt _ hrp
          have h4 : (b + 1) % (a % (b + 1)) + a % (b + 1) ≤ b + 1 := by
            have h5 := Nat.div_add_mod (b + 1) (a % (b + 1))
            have h6 : 1 ≤ (b + 1) / (a % (b + 1)) := Nat.div_pos (Nat.le_of_lt hlt) hrp
            have h7 : a % (b + 1) * 1 ≤ a % (b + 1) * ((b + 1) / (a % (b + 1))) := Nat.mul_le_mul_left _ h6
            omega
          rw [Nat.pow_succ] at h
          omega
        rw [gcd_loop e hc hb k n _ _ h2 (by omega)]
        have e2 : Nat.gcd (a % (b + 1)) ((b + 1) % (a % (b + 1))) = Nat.gcd (b + 1) (a % (b + 1)) := by rw [Nat.gcd_comm (a % (b + 1)), ← Nat.gcd_rec, Nat.gcd_comm]
        rw [e2]
/-- small: below 2 ^ k -/
def Sz (k : Nat) (i : Int) : Prop := i.natAbs < 2 ^ k
theorem Sz.log {k : Nat} {i : Int} (h : Sz k i) : i.natAbs.log2 ≤ k := by
  by_cases z : i.natAbs = 0
  · rw [z]; exact Nat.zero_le _
  · exact Nat.le_of_lt ((Nat.log2_lt z).mpr h)
theorem Sz.mul {k l : Nat} {i j : Int} (a : Sz k i) (b : Sz l j) : Sz (k + l) (i * j) := by
  unfold Sz at *
  rw [Int.natAbs_mul, Nat.pow_add]
  exact Nat.mul_lt_mul'' a b
theorem Sz.up {k l : Nat} {i : Int} (a : Sz k i) (h : k ≤ l) : Sz l i := Nat.lt_of_lt_of_le a (Nat.pow_le_pow_right (by decide) h)
theorem Sz.add {k : Nat} {i j : Int} (a : Sz k i) (b : Sz k j) : Sz (k + 1) (i + j) := by
  unfold Sz at *
  rw [Nat.pow_succ]
  omega
theorem Sz.neg {k : Nat} {i : Int} (a : Sz k i) : Sz k (-i) := by
  unfold Sz at *
  omega
theorem pm_sz {k l : Nat} {i j : Int} {m : M} (a : Sz k i) (b : Sz l j) (h : k + l < 900000) : pMul (.val (.int i)) (.val (.int j)) m = some (.val (.int (i * j)), m) := by
  have h : mulOk i j = true := by
    have h1 := a.log
    have h2 := b.log
    exact decide_eq_true (by omega)
  show (if mulOk i j = true then some (R.val (.int (i * j)), m) else none) = _
  rw [if_pos h]
theorem pdv_sz {k : Nat} {i j : Int} {m : M} (hj : 0 < j) (b : Sz k j) (h : k < 8000) : pDiv (.val (.int i)) (.val (.int j)) m = some (.val (.int (i / j)), m) := by
  have h : divOk i j = true := by
    have h2 := b.log
    exact decide_eq_true ⟨hj, by omega⟩
  show (if divOk i j = true then some (R.val (.int (i / j)), m) else none) = _
  rw [if_pos h]
/-- a fraction as the program has it -/
def encQ (x : Rat) : D := .tuple [.int x.num, .int (x.den : Int)]
/-- below 2 ^ 1000, above and below the line -/
structure SmQ (x : Rat) : Prop where
  num : Sz 1000 x.num
  den : Sz 1000 (x.den : Int)
theorem SmQ.of {N B : Nat} {x : Rat} (hN : 0 < N) (a : In N x) (h1 : -(B : Rat) ≤ x) (h2 : x ≤ (B : Rat)) (h : B * N < 2 ^ 1000) (hN2 : N < 2 ^ 1000) : SmQ x := by
  have h3 := num_le h1 h2
  have h4 := a.den_le hN
  refine ⟨Nat.lt_of_le_of_lt (Nat.le_trans h3 (Nat.mul_le_mul_left B h4)) h, ?_⟩
  show ((x.den : Nat) : Int).natAbs < 2 ^ 1000
  rw [Int.natAbs_natCast]
  exact Nat.lt_of_le_of_lt h4 hN2
theorem SmQ.nat {n : Nat} (h : n < 2 ^ 1000) : SmQ (n : Rat) := ⟨by show ((n : Nat) : Int).natAbs < _; rw [Int.natAbs_natCast]; exact h, by show (1 : Nat) < 2 ^ 1000; exact Nat.one_lt_two_pow (by decide)⟩
theorem encQ_nat (n : Nat) : encQ (n : Rat) = .tuple [.int n, .int 1] := rfl
theorem encQ_0 : encQ 0 = .tuple [.int 0, .int 1] := rfl
theorem encQ_1 : encQ 1 = .tuple [.int 1, .int 1] := rfl
theorem inv_num {n : Nat} (h : 0 < n) : (1 / (n : Rat)).num = 1 ∧ (1 / (n : Rat)).den = n := by
  have e := low_num 1 n (by omega)
  have g : Int.gcd 1 n = 1 := by simp
  rw [g] at e
  have e2 : ((1 : Int) : Rat) / (((n : Nat) : Int) : Rat) = 1 / (n : Rat) := by push_cast; rfl
  rw [e2] at e
  refine ⟨by rw [← e.1]; simp, ?_⟩
  have := e.2
  have h2 : ((n : Nat) : Int) / ((1 : Nat) : Int) = n := by simp
  rw [h2] at this
  exact_mod_cast this.symm
theorem encQ_inv {n : Nat} (h : 0 < n) : encQ (1 / (n : Rat)) = .tuple [.int 1, .int n] := by
  unfold encQ
  rw [(inv_num h).1, (inv_num h).2]
theorem encQ_neg (x : Rat) : encQ (-x) = .tuple [.int (-x.num), .int (x.den : Int)] := rfl
theorem pixq0 {x : Rat} {m : M} : pIdx (.val (encQ x)) (.val (.int 0)) m = some (.val (.int x.num), m) := by
  unfold encQ
  rw [pix_t, atI_0]
  rfl
theorem pixq1 {x : Rat} {m : M} : pIdx (.val (encQ x)) (.val (.int 1)) m = some (.val (.int (x.den : Int)), m) := by
  unfold encQ
  rw [pix_t, atI_1]
  rfl
theorem num_pos (x : Rat) : 0 < x.num ↔ 0 < x := by
  rw [Rat.lt_iff]
  have h1 : (0 : Rat).num = 0 := rfl
  have h2 : (0 : Rat).den = 1 := rfl
  rw [h1, h2]
  simp
theorem num_zero (x : Rat) : x.num = 0 ↔ x = 0 := Rat.num_eq_zero
/-- ints as data -/
def encI (l : List Nat) : List D := l.map fun a : Nat => .int a
def encT (l : List Nat) : D := .tuple (encI l)
theorem encI_len (l : List Nat) : (encI l).length = l.length := by unfold encI; rw [List.length_map]
theorem encI_get {l : List Nat} {i a : Nat} (h : l[i]? = some a) : (encI l)[i]? = some (.int a) := by
  unfold encI
  rw [List.getElem?_map, h]
  rfl
theorem sum_cast : ∀ l : List Nat, (l.map fun a : Nat => (a : Int)).sum = ((l.sum : Nat) : Int)
  | [] => rfl
  | a :: l => by
    rw [List.map_cons, List.sum_cons, sum_cast l, List.sum_cons]
    push_cast
    rfl
theorem psum_T {l : List Nat} {m : M} : pSum [.val (encT l)] m = some (.val (.int (l.sum : Nat)), m) := by
  have h := psum_t (m := m) l (fun a : Nat => (a : Int))
  rw [sum_cast] at h
  exact h
theorem plen_T {l : List Nat} {m : M} : pLen [.val (encT l)] m = some (.val (.int (l.length : Nat)), m) := by
  unfold encT
  rw [plen_t, encI_len]
theorem pix_T {l : List Nat} {i a : Nat} {m : M} (h : l[i]? = some a) : pIdx (.val (encT l)) (.val (.int (i : Nat))) m = some (.val (.int a), m) := by
  unfold encT
  rw [pix_t, at_nat (encI_get h)]
  rfl
theorem pix_T0 {l : List Nat} {a : Nat} {m : M} (h : l[0]? = some a) : pIdx (.val (encT l)) (.val (.int 0)) m = some (.val (.int a), m) := pix_T (i := 0) h
/-! slices -/
def sl1 (r : R) (lo hi : Option Int) (m : M) : Option (R × M) := match r with
  | .val (.tuple ds) => some (.val (.tuple (cutD ds lo hi)), m)
  | r => (asL r m).bind fun ds => some (.val (.list (cutD ds lo hi)), m)
theorem ev_sl {f : EF} {l h : OF} {env : Sl} {m : M} : eSl f l h env m = (f env m).bind fun x => (l env x.2).bind fun y => (h env y.2).bind fun z => sl1 x.1 y.1 z.1 z.2 := nr rfl
theorem ev_oNone {env : Sl} {m : M} : oNone env m = some (none, m) := nr rfl
theorem ev_oSome {f : EF} {env : Sl} {m : M} : oSome f env m = (f env m).bind fun x => (asI x.1).bind fun i => some (some i, x.2) := nr rfl
theorem sl1_r {k : Nat} {m : M} {ds : List D} {lo hi : Option Int} (h : m[k]? = some (.lst ds)) : sl1 (.ref k) lo hi m = some (.val (.list (cutD ds lo hi)), m) := by
  show ((asL (.ref k) m).bind fun ds => some (R.val (.list (cutD ds lo hi)), m)) = _
  rw [asL_r h]
  rfl
theorem sl1_t {m : M} {ds : List D} {lo hi : Option Int} : sl1 (.val (.tuple ds)) lo hi m = some (.val (.tuple (cutD ds lo hi)), m) := nr rfl
theorem sl1_l {m : M} {ds : List D} {lo hi : Option Int} : sl1 (.val (.list ds)) lo hi m = some (.val (.list (cutD ds lo hi)), m) := nr rfl
theorem six_nat {n d k : Nat} : HT.sIx n d (some (k : Int)) = min k n := by
  unfold HT.sIx
  simp
  omega
theorem cut_take {ds : List D} {k : Nat} : cutD ds none (some (k : Int)) = ds.take k := by
  unfold cutD
  rw [six_nat]
  show (ds.drop 0).take (min k ds.length - 0) = _
  rw [List.drop_zero, Nat.sub_zero, ← List.take_eq_take_min]
theorem cut_drop {ds : List D} {k : Nat} : cutD ds (some (k : Int)) none = ds.drop k := by
  unfold cutD
  rw [six_nat]
  show (ds.drop (min k ds.length)).take (ds.length - min k ds.length) = _
  by_cases h : k ≤ ds.length
  · rw [Nat.min_eq_left h]
    refine List.take_of_length_le ?_
    rw [List.length_drop]
    exact Nat.le_refl _
  · rw [Nat.min_eq_right (by omega), Nat.sub_self, List.take_zero, List.drop_eq_nil_of_le (by omega)]
theorem cut_mid {ds : List D} {j k : Nat} (h : j ≤ k) : cutD ds (some (j : Int)) (some (k : Int)) = (ds.take k).drop j := by
  unfold cutD
  rw [six_nat, six_nat, List.drop_take]
  by_cases h2 : k ≤ ds.length
  · rw [Nat.min_eq_left h2, Nat.min_eq_left (by omega)]
  · by_cases h3 : j ≤ ds.length
    · rw [Nat.min_eq_right (by omega), Nat.min_eq_left h3, List.take_of_length_le, List.take_of_length_le]
      · rw [List.length_drop]; omega
      · rw [List.length_drop]; omega
    · rw [Nat.min_eq_right (by omega), Nat.min_eq_right (by omega), List.drop_eq_nil_of_le (by omega), List.drop_eq_nil_of_le (by omega)]
      simp
theorem encI_take (l : List Nat) (k : Nat) : (encI l).take k = encI (l.take k) := by
  unfold encI
  rw [List.map_take]
theorem encI_drop (l : List Nat) (k : Nat) : (encI l).drop k = encI (l.drop k) := by
  unfold encI
  rw [List.map_drop]
/-! whole part -/
theorem floor_facts (x : Rat) (h : 0 ≤ x) : ∃ w : Nat, x.num / (x.den : Int) = (w : Nat) ∧ (w : Rat) ≤ x ∧ x < (w : Rat) + 1 ∧ (((x.num % (x.den : Int) : Int)) : Rat) / (((x.den : Nat) : Int) : Rat) = x - (w : Rat) := by
  have hd := den_pos x
  have hn : 0 ≤ x.num := by
    rw [Rat.le_iff] at h
    have h1 : (0 : Rat).num = 0 := rfl
    have h2 : (0 : Rat).den = 1 := rfl
    rw [h1, h2] at h
    simpa using h
  have hw := Int.ediv_nonneg hn (Int.le_of_lt hd)
  obtain ⟨w, hw2⟩ : ∃ w : Nat, x.num / (x.den : Int) = w := ⟨(x.num / (x.den : Int)).toNat, by omega⟩
  have e := Int.emod_add_mul_ediv x.num (x.den : Int)
  have r0 := Int.emod_nonneg x.num (show ((x.den : Nat) : Int) ≠ 0 by omega)
  have r1 := Int.emod_lt_of_pos x.num hd
  rw [hw2] at e
  have f := frac x
  have dn := den_ne x
  have dp : (0 : Rat) < (((x.den : Nat) : Int) : Rat) := by exact_mod_cast hd
  have e' : ((x.num % (x.den : Int) : Int) : Rat) + (((x.den : Nat) : Int) : Rat) * (w : Rat) = ((x.num : Int) : Rat) := by exact_mod_cast congrArg (fun z : Int => (z : Rat)) e
  have key : (((x.num % (x.den : Int) : Int)) : Rat) / (((x.den : Nat) : Int) : Rat) = x - (w : Rat) := by
    rw [← f, ← e']
    grind
  have r0' : (0 : Rat) ≤ (((x.num % (x.den : Int) : Int)) : Rat) := by exact_mod_cast r0
  have r1' : (((x.num % (x.den : Int) : Int)) : Rat) < (((x.den : Nat) : Int) : Rat) := by exact_mod_cast r1
  have k0 : (0 : Rat) ≤ (((x.num % (x.den : Int) : Int)) : Rat) / (((x.den : Nat) : Int) : Rat) := by
    rw [Rat.div_def]
    exact Rat.mul_nonneg r0' (Rat.le_of_lt (Rat.inv_pos.mpr dp))
  have k1 : (((x.num % (x.den : Int) : Int)) : Rat) / (((x.den : Nat) : Int) : Rat) < 1 := by
    have := (Rat.mul_lt_mul_right (Rat.inv_pos.mpr dp)).mpr r1'
    rw [← Rat.div_def, ← Rat.div_def] at this
    grind
  exact ⟨w, hw2, by grind, by grind, key⟩
/-! a list of the store gone through -/
theorem stepR_nx {k i n : Nat} {ds : List D} {d : D} {m m1 m2 : M} {gf : GF} {sf : SF} {env env1 env2 : Sl} (hm : m[k]? = some (.lst ds)) (hd : ds[i]? = some d) (hg : gf (.val d) env m = some (env1, m1)) (hb : sf env1 m1 = some (.nx env2 m2)) :
    loop (srcR k) gf sf (n + 1) i env m = loop (srcR k) gf sf n (i + 1) env2 m2 := by
  have e : srcR k i m = some (some d) := by
    unfold srcR
    rw [hm]
    simp only [hd]
  show ((srcR k i m).bind fun o => match o with
    | none => some (.nx env m)
    | some d => (gf (.val d) env m).bind fun x => (sf x.1 x.2).bind fun fl => aftF fl (loop (srcR k) gf sf n (i + 1))) = _
  rw [e, ob_some]
  simp only [hg, ob_some, hb, ev_aft_nx]
theorem stepR_rt {k i n : Nat} {ds : List D} {d : D} {m m1 m2 : M} {gf : GF} {sf : SF} {env env1 : Sl} {r : R} (hm : m[k]? = some (.lst ds)) (hd : ds[i]? = some d) (hg : gf (.val d) env m = some (env1, m1)) (hb : sf env1 m1 = some (.rt r m2)) :
    loop (srcR k) gf sf (n + 1) i env m = some (.rt r m2) := by
  have e : srcR k i m = some (some d) := by
    unfold srcR
    rw [hm]
    simp only [hd]
  show ((srcR k i m).bind fun o => match o with
    | none => some (.nx env m)
    | some d => (gf (.val d) env m).bind fun x => (sf x.1 x.2).bind fun fl => aftF fl (loop (srcR k) gf sf n (i + 1))) = _
  rw [e, ob_some]
  simp only [hg, ob_some, hb, ev_aft_rt]
theorem endR {k i n : Nat} {ds : List D} {m : M} {gf : GF} {sf : SF} {env : Sl} (hm : m[k]? = some (.lst ds)) (hd : ds[i]? = none) : loop (srcR k) gf sf n i env m = some (.nx env m) := by
  have e : srcR k i m = some none := by
    unfold srcR
    rw [hm]
    simp only [hd]
  cases n <;> simp [loop, e]
theorem run_ref {k : Nat} {ds : List D} {m : M} {gf : GF} {sf : SF} {env : Sl} (hm : m[k]? = some (.lst ds)) : runI (an1 (.ref k) m) gf sf env = loop (srcR k) gf sf ds.length 0 env m := by
  unfold an1 runI
  simp only [hm, ob_some]
theorem eraseIdx_mapL {α β : Type} (f : α → β) : ∀ (l : List α) (j : Nat), (l.map f).eraseIdx j = (l.eraseIdx j).map f
  | [], j => by simp
  | a :: l, 0 => by simp
  | a :: l, j + 1 => by simp [eraseIdx_mapL f l j]
theorem place_enc {i : Nat} : ∀ {l : List Nat}, i ∈ l → ∃ j, placeI (i : Int) (l.map fun a : Nat => (a : Int)) = some j ∧ l.eraseIdx j = l.erase i
  | [], h => by cases h
  | a :: l, h => by
    rw [List.map_cons]
    unfold placeI
    by_cases e : a = i
    · subst e
      exact ⟨0, by rw [if_pos rfl], by simp⟩
    · have e2 : ¬ ((a : Int) = (i : Int)) := by omega
      rw [if_neg e2]
      rcases List.mem_cons.mp h with z | z
      · exact absurd z.symm e
      · obtain ⟨j, h1, h2⟩ := place_enc z
        refine ⟨j + 1, by rw [h1]; rfl, ?_⟩
        rw [List.eraseIdx_cons_succ, h2, List.erase_cons_tail (by simpa using e)]
theorem remove_enc {l : List Nat} {i k : Nat} {m : M} (nd : l.Nodup) (h : i ∈ l) (hm : m[k]? = some (.lst (encI l))) : pRemove (.ref k) [.val (.int (i : Nat))] m = some (.val .none, m.set k (.lst (encI (l.filter fun j => j != i)))) := by
  obtain ⟨j, h1, h2⟩ := place_enc h
  have e1 : asIs (encI l) = some (l.map fun a : Nat => (a : Int)) := asIs_map' l fun a : Nat => (a : Int)
  show ((m[k]?).bind fun o => match o with
    | .lst ds => (asIs ds).bind fun ns => (placeI (i : Int) ns).bind fun j => some (R.val .none, m.set k (.lst ((ns.eraseIdx j).map PyData.int)))
    | .dct _ _ _ => none) = _
  rw [hm, ob_some]
  simp only [e1, ob_some, h1]
  have e2 : ((l.map fun a : Nat => (a : Int)).eraseIdx j).map PyData.int = encI (l.filter fun j => j != i) := by
    rw [eraseIdx_mapL, h2, List.Nodup.erase_eq_filter nd]
    unfold encI
    rw [List.map_map]
    rfl
  rw [e2]
/-! one turn of a while -/
theorem w_nx {c : TF} {body : SF} {n : Nat} {env e2 : Sl} {m m1 m2 : M} (hc : c env m = some (true, m1)) (hb : body env m1 = some (.nx e2 m2)) : wloop c body (n + 1) env m = wloop c body n e2 m2 := by
  show ((c env m).bind fun x => if x.1 = true then (body env x.2).bind fun fl => aftF fl (wloop c body n) else some (.nx env x.2)) = _
  rw [hc, ob_some]
  simp only [if_true, hb, ob_some, ev_aft_nx]
theorem w_end {c : TF} {body : SF} {n : Nat} {env : Sl} {m m1 : M} (hc : c env m = some (false, m1)) : wloop c body (n + 1) env m = some (.nx env m1) := by
  show ((c env m).bind fun x => if x.1 = true then (body env x.2).bind fun fl => aftF fl (wloop c body n) else some (.nx env x.2)) = _
  rw [hc, ob_some]
  simp only [Bool.false_eq_true, if_false]
end Ev

set_option Elab.async false
set_option linter.all false
set_option maxRecDepth 100000
/-! repr of data that is not large. -/
namespace Ev
open PySem PySem.Spec PyProof.Rows L2
structure Sh (w dep : Nat) (d : D) : Prop where
  sm : smallD d = true
  wt : d.weight ≤ w
  dp : d.depth ≤ dep
structure ShA (w dep : Nat) (ds : List D) : Prop where
  sm : smallDs ds = true
  wt : PyData.weightAll ds ≤ w
  dp : PyData.depthAll ds ≤ dep
theorem Sh.int {i : Int} (h : -(1000000000000000000000000 : Int) < i ∧ i < (1000000000000000000000000 : Int)) : Sh 81 0 (.int i) := by
  refine ⟨decide_eq_true h, ?_, Nat.le_refl _⟩
  have h1 := int_log h
  show (if i == 0 then 0 else i.natAbs.log2 + 1) ≤ 81
  split
  · exact Nat.zero_le _
  · have := log2_lt_of (k := 79) (Nat.lt_of_lt_of_le h1 (by decide))
    omega
theorem Sh.up {w w' dep dep' : Nat} {d : D} (h : Sh w dep d) (hw : w ≤ w') (hd : dep ≤ dep') : Sh w' dep' d := ⟨h.sm, Nat.le_trans h.wt hw, Nat.le_trans h.dp hd⟩
theorem Sh.non : Sh 1 0 .none := ⟨rfl, by decide, by decide⟩
theorem Sh.bl {b : Bool} : Sh 1 0 (.bool b) := ⟨rfl, by cases b <;> decide, by cases b <;> decide⟩
theorem ShA.nil : ShA 0 0 [] := ⟨rfl, Nat.le_refl _, Nat.le_refl _⟩
theorem ShA.cons {w v a b : Nat} {d : D} {ds : List D} (h : Sh w a d) (t : ShA v b ds) : ShA (w + 1 + v) (max a b) (d :: ds) := by
  refine ⟨?_, ?_, ?_⟩
  · show (smallD d && smallDs ds) = true
    rw [h.sm, t.sm]
    rfl
  · show d.weight + 1 + PyData.weightAll ds ≤ _
    have := h.wt
    have := t.wt
    omega
  · show max d.depth (PyData.depthAll ds) ≤ _
    have := h.dp
    have := t.dp
    omega
theorem Sh.tup {w dep : Nat} {ds : List D} (h : ShA w dep ds) : Sh w (dep + 1) (.tuple ds) := ⟨h.sm, h.wt, by
  show PyData.depthAll ds + 1 ≤ _
  have := h.dp
  omega⟩
theorem Sh.lst {w dep : Nat} {ds : List D} (h : ShA w dep ds) : Sh w (dep + 1) (.list ds) := ⟨h.sm, h.wt, by
  show PyData.depthAll ds + 1 ≤ _
  have := h.dp
  omega⟩
theorem ShA.map {α : Type} {w dep : Nat} {f : α → D} : ∀ {l : List α}, (∀ x ∈ l, Sh w dep (f x)) → ShA ((w + 1) * l.length) dep (l.map f)
  | [], _ => ⟨rfl, Nat.le_refl _, Nat.zero_le _⟩
  | a :: l, h => by
    have ih := ShA.map (l := l) fun x hx => h x (List.mem_cons_of_mem _ hx)
    have := ShA.cons (h a (by simp)) ih
    rw [Nat.max_self] at this
    rw [List.length_cons, Nat.mul_succ, Nat.add_comm]
    exact this
theorem Sh.repr {w dep : Nat} {d : D} {m : M} (h : Sh w dep d) (hw : w ≤ 500000) (hd : dep ≤ 60) : pRepr [.val d] m = some (.val (.str d.shown), m) := pRepr_ok h.sm (Nat.le_trans h.dp hd) (Nat.le_trans h.wt hw)
theorem sh_encI {l : List Nat} (h : ∀ a ∈ l, a < 1000000000000000000000000) : ShA (82 * l.length) 0 (encI l) := by
  refine ShA.map (f := fun a : Nat => PyData.int a) fun a ha => Sh.int ⟨by omega, ?_⟩
  have := h a ha
  omega
/-- a fraction that is not large -/
theorem sh_Q {N B : Nat} {x : Rat} (hN : 0 < N) (a : Qa.In N x) (h1 : -(B : Rat) ≤ x) (h2 : x ≤ (B : Rat)) (h : B * N < 1000000000000000000000000) (hN2 : N < 1000000000000000000000000) : Sh 164 1 (encQ x) := by
  have h3 := Qa.num_le h1 h2
  have h4 := a.den_le hN
  have h5 : B * x.den ≤ B * N := Nat.mul_le_mul_left B h4
  have e1 : Sh 81 0 (.int x.num) := Sh.int (by omega)
  have e2 : Sh 81 0 (.int (x.den : Int)) := Sh.int (by omega)
  exact (Sh.tup (ShA.cons e1 (ShA.cons e2 ShA.nil))).up (by decide) (by decide)
theorem ev_gTp {n : Nat} {g : GsF} {ds : List D} {env : Sl} {m : M} : gTp n g (.val (.tuple ds)) env m = if ds.length = n then g (ds.map R.val) env m else none := nr rfl
theorem ev_gsC {g : GF} {h : GsF} {r : R} {rs : List R} {env : Sl} {m : M} : gsCons g h (r :: rs) env m = (g r env m).bind fun x => h rs x.1 x.2 := nr rfl
theorem ev_gsN {env : Sl} {m : M} : gsNil [] env m = some (env, m) := nr rfl
end Ev

set_option Elab.async false
set_option linter.all false
set_option maxRecDepth 100000
/-! sorting by keys, of known values. -/
namespace Ev
open PySem PySem.Spec PyProof.Rows L2
theorem kfold_map {α : Type} {fk : D → M → Option (D × M)} {m : M} (enc K : α → D) : ∀ (l : List α), (∀ a ∈ l, fk (enc a) m = some (K a, m)) → kfold fk (l.map enc) m = some (l.map K, m)
  | [], _ => rfl
  | a :: l, h => by
    rw [List.map_cons]
    unfold kfold
    rw [h a (by simp), ob_some, kfold_map enc K l fun b hb => h b (List.mem_cons_of_mem _ hb), ob_some]
    rfl
theorem sortKD_map {α : Type} (enc K : α → D) (l : List α) : sortKD (l.map K) (l.map enc) = (l.mergeSort fun a b => PySem.W.dataLe false K a b).map enc := by
  unfold sortKD
  have e : (l.map K).zip (l.map enc) = l.map fun a => (K a, enc a) := by
    induction l with
    | nil => rfl
    | cons a l ih => simp [ih]
  have e2 := List.map_mergeSort (r := fun a b => PySem.W.dataLe false K a b) (s := PySem.W.dataLe false Prod.fst) (f := fun a => (K a, enc a)) (l := l) fun a _ b _ => rfl
  rw [e, ← e2, List.map_map]
  rfl
theorem depth_map {α : Type} {K : α → D} {n : Nat} : ∀ (l : List α), (∀ a ∈ l, (K a).depth ≤ n) → PyData.depthAll (l.map K) ≤ n
  | [], _ => Nat.zero_le _
  | a :: l, h => by
    have := h a (by simp)
    have := depth_map l fun b hb => h b (List.mem_cons_of_mem _ hb)
    show max (K a).depth (PyData.depthAll (l.map K)) ≤ n
    omega
theorem sortable_tup {α : Type} {K : α → D} (l : List α) (h : ∀ a ∈ l, ∃ x xs, K a = .tuple (x :: xs)) (hal : ∀ a ∈ l, ∀ b ∈ l, PySem.W.alike (K a) (K b) = true) : sortableB (l.map K) = true := by
  unfold sortableB
  rw [Bool.and_eq_true, Bool.or_eq_true]
  refine ⟨?_, .inl ?_⟩
  · rw [List.all_eq_true]
    intro x hx
    rw [List.all_eq_true]
    intro y hy
    obtain ⟨a, ha, rfl⟩ := List.mem_map.mp hx
    obtain ⟨b, hb, rfl⟩ := List.mem_map.mp hy
    exact hal a ha b hb
  · rw [List.all_eq_true]
    intro x hx
    obtain ⟨a, ha, rfl⟩ := List.mem_map.mp hx
    obtain ⟨y, ys, e⟩ := h a ha
    rw [e]
theorem sortKF_map {α : Type} {fk : D → M → Option (D × M)} {m : M} (enc K : α → D) (l : List α) (h : ∀ a ∈ l, fk (enc a) m = some (K a, m)) (h1 : sortableB (l.map K) = true) (h2 : ∀ a ∈ l, (K a).depth ≤ 60) (h3 : l.length ≤ 16777216) :
    sortKF fk (l.map enc) m = some (.val (.list ((l.mergeSort fun a b => PySem.W.dataLe false K a b).map enc)), m) := by
  have e1 : smallAll (l.map K) = true := decide_eq_true (depth_map l h2)
  have e2 : decide ((l.map enc).length ≤ sizeLine) = true := decide_eq_true (by rw [List.length_map, sz]; exact h3)
  unfold sortKF
  rw [kfold_map enc K l h, ob_some]
  simp only [h1, e1, e2, Bool.and_self, if_true, sortKD_map]
theorem alike_ii (a b c d : Int) : PySem.W.alike (.tuple [.int a, .int b]) (.tuple [.int c, .int d]) = true := by simp [PySem.W.alike, PySem.W.alikeAll]
/-- by pairs of ints -/
theorem sortKF_ii {α : Type} {fk : D → M → Option (D × M)} {m : M} (enc : α → D) (x y : α → Int) (l : List α) (h : ∀ a ∈ l, fk (enc a) m = some (.tuple [.int (x a), .int (y a)], m)) (h3 : l.length ≤ 16777216) :
    sortKF fk (l.map enc) m = some (.val (.list ((l.mergeSort fun p q => decide (x p < x q ∨ (x p = x q ∧ y p ≤ y q))).map enc)), m) := by
  have := sortKF_map enc (fun a => .tuple [.int (x a), .int (y a)]) l h (sortable_tup l (fun a _ => ⟨_, _, rfl⟩) fun a _ b _ => alike_ii _ _ _ _) (fun a _ => by show 1 ≤ 60; decide) h3
  rw [this]
  have e := PySem.W.dataLe_ii (β := α) x y
  have e2 : (fun a b => PySem.W.dataLe false (fun a => PyData.tuple [.int (x a), .int (y a)]) a b) = fun p q => decide (x p < x q ∨ (x p = x q ∧ y p ≤ y q)) := e
  rw [e2]
@[simp] theorem ev_sortKR {bs : List Bool} {fb : EF} {fa : AF} {env : Sl} {m : M} : eSortKR bs fb fa env m = (fa env m).bind fun x => (bds x.1).bind fun b => if rgOkB b.1 b.2 = true then sortKF (keyF fb bs env) (rngD b.1 (b.2 - b.1).toNat) x.2 else none := nr rfl
theorem bds1 {n : Nat} : bds [.val (.int (n : Nat))] = some (0, (n : Int)) := nr rfl
theorem rgOk0 {n : Nat} (h : n ≤ 1000000) : rgOkB 0 (n : Int) = true := decide_eq_true ⟨by decide, by decide, by omega, by omega, by omega⟩
/-! natural numbers -/
theorem pmN {a b : Nat} {m : M} (ha : a < 1000000000000000000) (hb : b < 1000000000000000000) : pMul (.val (.int (a : Int))) (.val (.int (b : Int))) m = some (.val (.int ((a * b : Nat) : Int)), m) := by
  rw [pm_ii (by omega) (by omega)]
  push_cast
  rfl
theorem pdN {a b : Nat} {m : M} (h : 0 < b) (hb : b < 1000000000000000000) : pDiv (.val (.int (a : Int))) (.val (.int (b : Int))) m = some (.val (.int ((a / b : Nat) : Int)), m) := by
  rw [pdv_ii (by omega) (by omega)]
  push_cast
  rfl
theorem pmodN {a b : Nat} {m : M} (h : 0 < b) : pMod (.val (.int (a : Int))) (.val (.int (b : Int))) m = some (.val (.int ((a % b : Nat) : Int)), m) := by
  rw [pmd_ii (by omega)]
  push_cast
  rfl
theorem ppN {a b : Nat} {m : M} : pPlus (.val (.int (a : Int))) (.val (.int (b : Int))) m = some (.val (.int ((a + b : Nat) : Int)), m) := by
  rw [pp_ii]
  push_cast
  rfl
theorem pltN {a b : Nat} {m : M} : pLt (.val (.int (a : Int))) (.val (.int (b : Int))) m = some (.val (.bool (decide (a < b))), m) := by
  rw [plt_ii]
  simp
theorem pgtN {a b : Nat} {m : M} : pGt (.val (.int (a : Int))) (.val (.int (b : Int))) m = some (.val (.bool (decide (b < a))), m) := by
  rw [pgt_ii]
  simp
/-- a list of natural numbers in the store, read and written -/
theorem pix_rN {k i a : Nat} {l : List Nat} {m : M} (hm : m[k]? = some (.lst (encI l))) (h : l[i]? = some a) : pIdx (.ref k) (.val (.int (i : Int))) m = some (.val (.int (a : Int)), m) := by
  rw [pix_r hm, at_nat (encI_get h)]
  rfl
theorem pset_rN {k i a : Nat} {l : List Nat} {m : M} (hm : m[k]? = some (.lst (encI l))) (h : i < l.length) : pSet (.ref k) (.val (.int (i : Int))) (.val (.int (a : Int))) m = some (m.set k (.lst (encI (l.set i a)))) := by
  rw [pset_r hm, encI_len, ixN_nat h, ob_some]
  congr 2
  unfold encI
  rw [List.map_set]
theorem getD_some {l : List Nat} {i : Nat} (h : i < l.length) : l[i]? = some (l.getD i 0) := by
  rw [List.getD, List.getElem?_eq_getElem h]
  rfl
theorem psum_rN {k : Nat} {r : List Nat} {m : M} (h : m[k]? = some (.lst (encI r))) : pSum [.ref k] m = some (.val (.int (r.sum : Nat)), m) := by
  show ((asLT (.ref k) m).bind fun ds => (asIs ds).bind fun ns => some (R.val (.int ns.sum), m)) = _
  have e1 : asLT (.ref k) m = some (encI r) := by simp [asLT, asL, h]
  have e2 : asIs (encI r) = some (r.map fun a : Nat => (a : Int)) := asIs_map' r fun a : Nat => (a : Int)
  rw [e1, ob_some, e2, ob_some, sum_cast]
def rp (ds : List D) (r : R) (m : M) : Option (List D × M) := (asI r).bind fun k => if -(2 ^ 63) ≤ k ∧ k < 2 ^ 63 ∧ ds.length * k.toNat ≤ sizeLine then some ((List.replicate k.toNat ds).flatten, m) else none
theorem ev_rep {f : NF} {g : EF} {env : Sl} {m : M} : nRep f g env m = (f env m).bind fun x => (g env x.2).bind fun y => rp x.1 y.1 y.2 := nr rfl
theorem rp_zeros {n : Nat} {m : M} (h : n ≤ 1000) : rp [.int 0] (.val (.int (n : Int))) m = some (encI (List.replicate n 0), m) := by
  unfold rp
  rw [ev_asI, ob_some, if_pos ⟨by omega, by omega, by rw [sz, Int.toNat_natCast]; simp; omega⟩]
  rw [Int.toNat_natCast]
  congr 2
  unfold encI
  rw [List.map_replicate]
  induction n with
  | zero => rfl
  | succ n ih =>
    rw [List.replicate_succ, List.flatten_cons, ih (by omega), List.replicate_succ]
    rfl
end Ev

set_option Elab.async false
set_option linter.all false
set_option maxRecDepth 100000
/-! dicts: the pure side, and what is asked of one dict. -/
namespace Ev
open PySem PySem.Spec PyProof.Rows L2

def sameD : Bool → D → D → Bool
  | false, a, b => decide (keyK a = keyK b)
  | true, a, b => decide (keyN a = keyN b)
theorem sameD_F {a b : D} : sameD false a b = decide (keyK a = keyK b) := rfl
theorem sameD_T {a b : D} : sameD true a b = decide (keyN a = keyN b) := rfl
def topN : NestedKey → Bool
  | .tup ks => decide ((NestedKey.tup ks).depth ≤ 8)
  | _ => false
def keyOkN (d : D) : Bool := match keyN d with
  | some k => topN k
  | none => false
def keyOk : Bool → D → Bool
  | false, d => (keyK d).isSome
  | true, d => keyOkN d
def lookD (t : Bool) (kvs : List (D × D)) (d : D) : Option D := (kvs.find? fun q => sameD t q.1 d).map (·.2)
def putD (t : Bool) (kvs : List (D × D)) (d x : D) : List (D × D) :=
  if (kvs.any fun q => sameD t q.1 d) = true then kvs.map (fun q => if sameD t q.1 d = true then (q.1, x) else q) else kvs ++ [(d, x)]
def putE (es : List (NestedKey × Addr × V)) (k : NestedKey) (b : Addr) (v : V) : List (NestedKey × Addr × V) :=
  if (es.any fun p => decide (p.1 = k)) = true then es.map (fun p => if p.1 = k then (p.1, p.2.1, v) else p) else es ++ [(k, b, v)]
def atE (es : List (NestedKey × Addr × V)) (k : NestedKey) : Option V := (es.find? fun p => decide (p.1 = k)).map (·.2.2)
abbrev RawE : List (NestedKey × Addr × V) → List (NestedKey × Addr × Value) → Prop := Paired fun p q => p.1 = q.1 ∧ p.2.1 = q.2.1 ∧ RelV p.2.2 q.2.2

/-! ### keys -/
mutual
theorem hash_ind (w w' : World) : ∀ (d : D) (k : NestedKey), keyN d = some k → k.hash w = k.hash w'
  | .none, _, e => by cases e; rfl
  | .int i, _, e => by cases e; rfl
  | .tuple ds, _, e => by
    unfold keyN at e
    obtain ⟨ks, e1, e2⟩ := Option.map_eq_some_iff.mp e
    subst e2
    unfold NestedKey.hash
    rw [hashes_ind w w' ds ks e1]
  | .bool _, _, e => by cases e
  | .str _, _, e => by cases e
  | .list _, _, e => by cases e
  | .dict _, _, e => by cases e
theorem hashes_ind (w w' : World) : ∀ (ds : List D) (ks : List NestedKey), keyNs ds = some ks → NestedKey.hashes w ks = NestedKey.hashes w' ks
  | [], _, e => by cases e; rfl
  | d :: ds, _, e => by
    unfold keyNs at e
    obtain ⟨k, e1, e⟩ := bind_some_iff e
    obtain ⟨ks, e2, e3⟩ := Option.map_eq_some_iff.mp e
    subst e3
    unfold NestedKey.hashes
    rw [hash_ind w w' d k e1, hashes_ind w w' ds ks e2]
end
section
variable {X : Cx} {pins : List (Addr × Obj)} {σ : L2.St} {H : Hp} {s : Shared}
mutual
theorem nested_of (I : Inv X pins σ H s) : ∀ {d : D} {k : NestedKey} {v : V} {u : Value}, keyN d = some k → Dp X.K H v d → RelV v u → NestedIs s.heap k u
  | .none, _, _, u, e, .non, r => by
    cases e
    cases u <;> first | exact .none | exact absurd r (fun z => nomatch z)
  | .int i, _, _, u, e, .int _, r => by
    cases e
    obtain ⟨t, rfl⟩ := (show ∃ t, u = Value.int i t from r)
    exact .int i t
  | .tuple ds, _, _, u, e, .tup (a := a) h ha, r => by
    unfold keyN at e
    obtain ⟨ks, e1, e2⟩ := Option.map_eq_some_iff.mp e
    subst e2
    obtain rfl : u = Value.ref a := r
    obtain ⟨its, rv, ⟨o, h1, h2, n, h3⟩, _⟩ := I.tuple h
    exact .tup h1 h2 h3 (by simpa using nesteds_of I e1 ha rv)
theorem nesteds_of (I : Inv X pins σ H s) : ∀ {ds : List D} {ks : List NestedKey} {vs : List V} {us : List Value}, keyNs ds = some ks → DpAll X.K H vs ds → Vals vs us → NestedAll s.heap ks us
  | [], _, _, _, e, .nil, r => by
    cases e
    cases r
    exact .nil
  | d :: ds, _, _, _, e, .cons h t, r => by
    unfold keyNs at e
    obtain ⟨k, e1, e⟩ := bind_some_iff e
    obtain ⟨ks, e2, e3⟩ := Option.map_eq_some_iff.mp e
    subst e3
    cases r with
    | cons r1 rt => exact .cons (nested_of I e1 h r1) (nesteds_of I e2 t rt)
end
end

/-! ### the lists side by side -/
section
variable {K : PySem.W.Frag} {H : Hp}
theorem KOk.find : ∀ {ks : List (Key × V)} {kvs : List (D × D)} {d : D} {k : Key}, KOk K H ks kvs → keyK d = some k →
    (lookD false kvs d = none ∧ valV ks k = none) ∨ ∃ x v, lookD false kvs d = some x ∧ valV ks k = some v ∧ Dp K H v x
  | _, _, d, k, .nil, e => .inl ⟨rfl, rfl⟩
  | p :: ks, q :: kvs, d, k, .cons h t, e => by
    by_cases c : p.1 = k
    · refine .inr ⟨q.2, p.2, ?_, valV_pos c, h.2⟩
      have : sameD false q.1 d = true := by rw [sameD_F, h.1, e, c]; simp
      unfold lookD
      rw [List.find?_cons, this]
      rfl
    · have : sameD false q.1 d = false := by rw [sameD_F, h.1, e]; simp [c]
      rw [valV_neg c]
      unfold lookD
      rw [List.find?_cons, this]
      exact KOk.find t e
theorem KOk.any : ∀ {ks : List (Key × V)} {kvs : List (D × D)} {d : D} {k : Key}, KOk K H ks kvs → keyK d = some k → (ks.any fun p => decide (p.1 = k)) = kvs.any fun q => sameD false q.1 d
  | _, _, d, k, .nil, e => rfl
  | p :: ks, q :: kvs, d, k, .cons h t, e => by
    rw [List.any_cons, List.any_cons, KOk.any t e]
    have : sameD false q.1 d = decide (p.1 = k) := by rw [sameD_F, h.1, e]; simp
    rw [this]
theorem KOk.put {ks : List (Key × V)} {kvs : List (D × D)} {d x : D} {k : Key} {v : V} (h : KOk K H ks kvs) (e : keyK d = some k) (hx : Dp K H v x) : KOk K H (putK ks k v) (putD false kvs d x) := by
  unfold putK putD
  rw [h.any e]
  split
  · rename_i hc; clear hc
    induction h with
    | nil => exact .nil
    | @cons p q ps qs h t ih =>
      rw [List.map_cons, List.map_cons]
      refine .cons ?_ ih
      have : sameD false q.1 d = decide (p.1 = k) := by rw [sameD_F, h.1, e]; simp
      rw [this]
      by_cases c : p.1 = k
      · rw [if_pos c, if_pos (decide_eq_true c)]
        exact ⟨h.1, hx⟩
      · rw [if_neg c, if_neg (by simp [c])]
        exact h
  · exact Paired.snoc h ⟨e, hx⟩
theorem NOk.find : ∀ {ks : List (NestedKey × Addr × V)} {kvs : List (D × D)} {d : D} {k : NestedKey}, NOk K H ks kvs → keyN d = some k →
    (lookD true kvs d = none ∧ atE ks k = none) ∨ ∃ x v, lookD true kvs d = some x ∧ atE ks k = some v ∧ Dp K H v x
  | _, _, d, k, .nil, e => .inl ⟨rfl, rfl⟩
  | p :: ks, q :: kvs, d, k, .cons h t, e => by
    by_cases c : p.1 = k
    · refine .inr ⟨q.2, p.2.2, ?_, by unfold atE; rw [List.find?_cons, decide_eq_true c]; rfl, h.2.2⟩
      have : sameD true q.1 d = true := by rw [sameD_T, h.1.1, e, c]; simp
      unfold lookD
      rw [List.find?_cons, this]
      rfl
    · have : sameD true q.1 d = false := by rw [sameD_T, h.1.1, e]; simp [c]
      unfold lookD atE
      rw [List.find?_cons, this, List.find?_cons, decide_eq_false c]
      exact NOk.find t e
theorem NOk.any : ∀ {ks : List (NestedKey × Addr × V)} {kvs : List (D × D)} {d : D} {k : NestedKey}, NOk K H ks kvs → keyN d = some k → (ks.any fun p => decide (p.1 = k)) = kvs.any fun q => sameD true q.1 d
  | _, _, d, k, .nil, e => rfl
  | p :: ks, q :: kvs, d, k, .cons h t, e => by
    rw [List.any_cons, List.any_cons, NOk.any t e]
    have : sameD true q.1 d = decide (p.1 = k) := by rw [sameD_T, h.1.1, e]; simp
    rw [this]
theorem NOk.put {ks : List (NestedKey × Addr × V)} {kvs : List (D × D)} {d x : D} {k : NestedKey} {b : Addr} {v : V} (h : NOk K H ks kvs) (e : keyN d = some k) (hk : k.depth ≤ 8) (hb : Dp K H (.ref b) d) (hx : Dp K H v x) : NOk K H (putE ks k b v) (putD true kvs d x) := by
  unfold putE putD
  rw [h.any e]
  split
  · rename_i hc; clear hc
    induction h with
    | nil => exact .nil
    | @cons p q ps qs h t ih =>
      rw [List.map_cons, List.map_cons]
      refine .cons ?_ ih
      have : sameD true q.1 d = decide (p.1 = k) := by rw [sameD_T, h.1.1, e]; simp
      rw [this]
      by_cases c : p.1 = k
      · rw [if_pos c, if_pos (decide_eq_true c)]
        exact ⟨h.1, h.2.1, hx⟩
      · rw [if_neg c, if_neg (by simp [c])]
        exact h
  · exact Paired.snoc h ⟨⟨e, hk⟩, hb, hx⟩
theorem RawE.val : ∀ {es : List (NestedKey × Addr × V)} {xs : List (NestedKey × Addr × Value)}, RawE es xs → ∀ k, RelO (atE es k) ((atKey xs k).map (·.2))
  | _, _, .nil, k => True.intro
  | p :: es, q :: xs, .cons h t, k => by
    by_cases c : p.1 = k
    · have a : atE (p :: es) k = some p.2.2 := by unfold atE; rw [List.find?_cons, decide_eq_true c]; rfl
      have b : atKey (q :: xs) k = some q.2 := by simp [atKey, List.find?_cons, h.1.symm.trans c]
      rw [a, b]
      exact h.2.2
    · have a : atE (p :: es) k = atE es k := by unfold atE; rw [List.find?_cons, decide_eq_false c]
      have b : atKey (q :: xs) k = atKey xs k := by simp [atKey, List.find?_cons, show ¬ q.1 = k from fun z => c (h.1.trans z)]
      rw [a, b]
      exact RawE.val t k
theorem atE_any (es : List (NestedKey × Addr × V)) (k : NestedKey) : (es.any fun p => decide (p.1 = k)) = (atE es k).isSome := by
  induction es with
  | nil => rfl
  | cons p es ih =>
    rw [List.any_cons, ih]
    unfold atE
    rw [List.find?_cons]
    by_cases c : p.1 = k
    · rw [decide_eq_true c]; rfl
    · rw [decide_eq_false c]; rfl
theorem RawE.put {es : List (NestedKey × Addr × V)} {xs : List (NestedKey × Addr × Value)} (h : RawE es xs) (k : NestedKey) (b : Addr) {v : V} {u : Value} (r : RelV v u) : RawE (putE es k b v) (storedH xs k b u) := by
  unfold putE storedH
  rw [atE_any, (h.val k).isSome_eq, Option.isSome_map]
  split
  · rename_i hc; clear hc
    induction h with
    | nil => exact .nil
    | @cons p q ps qs h t ih =>
      rw [List.map_cons, List.map_cons]
      refine .cons ?_ ih
      obtain ⟨h1, h2, h3⟩ := h
      unfold putAt
      by_cases c : p.1 = k
      · rw [if_pos c, if_pos (h1.symm.trans c)]
        exact ⟨h1, h2, r⟩
      · rw [if_neg c, if_neg (fun z => c (h1.trans z))]
        exact ⟨h1, h2, h3⟩
  · exact Paired.snoc h ⟨rfl, rfl, r⟩
end
theorem lookD_any (t : Bool) (kvs : List (D × D)) (d : D) : (kvs.any fun q => sameD t q.1 d) = (lookD t kvs d).isSome := by
  induction kvs with
  | nil => rfl
  | cons p es ih =>
    rw [List.any_cons, ih]
    unfold lookD
    rw [List.find?_cons]
    cases sameD t p.1 d <;> rfl
theorem lkd_rd {lk : Bool} {u : HO} {H : Hp} {a : Addr} (h : lkd lk u (H a)) : Rd H a u := by
  cases lk with
  | false => exact .inl h
  | true => exact .inr h

section
variable {X : Cx} {pins : List (Addr × Obj)} {σ : L2.St} {H : Hp} {s : Shared} {φ : Ad} {m : M} {ζ : Tbs}
theorem memPaired {α β : Type} {F : α → β → Prop} : ∀ {l₁ : List α} {l₂ : List β} {b : β}, Paired F l₁ l₂ → b ∈ l₂ → ∃ a ∈ l₁, F a b
  | _, _, _, .nil, h => by cases h
  | _, _, b, .cons h t, hb => by
    rcases List.mem_cons.mp hb with e | e
    · subst e
      exact ⟨_, List.mem_cons_self, h⟩
    · obtain ⟨a, h1, h2⟩ := memPaired t e
      exact ⟨a, List.mem_cons_of_mem _ h1, h2⟩
theorem memPairedL {α β : Type} {F : α → β → Prop} : ∀ {l₁ : List α} {l₂ : List β} {a : α}, Paired F l₁ l₂ → a ∈ l₁ → ∃ b ∈ l₂, F a b
  | _, _, _, .nil, h => by cases h
  | _, _, b, .cons h t, hb => by
    rcases List.mem_cons.mp hb with e | e
    · subst e
      exact ⟨_, List.mem_cons_self, h⟩
    · obtain ⟨a, h1, h2⟩ := memPairedL t e
      exact ⟨a, List.mem_cons_of_mem _ h1, h2⟩
/-- the dict of tuple keys that stands there -/
theorem xd_rd {P : Program} {w : World} {a : Addr} {es : List (NestedKey × Addr × V)} {kvs : List (D × D)} (I : Inv X pins σ H s) (h : Rd H a (.ext (XD P w a es))) (n : NOk X.K H es kvs) :
    es.length ≤ sizeLine ∧ (a == sysModules) = false ∧ ∃ xs, RawE es xs ∧ s.heap.DictOfH (nestedKind X.prog X.w) a xs := by
  obtain ⟨⟨z, hd, xs, rel, o, ea, ep, h1, h2, h3, h4, h5⟩, _⟩ := (show ObjOk X.prog X.w H s.heap a (.ext (XD P w a es)) from rd_of I.hok h)
  have key : ∀ x ∈ xs, ∃ d, keyN d = some x.1 ∧ x.1.depth ≤ 8 ∧ Dp X.K H (.ref x.2.1) d := fun x hx => by
    obtain ⟨p, hp, e1, e2, _⟩ := memPaired rel hx
    obtain ⟨q, hq, ⟨e3, e4⟩, e5, _⟩ := memPairedL n hp
    exact ⟨q.1, by rw [← e1]; exact e3, by rw [← e1]; exact e4, by rw [← e2]; exact e5⟩
  refine ⟨z, hd, xs, rel, o, ea, ep, h1, h2, h3, ?_, fun x hx => ?_, h5⟩
  · rw [h4]
    refine List.map_congr_left fun x hx => ?_
    obtain ⟨d, e1, _⟩ := key x hx
    unfold entryOfKey
    congr 1
    exact hash_ind w X.w d x.1 e1
  · obtain ⟨d, e1, e2, e3⟩ := key x hx
    exact ⟨nested_of I e1 e3 rfl, e2⟩
theorem keyK_V {K : PySem.W.Frag} {Ho : Hp} {d : D} {k : Key} {v : V} (e : keyK d = some k) (h : Dp K Ho v d) : v = kV k := by
  cases d with
  | int i => cases e; cases h; rfl
  | str x => cases e; cases h; rfl
  | _ => cases e
theorem keyOk_N {d : D} (h : keyOkN d = true) : ∃ k, keyN d = some k ∧ k.depth ≤ 8 ∧ ∃ ds, d = .tuple ds := by
  unfold keyOkN at h
  split at h
  · rename_i k e
    cases k with
    | tup ks =>
      refine ⟨_, e, of_decide_eq_true h, ?_⟩
      cases d with
      | tuple ds => exact ⟨ds, rfl⟩
      | _ => cases e
    | _ => cases h
  · cases h
theorem NOk.off {K : PySem.W.Frag} {es : List (NestedKey × Addr × V)} {kvs : List (D × D)} (h : NOk K (off φ H) es kvs) : NOk K H es kvs := Paired.mapP h fun p q z => ⟨z.1, dp_mono off_same z.2.1, dp_mono off_same z.2.2⟩
/-- a top key that is a tuple stands at an address -/
theorem key_ref {K : PySem.W.Frag} {Ho : Hp} {d : D} {v : V} (h : Dp K Ho v d) (t : ∃ ds, d = .tuple ds) : ∃ b, v = .ref b := by
  obtain ⟨ds, rfl⟩ := t
  cases h
  exact ⟨_, rfl⟩
end
end Ev

set_option Elab.async false
set_option linter.all false
set_option maxRecDepth 100000
/-! dicts: d[k], k in d, d[k] = v, len(d), {}. -/
namespace Ev
open PySem PySem.Spec PyProof.Rows L2

def pDGet (a b : R) (m : M) : Option (R × M) := match a, b with
  | .ref k, .val d => (m[k]?).bind fun ob => match ob with
    | .dct t _ kvs => if keyOk t d = true then (lookD t kvs d).bind fun x => some (.val x, m) else none
    | _ => none
  | _, _ => none
def pDHas (a b : R) (m : M) : Option Bool := match a, b with
  | .ref k, .val d => (m[k]?).bind fun ob => match ob with
    | .dct t _ kvs => if keyOk t d = true then some (lookD t kvs d).isSome else none
    | _ => none
  | _, _ => none
def pDIn (b a : R) (m : M) : Option (R × M) := (pDHas a b m).bind fun x => some (.val (.bool x), m)
def pDNin (b a : R) (m : M) : Option (R × M) := (pDHas a b m).bind fun x => some (.val (.bool (!x)), m)
def pDSet (o i v : R) (m : M) : Option M := match o, i, v with
  | .ref k, .val d, .val x => (m[k]?).bind fun ob => match ob with
    | .dct t false kvs => if keyOk t d = true ∧ kvs.length < sizeLine then some (m.set k (.dct t false (putD t kvs d x))) else none
    | _ => none
  | _, _, _ => none
def pLenD := p1 fun r m => match r with
  | .ref k => (m[k]?).bind fun ob => match ob with
    | .dct _ _ kvs => some (.val (.int kvs.length), m)
    | _ => none
  | _ => none
section
variable {X : Cx} {pins : List (Addr × Obj)} {σ : L2.St} {H : Hp} {s : Shared} {φ : Ad} {m : M} {k : Nat}
theorem KOk.off {K : PySem.W.Frag} {es : List (Key × V)} {kvs : List (D × D)} (h : KOk K (off φ H) es kvs) : KOk K H es kvs := Paired.mapP h fun p q z => ⟨z.1, dp_mono off_same z.2⟩
/-- d[k] -/
theorem dget_run (hr : Room k X.A) {o i : V} {ov iv : Value} {Q : VK} (I : Inv X pins σ H s) (ro : RelV o ov) (ri : RelV i iv) (q : r2P ζ X.K pDGet o i H Q) :
    s.TypeIs ov "dict" ∧ wpAny (model X.prog X.w) X.A (getItem ov iv) (EP X pins σ Q) X.xe s := by
  obtain ⟨φ, m, r1, r2, r, m', S, R1, R2, hf, kk⟩ := q
  unfold pDGet at hf
  split at hf
  · rename_i k0 d
    obtain ⟨ob, ho, hf⟩ := bind_some_iff hf
    split at hf
    · rename_i t lk kvs
      split at hf
      · rename_i hk
        obtain ⟨x, hx, hf⟩ := bind_some_iff hf
        cases hf
        obtain ⟨a, rfl, ha⟩ := R1
        obtain rfl : ov = Value.ref a := ro
        have O := S.obj k0 _ a ho ha
        match t, O with
        | false, ⟨ks, h1, h2⟩ =>
          obtain ⟨kk0, e0⟩ := Option.isSome_iff_exists.mp (show (keyK d).isSome = true from hk)
          obtain rfl := keyK_V e0 R2
          rcases h2.find e0 with ⟨e1, _⟩ | ⟨y, v, e1, e2, e3⟩
          · rw [hx] at e1; cases e1
          · rw [hx] at e1
            cases e1
            have g : DGet H a (kV kk0) (some v) := .inl ⟨ks, kk0, lkd_rd h1, rfl, e2.symm⟩
            exact ⟨dict_typeIs I g, d_getItem (by have := hr.un; omega) I g ri fun w' s' I' rw' => ⟨v, H, I', rw', kk φ H v .refl S e3⟩⟩
        | true, ⟨P, w, es, h1, h2⟩ =>
          obtain ⟨kn, e0, e4, e5⟩ := keyOk_N hk
          obtain ⟨z, hd, xs, rel, dd⟩ := xd_rd I (lkd_rd h1) h2.off
          rcases h2.find e0 with ⟨e1, _⟩ | ⟨y, v, e1, e2, e3⟩
          · rw [hx] at e1; cases e1
          · rw [hx] at e1
            cases e1
            have rr := rel.val kn
            rw [e2] at rr
            obtain ⟨w', hw, rw'⟩ := RelO.some_of rr
            obtain ⟨p, hp, hp2⟩ := Option.map_eq_some_iff.mp hw
            obtain ⟨b, rfl⟩ := key_ref R2 e5
            obtain rfl : iv = Value.ref b := ri
            have nk := nested_of I e0 (dp_mono off_same R2) (show RelV (.ref b) (.ref b) from rfl)
            refine ⟨dd.typeIs, ?_⟩
            refine wpAny_getItem_heap (knd := nestedKind X.prog X.w) (show X.A.in1.units + 8 < cLine by have := hr.un; show X.A.units + 1 + 8 < cLine; omega) ⟨nk, e4⟩ dd hp ?_
            rw [hp2]
            exact ⟨v, H, I.tok _, rw', kk φ H v .refl S e3⟩
      · cases hf
    · cases hf
  · cases hf
theorem pget_d (hr : Room k X.A) : PGet X (r2P ζ X.K pDGet) := fun pins s σ H o i ov iv Q I ro ri q => (dget_run hr I ro ri q).2
/-- d[k] in an expression: the value behind getItem is any -/
theorem subT_any {prog : Program} {w : World} {A : Around} {E : Value → Shared → Prop} {s : Shared} {value slice : Expr} {o i : Value} {T id : String} {Q : Value → Shared → Prop} (hT : s.TypeIs o T)
    (hl : typeLookup (.type T) "__getitem__" = pure (some (.builtin id))) (h : wpAny (model prog w) A (getItem o i) Q E s) (hs : subscripted slice false o i = operate [o, i] (getItem o i)) : wpAny (model prog w) A (subscriptTail value slice o i) Q E s := by
  unfold subscriptTail
  refine wpAny_bind ?_
  rw [getitemInPython_of_ne hT.not_modules]
  refine wpAny_bind (wpAny_specialOf hT hl ?_)
  have fin : wpAny (model prog w) A (subscripted slice false o i) (fun r s₃ => wpAny (model prog w) A (letTemporaryGo value o r >>= fun _ => pure r) Q E s₃) E s := by
    rw [hs]
    exact wpAny_operating (wpAny_mono h (fun r s₃ h₃ => wpAny_bind (wpAny_letTemporaryGo (wpAny_pure h₃))) fun _ _ x => x)
  first
    | exact wpAny_pure (wpAny_bind fin)
    | exact wpAny_bind (wpAny_pure (wpAny_bind fin))
    | exact wpAny_bind fin
theorem ix_d (hr : Room k X.A) : IxR X (r2P ζ X.K pDGet) := fun value slice pins s σ H x y v u Q I rx ry q hsub => by
  obtain ⟨h1, h2⟩ := dget_run hr I rx ry q
  exact subT_any h1 PySem.F.slot_dict_getitem.lookup h2 hsub
theorem x_dget {a b : Expr} {f g : EF} {pos : Pos} (hr : Room k X.A) (ha : PE X a (tE ζ X.K f)) (hb : PE X b (tE ζ X.K g)) (hs : PlainIx b := by exact fun _ _ => rfl) : PE X (.Subscript a b pos) (tE ζ X.K (eBin pDGet f g)) :=
  pe_imp (pe_ix (ix_d hr) ha hb hs) fun _ _ _ q => two_imp q
/-- k in d -/
theorem dhas_run (hr : Room k X.A) {i o : V} {iv ov : Value} {r1 r2 : R} {φ : Ad} {m : M} {b : Bool} (I : Inv X pins σ H s) (S : SR ζ X.K φ H m) (R1 : RR X.K φ H o r1) (R2 : RR X.K φ H i r2) (ro : RelV o ov) (ri : RelV i iv) (hf : pDHas r1 r2 m = some b) :
    (∀ Q : Value → Shared → Prop, (∀ s', Inv X pins σ H s' → Q (.bool b) s') → wpAny (model X.prog X.w) X.A (compareOp .In iv ov) Q X.xe s) ∧
    (∀ Q : Value → Shared → Prop, (∀ s', Inv X pins σ H s' → Q (.bool (!b)) s') → wpAny (model X.prog X.w) X.A (compareOp .NotIn iv ov) Q X.xe s) := by
  unfold pDHas at hf
  split at hf
  · rename_i k0 d
    obtain ⟨ob, ho, hf⟩ := bind_some_iff hf
    split at hf
    · rename_i t lk kvs
      split at hf
      · rename_i hk
        cases hf
        obtain ⟨a, rfl, ha⟩ := R1
        obtain rfl : ov = Value.ref a := ro
        have O := S.obj k0 _ a ho ha
        have hun := hr.un
        match t, O with
        | false, ⟨ks, h1, h2⟩ =>
          obtain ⟨kk0, e0⟩ := Option.isSome_iff_exists.mp (show (keyK d).isSome = true from hk)
          obtain rfl := keyK_V e0 R2
          have eq : (lookD false kvs d).isSome = (valV ks kk0).isSome := by
            rcases h2.find e0 with ⟨e1, e2⟩ | ⟨y, v, e1, e2, e3⟩ <;> rw [e1, e2] <;> rfl
          have g : DGet H a (kV kk0) (valV ks kk0) := .inl ⟨ks, kk0, lkd_rd h1, rfl, rfl⟩
          rw [eq]
          exact ⟨fun Q q => d_in (by omega) I g ri q, fun Q q => d_notIn (by omega) I g ri q⟩
        | true, ⟨P, w, es, h1, h2⟩ =>
          obtain ⟨kn, e0, e4, e5⟩ := keyOk_N hk
          obtain ⟨z, hd, xs, rel, dd⟩ := xd_rd I (lkd_rd h1) h2.off
          obtain ⟨b, rfl⟩ := key_ref R2 e5
          obtain rfl : iv = Value.ref b := ri
          have nk := nested_of I e0 (dp_mono off_same R2) (show RelV (.ref b) (.ref b) from rfl)
          have eq : (lookD true kvs d).isSome = (atKey xs kn).isSome := by
            have rr := (rel.val kn).isSome_eq
            rw [Option.isSome_map] at rr
            rw [← rr]
            rcases h2.find e0 with ⟨e1, e2⟩ | ⟨y, v, e1, e2, e3⟩ <;> rw [e1, e2] <;> rfl
          rw [eq]
          have rm : (nestedKind X.prog X.w).room X.A.in1 := show X.A.units + 1 + 8 < cLine by omega
          exact ⟨fun Q q => wpAny_in_heap (knd := nestedKind X.prog X.w) rm ⟨nk, e4⟩ hd dd (q _ (I.tok _)), fun Q q => wpAny_notIn_heap (knd := nestedKind X.prog X.w) rm ⟨nk, e4⟩ hd dd (q _ (I.tok _))⟩
      · cases hf
    · cases hf
  · cases hf
theorem o_din (hr : Room k X.A) : OpR X (compareOp .In) (r2P ζ X.K pDIn) := by
  intro pins s σ H x y v u Q I rx ry q
  obtain ⟨φ, m, r1, r2, r, m', S, R1, R2, hf, kk⟩ := q
  obtain ⟨b, h1, hf⟩ := bind_some_iff hf
  cases hf
  exact (dhas_run hr I S R2 R1 ry rx h1).1 _ fun s' I' => ⟨.bl b, H, I', rfl, kk φ H _ .refl S (Dp.bl _)⟩
theorem o_dnin (hr : Room k X.A) : OpR X (compareOp .NotIn) (r2P ζ X.K pDNin) := by
  intro pins s σ H x y v u Q I rx ry q
  obtain ⟨φ, m, r1, r2, r, m', S, R1, R2, hf, kk⟩ := q
  obtain ⟨b, h1, hf⟩ := bind_some_iff hf
  cases hf
  exact (dhas_run hr I S R2 R1 ry rx h1).2 _ fun s' I' => ⟨.bl (!b), H, I', rfl, kk φ H _ .refl S (Dp.bl _)⟩
/-- d[k] = v -/
theorem dset_ok (hr : Room k X.A) : PSet X (rSetP ζ X.K pDSet) := by
  intro pins s σ H o i v ov iv u Q I ro ri rv z
  obtain ⟨φ, m, r1, r2, r3, m', S, R1, R2, R3, hf, kk⟩ := z
  unfold pDSet at hf
  split at hf
  · rename_i k0 d x
    obtain ⟨ob, ho, hf⟩ := bind_some_iff hf
    split at hf
    · rename_i t kvs
      split at hf
      · rename_i hk
        obtain ⟨hk, hl⟩ := hk
        cases hf
        obtain ⟨a, rfl, ha⟩ := R1
        obtain rfl : ov = Value.ref a := ro
        have O := S.obj k0 _ a ho ha
        have hun := hr.un
        have hin : a ∈ φ.s := List.mem_of_getElem? ha
        have nh := S.apart hin
        have sm : ∀ o : HO, Same (off φ H) (off φ (upd H a o)) := fun o => off_write hin
        match t, O with
        | false, ⟨ks, h1, h2⟩ =>
          have h1' : H a = some (.dK ks) := h1
          obtain ⟨kk0, e0⟩ := Option.isSome_iff_exists.mp (show (keyK d).isSome = true from hk)
          obtain rfl := keyK_V e0 R2
          have hlen : ks.length < sizeLine := by rw [Paired.len h2]; exact hl
          have n2 := h2.put e0 R3
          refine d_setItem (by omega) I (.k h1' hlen) ri rv fun s' I' => ⟨_, I', kk φ _ (gr_write hin nh (nf_dK h1')) (S.writeO ha ⟨_, upd_same, n2⟩)⟩
        | true, ⟨P, w, es, h1, h2⟩ =>
          have h1' : H a = some (.ext (XD P w a es)) := h1
          obtain ⟨kn, e0, e4, e5⟩ := keyOk_N hk
          obtain ⟨z, hd, xs, rel, dd⟩ := xd_rd I (lkd_rd (lk := false) h1) h2.off
          obtain ⟨b, rfl⟩ := key_ref R2 e5
          obtain rfl : iv = Value.ref b := ri
          have nk := nested_of I e0 (dp_mono off_same R2) (show RelV (.ref b) (.ref b) from rfl)
          have hlen : es.length < sizeLine := by rw [Paired.len h2]; exact hl
          have hx : xs.length ≤ sizeLine := by rw [← Paired.len rel]; omega
          refine wpAny_setItem_heap (hsz := hx) (knd := nestedKind X.prog X.w) (show X.A.units + 1 + 8 < cLine by omega) ⟨nk, e4⟩ dd fun h' dd' hs => ?_
          have rel' := rel.put kn b rv
          have n2 := h2.put e0 e4 R2 R3
          have hl2 : (putE es kn b v).length ≤ sizeLine := by
            unfold putE
            split
            · rw [List.length_map]; omega
            · rw [List.length_append, List.length_cons, List.length_nil]; omega
          obtain ⟨o', ea, ep, q1, q2, q3, q4, q5, q6⟩ := dd'
          have new : ObjOk X.prog X.w (upd H a (.ext (XD X.prog X.w a (putE es kn b v)))) h' a (.ext (XD X.prog X.w a (putE es kn b v))) :=
            ⟨⟨hl2, hd, _, rel', o', ea, ep, q1, q2, q3, q4, q6⟩, ⟨o', q1⟩, fun g1 g2 ⟨y1, y2, y3, y4, y5, y6, y7, y8, y9⟩ kp => ⟨y1, y2, y3, y4, y5, y6, y7, kp _ y8, y9⟩⟩
          have I' := d_write (t' := s.toks + (nestedKind X.prog X.w).draws kn) I (by rw [h1']; exact True.intro) hs ⟨o', q1⟩ new
          exact ⟨_, I', kk φ _ (gr_write hin nh (nf_ext h1')) (S.writeO ha ⟨_, _, _, upd_same, n2⟩)⟩
      · cases hf
    · cases hf
  · cases hf
/-- len(d) -/
theorem c_lenD : CallR X (.builtin "len") (rsP ζ X.K pLenD) := c_one fun pins s σ H v us Q φ m a r m' I rx S ra hf kk => by
  split at hf
  · rename_i k0
    obtain ⟨ob, ho, hf⟩ := bind_some_iff hf
    split at hf
    · rename_i t lk kvs
      cases hf
      obtain ⟨a, rfl, ha⟩ := ra
      have O := S.obj k0 _ a ho ha
      have hn := line63
      have hsl : sizeLine = 16777216 := by decide
      obtain ⟨u, rfl, ru⟩ := vals1 rx
      obtain rfl : u = Value.ref a := ru
      match t, O with
      | false, ⟨ks, h1, h2⟩ =>
        obtain ⟨z, hd, vs, rel, dd⟩ := dk_rd I.hok (lkd_rd h1)
        refine d_len I (lkd_rd h1) fun t s' I' => ⟨.int kvs.length, H, I', ⟨t, by rw [Paired.len h2]⟩, kk φ H _ .refl S (Dp.int _)⟩
      | true, ⟨P, w, es, h1, h2⟩ =>
        obtain ⟨z, hd, xs, rel, dd⟩ := xd_rd I (lkd_rd h1) h2.off
        have e1 : xs.length = kvs.length := by rw [← Paired.len rel, Paired.len h2]
        have e2 : es.length = xs.length := Paired.len rel
        refine call_len_dictH hd dd (by omega) ?_
        rw [e1]
        exact ⟨.int kvs.length, H, I.tok _, ⟨_, rfl⟩, kk φ H _ .refl S (Dp.int _)⟩
    · cases hf
  · cases hf
/-- {} -/
def eDNew (t : Bool) : EF := fun _ m => some (.ref m.length, m ++ [.dct t false []])
theorem x_dnew {pos : Pos} : PE X (.Dict [] [] pos) (tE ζ X.K (eDNew false)) := pe_imp pe_dnewK fun σ H Q q => by
  obtain ⟨φ, env, m, r, m', S, E, hf, kk⟩ := q
  cases hf
  intro p hp
  refine kk (φ.add p) _ _ (gr_enter hp) (S.enterO hp ⟨[], upd_same, .nil⟩) ⟨p, rfl, ?_⟩
  show (φ.s ++ [p])[m.length]? = some p
  rw [← S.len, List.getElem?_append_right (Nat.le_refl _), Nat.sub_self]
  rfl
theorem xd_empty (h : Heap) (hb : sysModules < h.objs.size) {P : Program} {w : World} {H : Hp} : ObjOk P w H (h.push { cls := .type "dict", data := .dict #[] }) h.objs.size (.ext (XD P w h.objs.size [])) := by
  obtain ⟨o, ea, ep, q1, q2, q3, q4, q5, q6⟩ := Heap.DictOfH.new (knd := nestedKind P w) h
  exact ⟨⟨Nat.zero_le _, beq_eq_false_iff_ne.mpr (Nat.ne_of_gt hb), [], .nil, o, ea, ep, q1, q2, q3, q4, q6⟩, ⟨o, q1⟩, fun g1 g2 ⟨y1, y2, y3, y4, y5, y6, y7, y8, y9⟩ kp => ⟨y1, y2, y3, y4, y5, y6, y7, kp _ y8, y9⟩⟩
def tDNewX (X : Cx) : TE := fun _ H Q => ∀ p, H p = none → Q (.ref p) (upd H p (.ext (XD X.prog X.w p [])))
theorem pe_dnewX {pos : Pos} : PE X (.Dict [] [] pos) (tDNewX X) := ⟨fun pins s σ H Q I h =>
  wpAny_Dict_empty ⟨.ref s.heap.objs.size, _, I.laid (a := s.heap.objs.size) (o := .ext (XD X.prog X.w s.heap.objs.size [])) (t' := s.toks) (fun _ _ q => Heap.get?_push_of_some _ q) (Nat.le_refl _) (xd_empty s.heap I.big), rfl, h _ (I.hok.fresh (Nat.le_refl _))⟩⟩
theorem x_dnewT {pos : Pos} : PE X (.Dict [] [] pos) (tE ζ X.K (eDNew true)) := pe_imp pe_dnewX fun σ H Q q => by
  obtain ⟨φ, env, m, r, m', S, E, hf, kk⟩ := q
  cases hf
  intro p hp
  refine kk (φ.add p) _ _ (gr_enter hp) (S.enterO hp ⟨X.prog, X.w, [], upd_same, .nil⟩) ⟨p, rfl, ?_⟩
  show (φ.s ++ [p])[m.length]? = some p
  rw [← S.len, List.getElem?_append_right (Nat.le_refl _), Nat.sub_self]
  rfl
end
end Ev

set_option Elab.async false
set_option linter.all false
set_option maxRecDepth 100000
/-! {k: v}, one pair. -/
namespace Ev
open PySem PySem.Spec PyProof.Rows L2

def eDisp1 (t : Bool) (f g : EF) : EF := fun env m => (f env (m ++ [.dct t false []])).bind fun x => (g env x.2).bind fun y => match x.1, y.1 with
  | .val d, .val v => if keyOk t d = true then match y.2[m.length]? with
    | some (.dct t' false []) => if t' = t then some (.ref m.length, y.2.set m.length (.dct t false [(d, v)])) else none
    | _ => none else none
  | _, _ => none
section
variable {X : Cx} {k : Nat} {a b : Expr} {f g : EF} {pos : Pos}
theorem disp1_some {t : Bool} {env : Sl} {m m' : M} {r : R} (h : eDisp1 t f g env m = some (r, m')) : ∃ d v m1 m2, f env (m ++ [.dct t false []]) = some (.val d, m1) ∧ g env m1 = some (.val v, m2) ∧ keyOk t d = true ∧ m2[m.length]? = some (.dct t false []) ∧ r = .ref m.length ∧ m' = m2.set m.length (.dct t false [(d, v)]) := by
  obtain ⟨⟨r1, m1⟩, h1, h⟩ := bind_some_iff h
  obtain ⟨⟨r2, m2⟩, h2, h⟩ := bind_some_iff h
  cases r1 with
  | tp j => first | (cases hf; done) | (cases e; done) | (cases h1; done) | (cases h; done) | (cases h7; done) | (cases h2; done)
  | ref j => cases r2 <;> cases h
  | val d =>
    cases r2 with
    | tp j => first | (cases hf; done) | (cases e; done) | (cases h1; done) | (cases h; done) | (cases h7; done) | (cases h2; done)
    | ref j => cases h
    | val v =>
      have h' : (if keyOk t d = true then match m2[m.length]? with
        | some (.dct t' false []) => if t' = t then some (R.ref m.length, m2.set m.length (.dct t false [(d, v)])) else none
        | _ => none else none) = some (r, m') := h
      split at h'
      · rename_i hk
        split at h'
        · rename_i t' hm
          split at h'
          · rename_i ht
            subst ht
            cases h'
            exact ⟨d, v, m1, m2, h1, h2, hk, hm, rfl, rfl⟩
          · cases h'
        · cases h'
      · cases h'
theorem x_disp1 (ha : PE X a (tE ζ X.K f)) (hb : PE X b (tE ζ X.K g)) : PE X (.Dict [some a] [b] pos) (tE ζ X.K (eDisp1 false f g)) := pe_imp (pe_disp (pps_cons ha hb pps_nil) rfl rfl (fun z => nomatch z) (by show 1 ≤ 15; decide)) fun σ H Q q => by
  obtain ⟨φ, env, m, r, m', S, E, hf, kk⟩ := q
  obtain ⟨d, v, m1, m2, h1, h2, hk, hm, rfl, rfl⟩ := disp1_some hf
  intro p hp
  have S1 : SR ζ X.K (φ.add p) (upd H p (.dK [])) (m ++ [.dct false false []]) := S.enterO hp ⟨[], upd_same, .nil⟩
  have g1 : Gr φ H (φ.add p) (upd H p (.dK [])) := gr_enter hp
  have hp1 : (φ.add p).s[m.length]? = some p := by
    show (φ.s ++ [p])[m.length]? = some p
    rw [← S.len, List.getElem?_append_right (Nat.le_refl _), Nat.sub_self]
    rfl
  refine ⟨φ.add p, env, m ++ [.dct false false []], .val d, m1, S1, E.mono g1, h1, fun φ1 H1 v1 g2 S2 R1 => ?_⟩
  refine ⟨φ1, env, m1, .val v, m2, S2, E.mono (g1.trans g2), h2, fun φ2 H2 v2 g3 S3 R2 => ?_⟩
  have hp2 : φ2.s[m.length]? = some p := prefix_get (g2.trans g3).pre hp1
  obtain ⟨ks, o1, o2⟩ := S3.obj m.length _ p hm hp2
  cases o2
  have o1' : H2 p = some (.dK []) := o1
  obtain ⟨kk0, e0⟩ := Option.isSome_iff_exists.mp (show (keyK d).isSome = true from hk)
  have R1' : Dp X.K (off φ2 H2) v1 d := dp_mono g3.same R1
  obtain rfl := keyK_V e0 R1'
  have hin : p ∈ φ2.s := List.mem_of_getElem? hp2
  refine ⟨o1', [(kk0, v2)], rfl, by show 1 ≤ 15; decide, kk φ2 _ _ (g1.trans (g2.trans (g3.trans (gr_write hin (S3.apart hin) (nf_dK o1'))))) (S3.writeO hp2 ⟨_, upd_same, ?_⟩) ⟨p, rfl, hp2⟩⟩
  exact .cons ⟨e0, R2⟩ .nil
theorem x_disp1T (hr : Room k X.A) (ha : PE X a (tE ζ X.K f)) (hb : PE X b (tE ζ X.K g)) : PE X (.Dict [some a] [b] pos) (tE ζ X.K (eDisp1 true f g)) := ⟨fun pins s σ H Q I q => by
  obtain ⟨φ, env, m, r, m', S, E, hf, kk⟩ := q
  obtain ⟨d, v, m1, m2, h1, h2, hk, hm, rfl, rfl⟩ := disp1_some hf
  have hp : H s.heap.objs.size = none := I.hok.fresh (Nat.le_refl _)
  have I0 : Inv X pins σ (upd H s.heap.objs.size (.ext (XD X.prog X.w s.heap.objs.size []))) { s with heap := s.heap.push { cls := .type "dict", data := .dict #[] }, toks := s.toks } :=
    I.laid (fun _ _ q => Heap.get?_push_of_some _ q) (Nat.le_refl _) (xd_empty s.heap I.big)
  generalize hq : s.heap.objs.size = p at *
  have S1 : SR ζ X.K (φ.add p) (upd H p (.ext (XD X.prog X.w p []))) (m ++ [.dct true false []]) := S.enterO hp ⟨_, _, [], upd_same, .nil⟩
  have g1 : Gr φ H (φ.add p) (upd H p (.ext (XD X.prog X.w p []))) := gr_enter hp
  have hp1 : (φ.add p).s[m.length]? = some p := by
    show (φ.s ++ [p])[m.length]? = some p
    rw [← S.len, List.getElem?_append_right (Nat.le_refl _), Nat.sub_self]
    rfl
  refine wpAny_Dict_any rfl rfl (fun z => nomatch z) (by show 1 ≤ 15; decide) ?_
  refine thn ((pps_cons ha hb pps_nil).run pins _ σ _ (fun ps H' => ∃ v1 v2 φ2, ps = [(v1, v2)] ∧ Gr (φ.add p) (upd H p (.ext (XD X.prog X.w p []))) φ2 H' ∧ SR ζ X.K φ2 H' m2 ∧ Dp X.K (off φ2 H') v1 d ∧ Dp X.K (off φ2 H') v2 v) I0 ?_) fun ws s2 ⟨ps, H2, I2, rel, v1, v2, φ2, e1, g2, S2, R1, R2⟩ => ?_
  · refine ⟨φ.add p, env, m ++ [.dct true false []], .val d, m1, S1, E.mono g1, h1, fun φ1 H1 v1 g2 S2 R1 => ?_⟩
    refine ⟨φ1, env, m1, .val v, m2, S2, E.mono (g1.trans g2), h2, fun φ2 H2 v2 g3 S3 R2 => ?_⟩
    exact ⟨v1, v2, φ2, rfl, g2.trans g3, S3, dp_mono g3.same R1, R2⟩
  · subst e1
    have hp2 : φ2.s[m.length]? = some p := prefix_get g2.pre hp1
    obtain ⟨P, w, es, o1, o2⟩ := S2.obj m.length _ p hm hp2
    cases o2
    have o1' : H2 p = some (.ext (XD P w p [])) := o1
    obtain ⟨z, hd, xs, rl, dd⟩ := xd_rd I2 (.inl o1') .nil
    cases rl
    obtain ⟨kn, e0, e4, e5⟩ := keyOk_N hk
    obtain ⟨b, rfl⟩ := key_ref R1 e5
    cases rel with
    | @cons x y xs ys hxy t =>
      cases t
      obtain ⟨y1, y2⟩ := y
      obtain ⟨ry1, ry2⟩ := hxy
      obtain rfl : y1 = Value.ref b := ry1
      have nk := nested_of I2 e0 (dp_mono off_same R1) (show RelV (.ref b) (.ref b) from rfl)
      have hun := hr.un
      have hin : p ∈ φ2.s := List.mem_of_getElem? hp2
      rw [hq]
      refine wpAny_storeAllH (knd := nestedKind X.prog X.w) (show X.A.units + 8 < cLine by omega) [(.ref b, y2)] [(kn, b, y2)] [] _ _ ⟨rfl, rfl, ⟨nk, e4⟩, trivial⟩ dd (by rw [sizeLine_eq]; show 0 + 1 ≤ 16777216; decide) fun h' tk dd' hs => ?_
      obtain ⟨o', ea, ep, q1, q2, q3, q4, q5, q6⟩ := dd'
      have new : ObjOk X.prog X.w (upd H2 p (.ext (XD X.prog X.w p [(kn, b, v2)]))) h' p (.ext (XD X.prog X.w p [(kn, b, v2)])) :=
        ⟨⟨by rw [sizeLine_eq]; show 1 ≤ 16777216; decide, hd, _, .cons ⟨rfl, rfl, ry2⟩ .nil, o', ea, ep, q1, q2, q3, q4, q6⟩, ⟨o', q1⟩, fun g1 g2 ⟨y1, y2, y3, y4, y5, y6, y7, y8, y9⟩ kp => ⟨y1, y2, y3, y4, y5, y6, y7, kp _ y8, y9⟩⟩
      have I3 := d_write (t' := tk) I2 (by rw [o1']; exact True.intro) hs ⟨o', q1⟩ new
      exact ⟨.ref p, _, I3, rfl, kk φ2 _ _ (g1.trans (g2.trans (gr_write hin (S2.apart hin) (nf_ext o1')))) (S2.writeO hp2 ⟨_, _, _, upd_same, .cons ⟨⟨e0, e4⟩, R1, R2⟩ .nil⟩) ⟨p, rfl, hp2⟩⟩⟩
end
end Ev

set_option Elab.async false
set_option linter.all false
set_option maxRecDepth 100000
/-! dicts walked: the lock, the keys in their order. -/
namespace Ev
open PySem PySem.Spec PyProof.Rows L2

/-- the keys of a dict, one after the other -/
def itDict (f : EF) : IF := fun env m => (f env m).bind fun x => match x.1 with
  | .ref k => match x.2[k]? with
    | some (.dct _ true kvs) => iL (kvs.map Prod.fst) x.2
    | _ => none
  | _ => none
def unlockM (k : Nat) (m : M) : Option M := match m[k]? with
  | some (.dct t true kvs) => some (m.set k (.dct t false kvs))
  | _ => none
def unlockF (k : Nat) : Fl → Option Fl
  | .nx e m => (unlockM k m).map (.nx e)
  | .rt r m => (unlockM k m).map (.rt r)
  | .bk e m => (unlockM k m).map (.bk e)
  | .ct e m => (unlockM k m).map (.ct e)
/-- a statement that walks the dict in the slot i -/
def sLockF (i : Nat) (f : SF) : SF := fun env m => match env[i]? with
  | some (some (.ref k)) => match m[k]? with
    | some (.dct t false kvs) => (f env (m.set k (.dct t true kvs))).bind (unlockF k)
    | _ => none
  | _ => none
def eLockF (i : Nat) (f : EF) : EF := fun env m => match env[i]? with
  | some (some (.ref k)) => match m[k]? with
    | some (.dct t false kvs) => (f env (m.set k (.dct t true kvs))).bind fun x => (unlockM k x.2).map fun m' => (x.1, m')
    | _ => none
  | _ => none
section
variable {K : PySem.W.Frag} {φ φ' : Ad} {H H' : Hp} {m m' : M} {σ : L2.St} {env : Sl}
theorem ER.monoS (hp : φ.s <+: φ'.s) (hs : Same (off φ H) (off φ' H')) (e : ER K φ H σ env) : ER K φ' H' σ env := ⟨e.len, fun i r h => by
  obtain ⟨v, h1, h2⟩ := e.at_ i r h
  exact ⟨v, h1, h2.monoS hp hs⟩⟩
/-- what stands at an unlocked dict -/
theorem OR.unl {Ho : Hp} {a : Addr} {t : Bool} {kvs : List (D × D)} (h : OR K Ho H a (.dct t false kvs)) : ∃ u, H a = some u ∧ Mut (some u) ∧ (∀ ob v, u ≠ .frz ob v) ∧
    (∀ od Ho' H', Same Ho Ho' → H' a = some (.frz od u) → OR K Ho' H' a (.dct t true kvs)) := by
  match t, h with
  | false, ⟨ks, h1, h2⟩ => exact ⟨_, h1, True.intro, fun _ _ z => (nomatch z), fun od Ho' H' e q => ⟨ks, ⟨od, q⟩, Paired.mapP h2 fun p q z => ⟨z.1, dp_mono e z.2⟩⟩⟩
  | true, ⟨P, w, es, h1, h2⟩ => exact ⟨_, h1, True.intro, fun _ _ z => (nomatch z), fun od Ho' H' e q => ⟨P, w, es, ⟨od, q⟩, Paired.mapP h2 fun p q z => ⟨z.1, dp_mono e z.2.1, dp_mono e z.2.2⟩⟩⟩
theorem OR.lck {Ho : Hp} {a : Addr} {t : Bool} {kvs : List (D × D)} {o : Obj} {u : HO} (h : OR K Ho H a (.dct t true kvs)) (e : H a = some (.frz o u)) {H' : Hp} (e' : H' a = some u) : OR K Ho H' a (.dct t false kvs) := by
  match t, h with
  | false, ⟨ks, ⟨o', h1⟩, h2⟩ =>
    rw [e] at h1
    cases h1
    exact ⟨ks, e', h2⟩
  | true, ⟨P, w, es, ⟨o', h1⟩, h2⟩ =>
    rw [e] at h1
    cases h1
    exact ⟨P, w, es, e', h2⟩
theorem OR.lckpl {Ho : Hp} {a : Addr} {t : Bool} {kvs : List (D × D)} {o : Obj} {u : HO} (h : OR K Ho H a (.dct t true kvs)) (e : H a = some (.frz o u)) : plO u := by
  match t, h with
  | false, ⟨ks, ⟨o', h1⟩, h2⟩ =>
    rw [e] at h1
    cases h1
    exact trivial
  | true, ⟨P, w, es, ⟨o', h1⟩, h2⟩ =>
    rw [e] at h1
    cases h1
    exact trivial
theorem mut_pl {u : HO} {od : Obj} (h : Mut (some u)) : plO (.frz od u) := by
  cases u with
  | tup xs => exact (show False from h).elim
  | _ => exact trivial
/-- behind the walk -/
theorem unlock_gr {a : Addr} {u : HO} {od : Obj} (S : SR ζ K φ H m) (ha : a ∈ φ.s) (hu : H a = some u) (nf : ∀ ob v, u ≠ .frz ob v) (g : Gr φ (upd H a (.frz od u)) φ' H') : Gr φ H φ' (upd H' a u) := by
  have ha' : a ∈ φ'.s := g.pre.subset ha
  refine ⟨g.pre, g.eqh, g.eqt, fun b o e => off_write ha' b o (g.same b o (off_write ha b o e)), fun b hb v e n => ?_, fun b o v e => ?_⟩
  · have nb : b ≠ a := fun z => S.apart ha (z ▸ hb)
    rw [upd_ne nb]
    exact g.stay b hb v (by rw [upd_ne nb]; exact e) n
  · have nb : b ≠ a := fun z => by
      rw [z, hu] at e
      cases e
      exact nf _ _ rfl
    rw [upd_ne nb]
    exact g.frz b o v (by rw [upd_ne nb]; exact e)
theorem unlock_sr {a : Addr} {u : HO} {od : Obj} {k : Nat} (S : SR ζ K φ' H' m) (ha : φ'.s[k]? = some a) (e : H' a = some (.frz od u)) (h : unlockM k m = some m') : SR ζ K φ' (upd H' a u) m' := by
  unfold unlockM at h
  split at h
  · rename_i t kvs hm
    cases h
    exact S.writeO ha ((S.obj k _ a hm ha).lck e upd_same) ((S.obj k _ a hm ha).lckpl e)
  · cases h
end
section
variable {X : Cx} {i : Nat} {st : Stmt} {e tg : Expr} {f : SF} {fe : EF}
theorem s_lock (h : PS X st (tS ζ X.K f)) : PS X st (tS ζ X.K (sLockF i f)) := ps_imp (ps_lock h) fun W σ H q => by
  obtain ⟨φ, env, m, fl, S, E, hf, k⟩ := q
  unfold sLockF at hf
  split at hf
  · rename_i j hj
    split at hf
    · rename_i t kvs hm
      obtain ⟨fl2, h1, hf⟩ := bind_some_iff hf
      obtain ⟨v, hv, a, rfl, ha⟩ := E.at_ i _ hj
      obtain ⟨u, hu, mu, nf, lk⟩ := (S.obj j _ a hm ha).unl
      have hin : a ∈ φ.s := List.mem_of_getElem? ha
      refine ⟨a, u, hu, mu, fun od => ?_⟩
      have S1 : SR ζ X.K φ (upd H a (.frz od u)) (m.set j (.dct t true kvs)) := S.writeO ha (lk od _ _ (fun _ _ z => z) upd_same) (mut_pl mu)
      have E1 : ER X.K φ (upd H a (.frz od u)) σ env := E.monoS (List.prefix_refl _) (off_write hin)
      refine ⟨φ, env, _, fl2, S1, E1, h1, ?_⟩
      have fin : ∀ {φ1 : Ad} {H1 : Hp} {m1 m2 : M}, Gr φ (upd H a (.frz od u)) φ1 H1 → SR ζ X.K φ1 H1 m1 → unlockM j m1 = some m2 → H1 a = some (.frz od u) ∧ Gr φ H φ1 (upd H1 a u) ∧ SR ζ X.K φ1 (upd H1 a u) m2 ∧ Same (off φ1 H1) (off φ1 (upd H1 a u)) := fun {φ1 H1 m1 m2} g1 S1 q => by
        have e1 := g1.frz a od u upd_same
        exact ⟨e1, unlock_gr S hin hu nf g1, unlock_sr S1 (prefix_get g1.pre ha) e1 q, off_write (g1.pre.subset hin)⟩
      cases fl2 with
      | nx e m1 =>
        obtain ⟨m2, q, rfl⟩ := Option.map_eq_some_iff.mp hf
        exact fun φ1 σ1 H1 g1 S1 E1 => (fin g1 S1 q).elim fun a1 ⟨a2, a3, a4⟩ => ⟨a1, k φ1 σ1 _ a2 a3 (E1.monoS (List.prefix_refl _) a4)⟩
      | bk e m1 =>
        obtain ⟨m2, q, rfl⟩ := Option.map_eq_some_iff.mp hf
        exact fun φ1 σ1 H1 g1 S1 E1 => (fin g1 S1 q).elim fun a1 ⟨a2, a3, a4⟩ => ⟨a1, k φ1 σ1 _ a2 a3 (E1.monoS (List.prefix_refl _) a4)⟩
      | ct e m1 =>
        obtain ⟨m2, q, rfl⟩ := Option.map_eq_some_iff.mp hf
        exact fun φ1 σ1 H1 g1 S1 E1 => (fin g1 S1 q).elim fun a1 ⟨a2, a3, a4⟩ => ⟨a1, k φ1 σ1 _ a2 a3 (E1.monoS (List.prefix_refl _) a4)⟩
      | rt r m1 =>
        obtain ⟨m2, q, rfl⟩ := Option.map_eq_some_iff.mp hf
        exact fun φ1 H1 v g1 S1 R1 => (fin g1 S1 q).elim fun a1 ⟨a2, a3, a4⟩ => ⟨a1, k φ1 _ v a2 a3 (R1.monoS (List.prefix_refl _) a4)⟩
    · cases hf
  · cases hf
theorem x_lock (h : PE X e (tE ζ X.K fe)) : PE X e (tE ζ X.K (eLockF i fe)) := pe_imp (pe_lock h) fun σ H Q q => by
  obtain ⟨φ, env, m, r, m', S, E, hf, k⟩ := q
  unfold eLockF at hf
  split at hf
  · rename_i j hj
    split at hf
    · rename_i t kvs hm
      obtain ⟨⟨r1, m1⟩, h1, hf⟩ := bind_some_iff hf
      obtain ⟨m2, hq, hf⟩ := Option.map_eq_some_iff.mp hf
      cases hf
      obtain ⟨v, hv, a, rfl, ha⟩ := E.at_ i _ hj
      obtain ⟨u, hu, mu, nf, lk⟩ := (S.obj j _ a hm ha).unl
      have hin : a ∈ φ.s := List.mem_of_getElem? ha
      refine ⟨a, u, hu, mu, fun od => ?_⟩
      have S1 : SR ζ X.K φ (upd H a (.frz od u)) (m.set j (.dct t true kvs)) := S.writeO ha (lk od _ _ (fun _ _ z => z) upd_same) (mut_pl mu)
      have E1 : ER X.K φ (upd H a (.frz od u)) σ env := E.monoS (List.prefix_refl _) (off_write hin)
      refine ⟨φ, env, _, r1, m1, S1, E1, h1, fun φ1 H1 v g1 S1 R1 => ?_⟩
      have e1 := g1.frz a od u upd_same
      exact ⟨e1, k φ1 _ v (unlock_gr S hin hu nf g1) (unlock_sr S1 (prefix_get g1.pre ha) e1 hq) (R1.monoS (List.prefix_refl _) (off_write (g1.pre.subset hin)))⟩
    · cases hf
  · cases hf
end

/-! ### the keys of a locked dict -/
def Itx (d : Addr) (o : Obj) (P : Program) (w : World) (es : List (NestedKey × Addr × V)) : It :=
  ⟨fun i H => H d = some (.frz o (.ext (XD P w d es))) ∧ i < es.length, fun i H x H' => H' = H ∧ ∃ p, es[i]? = some p ∧ x = .ref p.2.1, fun i H => H d = some (.frz o (.ext (XD P w d es))) ∧ es.length ≤ i⟩
theorem paired_at {α β : Type} {F : α → β → Prop} : ∀ {l₁ : List α} {l₂ : List β} {i : Nat} {a : α}, Paired F l₁ l₂ → l₁[i]? = some a → ∃ b, l₂[i]? = some b ∧ F a b
  | _, _, _, _, .nil, e => by simp at e
  | _, _, 0, _, .cons (b := b) h t, e => by
    simp at e
    subst e
    exact ⟨b, rfl, h⟩
  | _, _, i + 1, _, .cons _ t, e => by
    obtain ⟨v, h1, h2⟩ := paired_at (i := i) t (by simpa using e)
    exact ⟨v, by simpa using h1, h2⟩
theorem frzX {X : Cx} {pins : List (Addr × Obj)} {σ : L2.St} {H : Hp} {s : Shared} {d : Addr} {o : Obj} {P : Program} {w : World} {es : List (NestedKey × Addr × V)} (I : Inv X pins σ H s) (h : H d = some (.frz o (.ext (XD P w d es)))) :
    (d == sysModules) = false ∧ s.heap.get? d = some o ∧ o.ExactDict ∧ ∃ (ea : Array DictEntry) (ep : Nat), o.data = .dict ea ep ∧ ea.size = es.length ∧ ∀ (i : Nat) (p : NestedKey × Addr × V), es[i]? = some p → ∃ en : DictEntry, ea[i]? = some en ∧ en.key = .ref p.2.1 ∧ RelV p.2.2 en.val := by
  obtain ⟨hd, ⟨z, hs, xs, rel, o', ea, ep, h1, h2, h3, h4, h5⟩, _⟩ := I.hok d _ h
  rw [hd] at h1
  cases h1
  refine ⟨hs, hd, h2, ea, ep, h3, ?_, fun i p e => ?_⟩
  · rw [size_of_entries h4, ← Paired.len rel]
  · obtain ⟨q, q1, q2, q3, q4⟩ := paired_at rel e
    refine ⟨_, by rw [entry_at h4, q1]; rfl, ?_, q4⟩
    show Value.ref q.2.1 = _
    rw [q3]
theorem turn_x {P : Program} {w : World} {K : PySem.W.Frag} {tg : Expr} {d : Addr} {o : Obj} {ea : Array DictEntry} {ep : Nat} {P0 : Program} {w0 : World} {es : List (NestedKey × Addr × V)} (it : Addr) (hod : o.data = .dict ea ep) :
    Turn P w K tg (Itx d o P0 w0 es) [it] it (fun i h => h.IsKeyIter it d i es.length ep) where
  mem := by simp
  obj := fun i h st b hb => by
    have e : b = it := by simpa using hb
    subst e
    obtain ⟨oi, e, c, dd⟩ := st
    exact ⟨oi, e, fun v z => by rw [dd] at z; cases z⟩
  keep := fun i h h' st k => st.at fun oi e => k it (by simp) oi e
  item := by
    intro X hP hw hK hc i pins s σ H E I hf st hg
    subst hP hw hK
    obtain ⟨hd, hi⟩ := hg
    obtain ⟨f0, f1, f2, f3, f4, f5⟩ := hf it (by simp)
    obtain ⟨hs, hgd, hx, es', ep', hdt, hsz, ent⟩ := frzX I hd
    obtain ⟨rfl, rfl⟩ := dict_ep hod hdt
    obtain ⟨p, hkv⟩ : ∃ p, es[i]? = some p := ⟨es[i], List.getElem?_eq_getElem hi⟩
    obtain ⟨en, hen, hkey, hq⟩ := ent i p hkv
    refine next_key_item st hgd hdt hsz hen fun h' st' sb => ?_
    have I1 : Inv X pins σ H { s with heap := h' } := I.turned (t' := s.toks) (fun b ob hb e => (sb.2 b hb).trans e) f0 f1 f3 f4 f5
    obtain ⟨oi, e, c, dd⟩ := id st'
    exact ⟨en.key, rfl, go_of (s := { s with heap := h' }) e c dd (by decide) ⟨.ref p.2.1, H, I1, hkey, ⟨rfl, p, hkv, rfl⟩, st', fun b hb => (hf b hb).1⟩⟩
  done := by
    intro X hP hw hK hc i pins s σ H E I hf st hg
    subst hP hw hK
    obtain ⟨hd, hi⟩ := hg
    obtain ⟨f0, f1, f2, f3, f4, f5⟩ := hf it (by simp)
    obtain ⟨hs, hgd, hx, es', ep', hdt, hsz, ent⟩ := frzX I hd
    obtain ⟨rfl, rfl⟩ := dict_ep hod hdt
    exact next_key_end (I.ok.hd hc) st hgd hdt hsz hi fun h' eb => ⟨rfl, I.turned (t' := s.toks) (fun b ob hb e => eb b ob hb e) f0 f1 f3 f4 f5⟩
  self := fun A i s Q E st h => wpAny_pyIter_keyiter st h
theorem jok_k {K : PySem.W.Frag} {φ : Ad} {H : Hp} {d : Addr} {o : Obj} {ks : List (Key × V)} {kvs : List (D × D)} (h : H d = some (.frz o (.dK ks))) (n : KOk K (off φ H) ks kvs) : JOk ζ K (Itk d o ks) φ H (srcL (kvs.map Prod.fst)) where
  stop := fun φ' H' m i g S e => ⟨g.frz _ _ _ h, by
    have e' := List.getElem?_eq_none_iff.mp (Option.some.inj e)
    rw [List.length_map, ← Paired.len n] at e'
    exact e'⟩
  go := fun φ' H' m i d g S e => ⟨g.frz _ _ _ h, by
    have e' := (List.getElem?_eq_some_iff.mp (Option.some.inj e)).1
    rw [List.length_map, ← Paired.len n] at e'
    exact e'⟩
  yld := fun φ' H' m i d x H'' g S e y => by
    have e' : (kvs.map Prod.fst)[i]? = some d := Option.some.inj e
    rw [List.getElem?_map] at e'
    obtain ⟨q, e1, e2⟩ := Option.map_eq_some_iff.mp e'
    subst e2
    obtain ⟨rfl, k, v, h1, rfl⟩ := y
    obtain ⟨q', h2, h3, h4⟩ := paired_at n h1
    rw [e1] at h2
    cases h2
    refine ⟨.refl, S, ?_⟩
    show Dp K _ (kV k) q.1
    generalize hq : q.1 = d at h3
    cases d with
    | int i => cases h3; exact .int i
    | str x => cases h3; exact .str x
    | _ => cases h3
theorem jok_x {K : PySem.W.Frag} {φ : Ad} {H : Hp} {d : Addr} {o : Obj} {P0 : Program} {w0 : World} {es : List (NestedKey × Addr × V)} {kvs : List (D × D)} (h : H d = some (.frz o (.ext (XD P0 w0 d es)))) (n : NOk K (off φ H) es kvs) : JOk ζ K (Itx d o P0 w0 es) φ H (srcL (kvs.map Prod.fst)) where
  stop := fun φ' H' m i g S e => ⟨g.frz _ _ _ h, by
    have e' := List.getElem?_eq_none_iff.mp (Option.some.inj e)
    rw [List.length_map, ← Paired.len n] at e'
    exact e'⟩
  go := fun φ' H' m i d g S e => ⟨g.frz _ _ _ h, by
    have e' := (List.getElem?_eq_some_iff.mp (Option.some.inj e)).1
    rw [List.length_map, ← Paired.len n] at e'
    exact e'⟩
  yld := fun φ' H' m i d x H'' g S e y => by
    have e' : (kvs.map Prod.fst)[i]? = some d := Option.some.inj e
    rw [List.getElem?_map] at e'
    obtain ⟨q, e1, e2⟩ := Option.map_eq_some_iff.mp e'
    subst e2
    obtain ⟨rfl, p, h1, rfl⟩ := y
    obtain ⟨q', h2, h3, h4, h5⟩ := paired_at n h1
    rw [e1] at h2
    cases h2
    exact ⟨.refl, S, dp_mono g.same h4⟩
section
variable {X : Cx} {tg e : Expr} {f : EF}
theorem i_dict (he : PE X e (tE ζ X.K f)) : PI X tg e (tI ζ X.K (itDict f)) := ⟨fun pins s σ H R I q => by
  obtain ⟨φ, env, m, src, n, m', S, E, hf, k⟩ := q
  obtain ⟨⟨r, m1⟩, h1, hf⟩ := bind_some_iff hf
  have q1 : tE ζ X.K f σ H (fun v H' => ∃ φ', Gr φ H φ' H' ∧ SR ζ X.K φ' H' m1 ∧ RR X.K φ' H' v r) := ⟨φ, env, m, r, m1, S, E, h1, fun φ1 H1 v g1 S1 R1 => ⟨φ1, g1, S1, R1⟩⟩
  refine thn (he.run pins s σ H _ I q1) fun u s1 ⟨x, H1, I1, rx, φ1, g1, S1, R1⟩ => ?_
  cases r with
  | tp j => first | (cases hf; done) | (cases e; done) | (cases h1; done) | (cases h; done) | (cases h7; done) | (cases h2; done)
  | val d => cases hf
  | ref j =>
    simp only at hf
    split at hf
    · rename_i t kvs hm
      cases hf
      obtain ⟨a, rfl, ha⟩ := R1
      obtain rfl : u = Value.ref a := rx
      match t, S1.obj j _ a hm ha with
      | false, ⟨ks, ⟨o, hd⟩, n⟩ =>
        obtain ⟨hs, hgd, hx, es, ep, vs, hdt, hsz, kv, hmm⟩ := I1.frzK hd
        refine iter_keys hs hgd hx hdt (pi_one (tk := s1.toks) I1 _ (turn_keys _ hdt) ⟨_, Heap.get?_push_size _ rfl, rfl, ?_⟩ (k φ1 H1 _ g1 S1 (jok_k hd n)))
        rw [hsz] <;> rfl
      | true, ⟨P0, w0, es, ⟨o, hd⟩, n⟩ =>
        obtain ⟨hs, hgd, hx, ea, ep, hdt, hsz, ent⟩ := frzX I1 hd
        refine iter_keys hs hgd hx hdt (pi_one (tk := s1.toks) I1 _ (turn_x _ hdt) ⟨_, Heap.get?_push_size _ rfl, rfl, ?_⟩ (k φ1 H1 _ g1 S1 (jok_x hd n)))
        rw [hsz] <;> rfl
    · cases hf⟩
end
end Ev

set_option Elab.async false
set_option linter.all false
set_option maxRecDepth 100000
/-! sorted(..) of what can be collected: dicts (their keys). -/
namespace Ev
open PySem PySem.Spec PyProof.Rows L2
section
variable {X : Cx} {k : Nat} {pins : List (Addr × Obj)} {σ : L2.St} {H : Hp} {s : Shared} {φ : Ad} {m m' : M}
abbrev Eo (K : PySem.W.Frag) (φ : Ad) (H : Hp) : List Value → List D → Prop := PySem.W.EachIs fun v d => ∃ x : V, RelV x v ∧ Dp K (off φ H) x d
theorem eo_mk {K : PySem.W.Frag} : ∀ {ds : List D} {vs : List Value}, vs.length = ds.length → (∀ (i : Nat) (v : Value) (d : D), vs[i]? = some v → ds[i]? = some d → ∃ x : V, RelV x v ∧ Dp K (off φ H) x d) → Eo K φ H vs ds
  | [], [], _, _ => .nil
  | [], _ :: _, h, _ => by cases h
  | _ :: _, [], h, _ => by cases h
  | d :: ds, v :: vs, h, q => .cons (q 0 v d rfl rfl) (eo_mk (by simpa using h) fun i v' d' e1 e2 => q (i + 1) v' d' (by simpa using e1) (by simpa using e2))
theorem sorted_gen {u : Value} {ds : List D} {Q : VK} (hr : Room k X.A) (S : SR ζ X.K φ H m) (hc : ∀ E' : Value → Shared → Prop, wpAny (model X.prog X.w) X.A.in1 (PySem.collect u) (fun vs s1 => Inv X pins σ H s1 ∧ Eo X.K φ H vs ds) E' s)
    (ok : (sortableB ds && smallAll ds && decide (ds.length ≤ sizeLine)) = true) (kk : ValK ζ X.K φ H (.val (.list (sortD ds))) m Q) : wpAny (model X.prog X.w) X.A (call (.builtin "sorted") [u]) (EP X pins σ Q) X.xe s := by
  rw [Bool.and_eq_true, Bool.and_eq_true] at ok
  obtain ⟨⟨c1, c2⟩, c3⟩ := ok
  obtain ⟨hal, hso⟩ := sortable_ok c1
  have hsm := of_decide_eq_true c2
  have hlen := of_decide_eq_true c3
  have hun := hr.un
  refine PySem.W.sorted_of_collect (args_sorted1 _) (fun _ => args_list_sort _) fun E' => wpAny_mono (hc E') (fun vs s1 hq => ?_) fun _ _ e => e
  obtain ⟨I1, e1⟩ := hq
  have hvl : vs.length = ds.length := e1.length
  refine ⟨by rw [hvl]; exact hlen, fun h2 c up hsz hat E2 => ?_⟩
  have I2 : Inv X pins σ H { s1 with heap := h2, toks := s1.toks } := I1.kept up
  have er' : PySem.W.EachIs (fun v b => ∃ as, Reads (PySem.W.sortingHeap h2 s1.heap.objs.size vs) v (id b) as) vs ds := e1.mono fun v d ⟨x, r, q⟩ => by
    obtain ⟨as, ha⟩ := Dp.reads I1 _ _ _ (dp_mono off_same q) r
    exact ⟨as, PyProof.Rows.Reads.keeps (fun b o q => PySem.W.sortingHeap_old (Nat.ne_of_lt (Heap.lt_size q)) (up b o q)) ha⟩
  refine PySem.W.list_sort_vals (κ := PySem.W.dataKind (PySem.W.sortingHeap h2 s1.heap.objs.size vs) (ds.map id)) hat (PySem.W.SortsAt.data (s := { s1 with heap := PySem.W.sortingHeap h2 s1.heap.objs.size vs }) (PySem.W.each_map (R := fun v d => ∃ as, Reads (PySem.W.sortingHeap h2 s1.heap.objs.size vs) v d as) id er') (by rw [List.map_id]; exact hal) (by rw [List.map_id]; exact hso) (PySem.W.bound_map fun b hb => ?_)) (by rw [hvl]; exact hlen) ⟨rfl, ?_⟩
  · have := depth_all hb
    show X.A.units + 1 + 1 + b.depth < cLine
    omega
  · have eo := PySem.W.sortVals_data (enc := id) false e1 er' (by rw [List.map_id]; exact hal)
    have ho := PySem.W.sortVals_length (κ := PySem.W.dataKind (PySem.W.sortingHeap h2 s1.heap.objs.size vs) (ds.map id)) false (ks := vs) (vs := vs) rfl
    generalize PySem.W.sortVals (PySem.W.dataKind (PySem.W.sortingHeap h2 s1.heap.objs.size vs) (ds.map id)) false vs vs = out at eo ho
    obtain ⟨ys, rv2, hd2⟩ := of_each eo
    obtain ⟨c2, hc2⟩ := sortedHeap_at (vs := vs) (out := out.toArray) hat
    have hp : H s1.heap.objs.size = none := I1.hok.fresh (Nat.le_refl _)
    have hyl : ys.length = out.length := rv2.length
    have I3 : Inv X pins σ (upd H s1.heap.objs.size (.lst ys)) { s1 with heap := sortedHeap h2 s1.heap.objs.size vs out.toArray, toks := s1.toks } := I1.laid (o := .lst ys) (fun b ob q => (sortedHeap_old (Nat.ne_of_lt (Heap.lt_size q)) (Heap.lt_size (up b ob q))).trans (up b ob q)) (Nat.le_refl _) ⟨by rw [hyl, ho, hvl]; exact hlen, out, c2, rv2, hc2⟩
    exact ⟨.ref _, _, I3, rfl, kk φ _ _ (gr_alloc hp) (S.alloc hp) (rr_newL S hp hd2)⟩
theorem pairs_at {prog : Program} {w : World} {K : Type} [DecidableEq K] {knd : KeyKind prog w K} {es : List DictEntry} {kvs : List (K × Value)} (h : Pairs knd es kvs) : ∀ {i : Nat} {kv : K × Value}, kvs[i]? = some kv → ∃ e, es[i]? = some e ∧ knd.is kv.1 e.key = true ∧ e.val = kv.2 := by
  induction h with
  | nil => intro i kv e; simp at e
  | @cons e kv0 es kvs h1 h2 ht ih =>
    intro i kv q
    cases i with
    | zero =>
      simp at q
      subst q
      exact ⟨e, rfl, h1, h2⟩
    | succ i =>
      obtain ⟨e', a, b, c⟩ := ih (i := i) (kv := kv) (by simpa using q)
      exact ⟨e', by simpa using a, b, c⟩
/-- a dict's entries, raw -/
theorem dict_raw {a : Addr} {t lk : Bool} {kvs : List (D × D)} (I : Inv X pins σ H s) (O : OR X.K (off φ H) H a (.dct t lk kvs)) :
    (a == sysModules) = false ∧ kvs.length ≤ sizeLine ∧ ∃ (ea : Array DictEntry) (ep : Nat), s.heap.DictRaw a ea ep ∧ ea.size = kvs.length ∧
      ∀ (i : Nat) (q : D × D), kvs[i]? = some q → ∃ en : DictEntry, ea[i]? = some en ∧ (∃ x : V, RelV x en.key ∧ Dp X.K (off φ H) x q.1) ∧ ∃ y : V, RelV y en.val ∧ Dp X.K (off φ H) y q.2 := by
  match t, O with
  | false, ⟨ks, h1, n⟩ =>
    obtain ⟨z, hd, vs, rel, dd⟩ := dk_rd I.hok (lkd_rd h1)
    obtain ⟨o, ea, ep, q1, q2, q3, q4, q5, q6⟩ := dd
    have l1 : ea.size = vs.length := by
      have := q5.length
      rw [Array.length_toList] at this
      exact this
    refine ⟨hd, by rw [← Paired.len n]; exact z, ea, ep, ⟨o, q1, q2, q3⟩, by rw [l1, ← Paired.len rel, Paired.len n], fun i q e => ?_⟩
    obtain ⟨p, e1, e2, e3⟩ := Paired.at_ n e
    obtain ⟨x, f1, f2, f3⟩ := paired_at rel e1
    obtain ⟨en, g1, g2, g3⟩ := pairs_at q5 f1
    rw [Array.getElem?_toList] at g1
    refine ⟨en, g1, ⟨kV p.1, relV_key (show keyIs p.1 en.key = true from by rw [f2]; exact g2), ?_⟩, p.2, by rw [g3]; exact f3, e3⟩
    generalize q.1 = d at e2
    generalize p.1 = kk at e2
    cases d with
    | int i => cases e2; exact .int i
    | str x => cases e2; exact .str x
    | _ => cases e2
  | true, ⟨P, w, es, h1, n⟩ =>
    obtain ⟨z, hd, xs, rel, dd⟩ := xd_rd I (lkd_rd h1) n.off
    obtain ⟨o, ea, ep, q1, q2, q3, q4, q5, q6⟩ := dd
    refine ⟨hd, by rw [← Paired.len n]; exact z, ea, ep, ⟨o, q1, q2, q3⟩, by rw [size_of_entries q4, ← Paired.len rel, Paired.len n], fun i q e => ?_⟩
    obtain ⟨p, e1, e2, e3, e4⟩ := Paired.at_ n e
    obtain ⟨x, f1, f2, f3, f4⟩ := paired_at rel e1
    refine ⟨_, by rw [entry_at q4, f1]; rfl, ⟨.ref p.2.1, ?_, e3⟩, p.2.2, f4, e4⟩
    show Value.ref x.2.1 = Value.ref p.2.1
    rw [f3]
theorem keys_eo {a : Addr} {t lk : Bool} {kvs : List (D × D)} (hc : X.calm = true) (I : Inv X pins σ H s) (O : OR X.K (off φ H) H a (.dct t lk kvs)) (E' : Value → Shared → Prop) :
    wpAny (model X.prog X.w) X.A.in1 (PySem.collect (.ref a)) (fun vs s1 => Inv X pins σ H s1 ∧ Eo X.K φ H vs (kvs.map Prod.fst)) E' s := by
  obtain ⟨hd, hz, ea, ep, raw, hs, ent⟩ := dict_raw I O
  refine PySem.W.kdu_collect (A := X.A.in1) (KdlSrc.rawDict hd) (I.ok.hd hc) raw (by rw [hs]; exact hz) fun h' tk acc hk hacc => ⟨I.kept hk, ?_⟩
  refine eo_mk (by rw [Array.length_toList, hacc.1, hs, List.length_map]) fun i v d e1 e2 => ?_
  rw [List.getElem?_map] at e2
  obtain ⟨q, e6, e7⟩ := Option.map_eq_some_iff.mp e2
  subst e7
  obtain ⟨en, e3, e4, _⟩ := ent i q e6
  obtain ⟨hi, ev⟩ := hacc.2 i v (by rw [← Array.getElem?_toList]; exact e1)
  have e5 : ea[i]? = some ea[i] := Array.getElem?_eq_getElem hi
  rw [e5] at e3
  cases e3
  subst ev
  exact e4
/-- sorted(d) -/
def pSortedD : PF := p1 fun r m => match r with
  | .ref k => (m[k]?).bind fun ob => match ob with
    | .dct _ _ kvs => if (sortableB (kvs.map Prod.fst) && smallAll (kvs.map Prod.fst) && decide ((kvs.map Prod.fst).length ≤ sizeLine)) = true then some (.val (.list (sortD (kvs.map Prod.fst))), m) else none
    | _ => none
  | _ => none
theorem c_sortedD (hr : Room k X.A) (hc : X.calm = true) : CallR X (.builtin "sorted") (rsP ζ X.K pSortedD) := c_one fun pins s σ H v us Q φ m a r m' I rx S ra hf kk => by
  split at hf
  · rename_i k0
    obtain ⟨ob, ho, hf⟩ := bind_some_iff hf
    split at hf
    · rename_i t lk kvs
      split at hf
      · rename_i ok
        cases hf
        obtain ⟨a, rfl, ha⟩ := ra
        obtain ⟨u, rfl, ru⟩ := vals1 rx
        obtain rfl : u = Value.ref a := ru
        exact sorted_gen hr S (keys_eo hc I (S.obj k0 _ a ho ha)) ok kk
      · cases hf
    · cases hf
  · cases hf
end
end Ev

set_option Elab.async false
set_option linter.all false
set_option maxRecDepth 100000
/-! an expression's own objects dropped; d[k] op= v. -/
namespace Ev
open PySem PySem.Spec PyProof.Rows L2
/-- the objects that an expression made are dropped -/
def eCut (f : EF) : EF := fun env m => (f env m).bind fun x => match x.1 with
  | .val d => some (.val d, x.2.take m.length)
  | _ => none
def sAugGF (pg q : R → R → M → Option (R × M)) (p : R → R → R → M → Option M) (f g h : EF) : SF := fun env m => (f env m).bind fun x => (g env x.2).bind fun y => (pg x.1 y.1 y.2).bind fun z => (h env z.2).bind fun w => (q z.1 w.1 w.2).bind fun u => (p x.1 y.1 u.1 u.2).bind fun m' => some (.nx env m')
section
variable {X : Cx} {e o i : Expr} {f g h : EF} {pos tpos : Pos}
theorem x_cut (he : PE X e (tE ζ X.K f)) : PE X e (tE ζ X.K (eCut f)) := pe_imp he fun σ H Q q => by
  obtain ⟨φ, env, m, r, m', S, E, hf, k⟩ := q
  obtain ⟨⟨r1, m1⟩, h1, hf⟩ := bind_some_iff hf
  cases r1 with
  | tp j => first | (cases hf; done) | (cases e; done) | (cases h1; done) | (cases h; done) | (cases h7; done) | (cases h2; done)
  | ref j => cases hf
  | val d =>
    cases hf
    exact ⟨φ, env, m, _, m1, S, E, h1, fun φ1 H1 v g1 S1 R1 => k φ H1 v g1.cut (S.cut S1 g1) (dp_mono (gr_cut g1) R1)⟩
theorem s_augG {op : Operator} {pg q : R → R → M → Option (R × M)} {p : R → R → R → M → Option M} (hg : PGet X (r2P ζ X.K pg)) (ho : PE X o (tE ζ X.K f)) (hi : PE X i (tE ζ X.K g)) (he : PE X e (tE ζ X.K h)) (hp : OpR X (inplaceOp op) (r2P ζ X.K q)) (hs : PSet X (rSetP ζ X.K p))
    (ha : ∀ ov iv new, augStore i ov iv new = (do holding [new, ov, iv] (setItem ov iv new); release [new, ov, iv] []; pure .next) := by intros; rfl) : PS X (.AugAssign (.Subscript o i tpos) op e pos) (tS ζ X.K (sAugGF pg q p f g h)) :=
  ps_imp (ps_augS (tip := r2P ζ X.K q) ho hi hg he hp hs ha) fun W σ H z => by
  obtain ⟨φ, env, m, fl, S, E, hf, k⟩ := z
  obtain ⟨⟨r1, m1⟩, h1, hf⟩ := bind_some_iff hf
  obtain ⟨⟨r2, m2⟩, h2, hf⟩ := bind_some_iff hf
  obtain ⟨⟨r3, m3⟩, h3, hf⟩ := bind_some_iff hf
  obtain ⟨⟨r4, m4⟩, h4, hf⟩ := bind_some_iff hf
  obtain ⟨⟨r5, m5⟩, h5, hf⟩ := bind_some_iff hf
  obtain ⟨m6, h6, hf⟩ := bind_some_iff hf
  cases hf
  refine ⟨φ, env, m, r1, m1, S, E, h1, fun φ1 H1 v1 g1 S1 R1 => ?_⟩
  refine ⟨φ1, env, m1, r2, m2, S1, E.mono g1, h2, fun φ2 H2 v2 g2 S2 R2 => ?_⟩
  refine ⟨φ2, m2, r1, r2, r3, m3, S2, R1.mono g2, R2, h3, fun φ3 H3 v3 g3 S3 R3 => ?_⟩
  refine ⟨φ3, env, m3, r4, m4, S3, E.mono (g1.trans (g2.trans g3)), h4, fun φ4 H4 v4 g4 S4 R4 => ?_⟩
  refine ⟨φ4, m4, r3, r4, r5, m5, S4, R3.mono g4, R4, h5, fun φ5 H5 v5 g5 S5 R5 => ?_⟩
  have gg := g1.trans (g2.trans (g3.trans (g4.trans g5)))
  exact ⟨φ5, m5, r1, r2, r5, m6, S5, R1.mono (g2.trans (g3.trans (g4.trans g5))), R2.mono (g3.trans (g4.trans g5)), R5, h6, fun φ6 H6 g6 S6 => k φ6 σ H6 (gg.trans g6) S6 (E.mono (gg.trans g6))⟩
end
end Ev

set_option Elab.async false
set_option linter.all false
set_option maxRecDepth 100000
/-! sorted(..) of anything: lists, tuples, dicts. -/
namespace Ev
open PySem PySem.Spec PyProof.Rows L2
def asK (r : R) (m : M) : Option (List D) := match r with
  | .ref k => (m[k]?).bind fun ob => match ob with
    | .lst ds => some ds
    | .dct _ _ kvs => some (kvs.map Prod.fst)
  | .val (.list ds) => some ds
  | .val (.tuple ds) => some ds
  | _ => none
def pSortedA : PF := p1 fun r m => (asK r m).bind fun ds => if (sortableB ds && smallAll ds && decide (ds.length ≤ sizeLine)) = true then some (.val (.list (sortD ds)), m) else none
section
variable {X : Cx} {k : Nat} {pins : List (Addr × Obj)} {σ : L2.St} {H : Hp} {s : Shared} {φ : Ad} {m : M}
theorem collect_any {r : R} {v : V} {u : Value} {ds : List D} (hc : X.calm = true) (I : Inv X pins σ H s) (S : SR ζ X.K φ H m) (R0 : RR X.K φ H v r) (rv : RelV v u) (h : asK r m = some ds) (hz : ds.length ≤ sizeLine) (E' : Value → Shared → Prop) :
    wpAny (model X.prog X.w) X.A.in1 (PySem.collect u) (fun vs s1 => Inv X pins σ H s1 ∧ Eo X.K φ H vs ds) E' s := by
  have lst : ∀ {a : Addr} {xs : List V}, u = Value.ref a → SqL X.K H a xs → DpAll X.K (off φ H) xs ds → wpAny (model X.prog X.w) X.A.in1 (PySem.collect u) (fun vs s1 => Inv X pins σ H s1 ∧ Eo X.K φ H vs ds) E' s := fun {a xs} e hs hd => by
    subst e
    obtain ⟨its, rvs, hl, _⟩ := I.list hs
    have hz2 : its.length ≤ sizeLine := by rw [← rvs.length, DpAll.len hd]; exact hz
    have up : ∀ b o, s.heap.get? b = some o → ((s.heap.push (seqObj "list" #[] 0)).update s.heap.objs.size (Obj.mapSeq (· ++ its.toArray))).get? b = some o := fun b o hb => by
      rw [Heap.get?_update_ne _ _ _ _ (Nat.ne_of_lt (Heap.lt_size hb))]
      exact Heap.get?_push_of_some _ hb
    exact collect_list hl.isList ⟨I.kept (t' := s.toks) up, each_of hd rvs⟩ hz2
  cases r with
  | tp j => first | (cases hf; done) | (cases e; done) | (cases h1; done) | (cases h; done) | (cases h7; done) | (cases h2; done)
  | ref k0 =>
    obtain ⟨ob, ho, h⟩ := bind_some_iff h
    obtain ⟨a, rfl, ha⟩ := R0
    obtain rfl : u = Value.ref a := rv
    cases ob with
    | dct t lk kvs =>
      cases h
      exact keys_eo hc I (S.obj k0 _ a ho ha) E'
    | lst ds' =>
      cases h
      obtain ⟨xs, h3, h4⟩ := S.obj k0 _ a ho ha
      exact lst rfl (.inl (.inl h3)) h4
  | val d =>
    have R0' : Dp X.K (off φ H) v d := R0
    cases d with
    | list ds' =>
      cases h
      cases R0' with
      | lst hs hd => exact lst rv (off_same.seq hs) hd
    | tuple ds' =>
      cases h
      cases R0' with
      | @tup a vs _ hs hd =>
        obtain rfl : u = Value.ref a := rv
        obtain ⟨its, rvs, hl, _⟩ := I.tuple (sqT_mono off_same hs)
        exact collect_tupV hl (by rw [← rvs.length, DpAll.len hd]; exact hz) fun h' up => ⟨I.kept (t' := s.toks) up, each_of hd rvs⟩
    | _ => cases h
theorem c_sortedA (hr : Room k X.A) (hc : X.calm = true) : CallR X (.builtin "sorted") (rsP ζ X.K pSortedA) := c_one fun pins s σ H v us Q φ m a r m' I rx S ra hf kk => by
  obtain ⟨ds, h1, hf⟩ := bind_some_iff hf
  split at hf
  · rename_i ok
    cases hf
    obtain ⟨u, rfl, ru⟩ := vals1 rx
    have ok' := ok
    rw [Bool.and_eq_true] at ok'
    exact sorted_gen hr S (collect_any hc I S ra ru h1 (of_decide_eq_true ok'.2)) ok kk
  · cases hf
end
end Ev

set_option Elab.async false
set_option linter.all false
set_option maxRecDepth 100000
/-! sorted and dicts of known values. -/
namespace Ev
open PySem PySem.Spec PyProof.Rows L2
theorem sortD_map {α : Type} (enc : α → D) (l : List α) : sortD (l.map enc) = (l.mergeSort (PySem.W.dataLe false enc)).map enc := by
  unfold sortD
  exact (List.map_mergeSort (r := PySem.W.dataLe false enc) (s := PySem.W.dataLe false id) (f := enc) (l := l) fun a _ b _ => rfl).symm
def srt (l : List Nat) : List Nat := l.mergeSort fun a b => decide (a ≤ b)
theorem srt_perm (l : List Nat) : (srt l).Perm l := List.mergeSort_perm _ _
theorem srt_sorted (l : List Nat) : (srt l).Pairwise (· ≤ ·) := by
  have := List.pairwise_mergeSort (le := fun a b : Nat => decide (a ≤ b)) (fun a b c h1 h2 => by simp at *; omega) (fun a b => by simp; omega) l
  exact this.imp fun h => by simpa using h
theorem srt_len (l : List Nat) : (srt l).length = l.length := (srt_perm l).length_eq
theorem sortable_of {ds : List D} (h : ∀ d ∈ ds, ∃ i, d = .int i) : sortableB ds = true := by
  unfold sortableB
  rw [Bool.and_eq_true, Bool.or_eq_true]
  refine ⟨?_, .inr ?_⟩
  · rw [List.all_eq_true]
    intro x hx
    rw [List.all_eq_true]
    intro y hy
    obtain ⟨i, rfl⟩ := h x hx
    obtain ⟨j, rfl⟩ := h y hy
    rfl
  · rw [List.all_eq_true]
    intro x hx
    obtain ⟨i, rfl⟩ := h x hx
    rfl
theorem depth_of {ds : List D} {n : Nat} (h : ∀ d ∈ ds, d.depth ≤ n) : PyData.depthAll ds ≤ n := by
  induction ds with
  | nil => exact Nat.zero_le _
  | cons d ds ih =>
    have h1 := h d (by simp)
    have h2 := ih fun e he => h e (List.mem_cons_of_mem _ he)
    show max d.depth (PyData.depthAll ds) ≤ n
    omega
theorem small_of {ds : List D} (h : ∀ d ∈ ds, d.depth ≤ 60) : smallAll ds = true := decide_eq_true (depth_of h)
theorem psort_r {r : R} {m : M} {ds : List D} (h : asK r m = some ds) (h1 : sortableB ds = true) (h2 : smallAll ds = true) (h3 : ds.length ≤ 16777216) : pSortedA [r] m = some (.val (.list (sortD ds)), m) := by
  show ((asK r m).bind fun ds => if (sortableB ds && smallAll ds && decide (ds.length ≤ sizeLine)) = true then some (R.val (.list (sortD ds)), m) else none) = _
  rw [h, ob_some]
  simp only [h1, h2, sz, h3, decide_true, Bool.and_self, if_true]
theorem sortD_N (l : List Nat) : sortD (encI l) = encI (srt l) := by
  unfold encI
  rw [sortD_map]
  have e : PySem.W.dataLe false (fun a : Nat => PyData.int a) = fun a b => decide (a ≤ b) := by
    rw [PySem.W.dataLe_int (fun a : Nat => (a : Int))]
    funext a b
    simp
  rw [e]
  rfl
theorem psort_N {r : R} {m : M} {l : List Nat} (h : asK r m = some (encI l)) (hl : l.length ≤ 16777216) : pSortedA [r] m = some (.val (.list (encI (srt l))), m) := by
  rw [psort_r h (sortable_of fun d hd => ?_) (small_of fun d hd => ?_) (by rw [encI_len]; exact hl), sortD_N]
  · obtain ⟨a, _, rfl⟩ := List.mem_map.mp hd
    exact ⟨_, rfl⟩
  · obtain ⟨a, _, rfl⟩ := List.mem_map.mp hd
    exact Nat.zero_le _
/-! tuples of whole numbers as keys -/
theorem keyNs_I : ∀ l : List Nat, keyNs (encI l) = some (l.map fun a : Nat => NestedKey.num a)
  | [] => rfl
  | a :: l => by
    show ((keyN (.int a)).bind fun k => (keyNs (encI l)).map fun ks => k :: ks) = _
    rw [keyNs_I l]
    rfl
theorem keyN_T (l : List Nat) : keyN (encT l) = some (.tup (l.map fun a : Nat => NestedKey.num a)) := by
  show (keyNs (encI l)).map NestedKey.tup = _
  rw [keyNs_I]
  rfl
theorem depth_nums : ∀ l : List Nat, NestedKey.depthAll (l.map fun a : Nat => NestedKey.num a) = 0
  | [] => rfl
  | a :: l => by
    show max 0 (NestedKey.depthAll (l.map fun a : Nat => NestedKey.num a)) = 0
    rw [depth_nums l]
    rfl
theorem keyOk_T (l : List Nat) : keyOk true (encT l) = true := by
  show keyOkN (encT l) = true
  unfold keyOkN
  rw [keyN_T]
  show decide (NestedKey.depthAll (l.map fun a : Nat => NestedKey.num a) + 1 ≤ 8) = true
  rw [depth_nums]
  rfl
theorem nums_inj {a b : List Nat} (h : (a.map fun a : Nat => NestedKey.num a) = b.map fun a : Nat => NestedKey.num a) : a = b := by
  refine (List.map_inj_right ?_).mp h
  intro x y e
  injection e with e
  omega
theorem same_T (a b : List Nat) : sameD true (encT a) (encT b) = decide (a = b) := by
  rw [sameD_T, keyN_T, keyN_T]
  by_cases h : a = b
  · subst h; simp
  · rw [decide_eq_false h]
    refine decide_eq_false fun z => h ?_
    injection z with z
    injection z with z
    exact nums_inj z
/-- a dict that holds True at tuples of whole numbers -/
def kT (ks : List (List Nat)) : List (D × D) := ks.map fun u => (encT u, .bool true)
def insT (ks : List (List Nat)) (w : List Nat) : List (List Nat) := if w ∈ ks then ks else ks ++ [w]
theorem put_T (ks : List (List Nat)) (w : List Nat) : putD true (kT ks) (encT w) (.bool true) = kT (insT ks w) := by
  have e : ((kT ks).any fun q => sameD true q.1 (encT w)) = decide (w ∈ ks) := by
    unfold kT
    rw [List.any_map]
    induction ks with
    | nil => simp
    | cons u ks ih =>
      rw [List.any_cons, ih]
      simp only [Function.comp_apply, same_T, List.mem_cons]
      by_cases h : w = u
      · subst h; simp
      · simp [h, show ¬ u = w from fun z => h z.symm]
  unfold putD insT
  rw [e]
  by_cases h : w ∈ ks
  · rw [if_pos (decide_eq_true h), if_pos h]
    unfold kT
    rw [List.map_map]
    refine List.map_congr_left fun u _ => ?_
    simp only [Function.comp_apply]
    split <;> rfl
  · rw [if_neg (by simp [h]), if_neg h]
    unfold kT
    simp
theorem insT_mem {ks : List (List Nat)} {w u : List Nat} : u ∈ insT ks w ↔ u ∈ ks ∨ u = w := by
  unfold insT
  split
  · rename_i h
    exact ⟨.inl, fun q => q.elim id fun e => e ▸ h⟩
  · simp
theorem insT_len (ks : List (List Nat)) (w : List Nat) : (insT ks w).length ≤ ks.length + 1 := by
  unfold insT
  split
  · omega
  · simp
theorem dset_T {m : M} {j : Nat} {ks : List (List Nat)} {w : List Nat} (h : m[j]? = some (.dct true false (kT ks))) (hl : ks.length < 16777216) : pDSet (.ref j) (.val (encT w)) (.val (.bool true)) m = some (m.set j (.dct true false (kT (insT ks w)))) := by
  have hl2 : (kT ks).length < sizeLine := by unfold kT; rw [List.length_map, sz]; exact hl
  unfold pDSet
  simp only [h, ob_some, keyOk_T, put_T, hl2, and_self, if_true]
theorem kT_keys (ks : List (List Nat)) : (kT ks).map Prod.fst = ks.map encT := by
  unfold kT
  rw [List.map_map]
  rfl
/-! evaluators -/
section
variable {f g : EF} {env : Sl} {m : M}
theorem ev_dnew {t : Bool} : eDNew t env m = some (.ref m.length, m ++ [.dct t false []]) := nr rfl
theorem it_dict : itDict f env m = (f env m).bind fun x => match x.1 with
  | .ref k => match x.2[k]? with
    | some (.dct _ true kvs) => iL (kvs.map Prod.fst) x.2
    | _ => none
  | _ => none := nr rfl
theorem alike_T {a b : List Nat} : PySem.W.alike (encT a) (encT b) = true := by
  show PySem.W.alikeAll (encI a) (encI b) = true
  induction a generalizing b with
  | nil => rfl
  | cons x a ih =>
    cases b with
    | nil => rfl
    | cons y b =>
      show (true && PySem.W.alikeAll (encI a) (encI b)) = true
      rw [ih]
      rfl
theorem depth_T (a : List Nat) : (encT a).depth ≤ 1 := by
  show PyData.depthAll (encI a) + 1 ≤ 1
  have : PyData.depthAll (encI a) ≤ 0 := depth_of fun d hd => by
    obtain ⟨a, _, rfl⟩ := List.mem_map.mp hd
    exact Nat.le_refl _
  omega
/-- sorted of tuples of whole numbers: some order -/
theorem psort_T {r : R} {ks : List (List Nat)} (h : asK r m = some (ks.map encT)) (hne : ∀ u ∈ ks, u ≠ []) (hl : ks.length ≤ 16777216) : ∃ ks' : List (List Nat), ks'.Perm ks ∧ pSortedA [r] m = some (.val (.list (ks'.map encT)), m) := by
  refine ⟨ks.mergeSort (PySem.W.dataLe false encT), List.mergeSort_perm _ _, ?_⟩
  rw [psort_r h (sortable_tup ks (fun u hu => ?_) fun a _ b _ => alike_T) (small_of fun d hd => ?_) (by rw [List.length_map]; exact hl), sortD_map]
  · cases e : u with
    | nil => exact absurd e (hne u hu)
    | cons x xs => exact ⟨_, _, rfl⟩
  · obtain ⟨u, _, rfl⟩ := List.mem_map.mp hd
    exact Nat.le_trans (depth_T u) (by decide)
end
end Ev

set_option Elab.async false
set_option linter.all false
set_option maxRecDepth 100000
set_option maxHeartbeats 4000000
/-! tuple * 1: the tuple itself. -/
namespace L2
open PySem PySem.Spec PyProof.Rows
theorem tuple_mul1 (l : Addr) (items : Array Value) (n : Nat) (dd : Option Addr) (sl : Array (Option Value)) (u : Tok) :
    Meets (Builtin.«tuple.__mul__» ⟨[.ref l, .int 1 u], []⟩) (fun _ R s => s.heap.get? l = some { cls := .type "tuple", dict := dd, data := .seq items n, slots := sl } ∧ R (.ok (.ret (Value.ref l))) s) :=
  .of_wp fun prog w A R s h => by
    obtain ⟨hp, g, d, tk, os⟩ := s
    obtain ⟨hl, h⟩ := h
    have f1 := AutoSeq1.idx_int
    wp_walk using wpAny_loadPart' hl
    repeat (first
      | (refine wpAny_ite_false (by decide) ?_; wp_walk using wpAny_loadPart' hl)
      | (refine wpAny_ite_true (by simp) ?_; wp_walk using wpAny_loadPart' hl))
    all_goals exact ⟨_, rfl, h⟩
section
variable {X : Cx}
theorem op_rep1 : OpR X (binaryOp .Mult) (fun x y H Q => ∃ l xs, x = .ref l ∧ y = .int 1 ∧ SqT X.K H l xs ∧ Q (.ref l) H) := by
  intro pins s σ H x y v u Q I rx ry h
  obtain ⟨l, xs, rfl, rfl, hT, q⟩ := h
  cases rx
  obtain ⟨t, rfl⟩ := ry
  obtain ⟨its, r, ⟨⟨cls, dd, data, sl⟩, ho, hc, n, hd⟩, hs⟩ := I.tuple hT
  simp only at hc hd
  subst hc hd
  exact wpAny_binaryOp_repeat_ref (T := "tuple") (U := "int") (by decide) ⟨_, ho, rfl⟩ (fun s' => typeIs_int s' 1 t) noFill_tuple_mul F.fills_int_mul F.slot_int_rmul repeat_tuple F.slot_int_index.lookup
    (call_meets F.slot_int_rmul (typeIs_int s 1 t) F.entry_int_rmul (F.args_int_rmul_2 _ _) (int_rmul_tuple 1 t l its.toArray n dd sl)
      ⟨ho, rfl, ⟨_, ho, rfl⟩, call_meets F.slot_tuple_mul ⟨_, ho, rfl⟩ F.entry_tuple_mul (F.args_tuple_mul_2 _ _) (tuple_mul1 l its.toArray n dd sl t) ⟨ho, ⟨.ref l, H, I, rfl, q⟩⟩⟩)
end
end L2
namespace Ev
open PySem PySem.Spec PyProof.Rows L2
def pRepA (a b : R) (m : M) : Option (R × M) := match a, b with
  | .val (.tuple ds), .val (.int 1) => some (.val (.tuple ds), m)
  | a, b => pRepT a b m
section
variable {X : Cx}
theorem o_repA : OpR X (binaryOp .Mult) (r2P ζ X.K pRepA) := by
  intro pins s σ H x y v u Q I rx ry q
  obtain ⟨φ, m, r1, r2, r, m', S, R1, R2, hf, k⟩ := q
  unfold pRepA at hf
  split at hf
  · rename_i ds
    cases hf
    obtain ⟨a, xs, rfl, hs, hd⟩ := seqT_of R1
    exact op_rep1 pins s σ H _ _ v u Q I rx ry ⟨a, xs, rfl, rr_int R2, hs, k φ H _ .refl S R1⟩
  · exact o_repT pins s σ H _ _ v u Q I rx ry ⟨φ, m, r1, r2, r, m', S, R1, R2, hf, k⟩
theorem prepA_0 {n : Nat} {m : M} (h : 1 ≤ n) (h2 : n ≤ 1000) : pRepA (.val (.tuple [.int 0])) (.val (.int (n : Int))) m = some (.val (encT (List.replicate n 0)), m) := by
  by_cases c : n = 1
  · subst c
    rfl
  · have e : pRepA (.val (.tuple [.int 0])) (.val (.int (n : Int))) m = pRepT (.val (.tuple [.int 0])) (.val (.int (n : Int))) m := by
      unfold pRepA
      split
      · rename_i h1 h3
        injection h3 with h3
        injection h3 with h3
        omega
      · rfl
    rw [e]
    show (if [PyData.int 0] ≠ [] ∧ (2 : Int) ≤ n ∧ (n : Int) ≤ 1000 ∧ [PyData.int 0].length ≤ 1000 then some (R.val (.tuple (List.replicate ((n : Int)).toNat [PyData.int 0]).flatten), m) else none) = _
    rw [if_pos ⟨by simp, by omega, by omega, by simp⟩, Int.toNat_natCast]
    congr 3
    show PyData.tuple _ = PyData.tuple (encI (List.replicate n 0))
    congr 1
    show (List.replicate n [PyData.int 0]).flatten = encI (List.replicate n 0)
    clear h h2 c e
    unfold encI
    rw [List.map_replicate]
    induction n with
    | zero => rfl
    | succ n ih => rw [List.replicate_succ, List.flatten_cons, ih, List.replicate_succ]; rfl
end
end Ev

set_option Elab.async false
set_option linter.all false
set_option maxRecDepth 100000
/-! least, greatest and places in lists of natural numbers. -/
namespace Ev
open PySem PySem.Spec PyProof.Rows L2
section
variable {m : M} {r : R}
theorem pmin_1 {d : D} {ds : List D} (h : asLT r m = some (d :: ds)) (h1 : alikeB (d :: ds) = true) (h2 : smallAll (d :: ds) = true) : pMin [r] m = some (.val (PySem.W.minD d ds), m) := by
  have e : pMin [r] m = (asLT r m).bind fun ds => match ds with
    | [] => none
    | d :: ds => if (alikeB (d :: ds) && smallAll (d :: ds)) = true then some (.val (PySem.W.minD d ds), m) else none := rfl
  rw [e, h, ob_some]
  simp only [h1, h2, Bool.and_self, if_true]
theorem pmax_1 {d : D} {ds : List D} (h : asLT r m = some (d :: ds)) (h1 : alikeB (d :: ds) = true) (h2 : smallAll (d :: ds) = true) : pMax [r] m = some (.val (PySem.W.maxD d ds), m) := by
  have e : pMax [r] m = (asLT r m).bind fun ds => match ds with
    | [] => none
    | d :: ds => if (alikeB (d :: ds) && smallAll (d :: ds)) = true then some (.val (PySem.W.maxD d ds), m) else none := rfl
  rw [e, h, ob_some]
  simp only [h1, h2, Bool.and_self, if_true]
theorem alikeB_int {ds : List D} (h : ∀ d ∈ ds, ∃ i, d = .int i) : alikeB ds = true := by
  unfold alikeB
  rw [Bool.and_eq_true]
  refine ⟨?_, ?_⟩
  · rw [List.all_eq_true]
    intro x hx
    rw [List.all_eq_true]
    intro y hy
    obtain ⟨i, rfl⟩ := h x hx
    obtain ⟨j, rfl⟩ := h y hy
    rfl
  · rw [List.all_eq_true]
    intro x hx
    obtain ⟨i, rfl⟩ := h x hx
    rfl
theorem isint_map {α : Type} (l : List α) (f : α → Int) : ∀ d ∈ l.map (fun a => PyData.int (f a)), ∃ i, d = .int i := fun d hd => by
  obtain ⟨a, _, rfl⟩ := List.mem_map.mp hd
  exact ⟨_, rfl⟩
theorem small_int {ds : List D} (h : ∀ d ∈ ds, ∃ i, d = .int i) : smallAll ds = true := small_of fun d hd => by
  obtain ⟨i, rfl⟩ := h d hd
  exact Nat.zero_le _
def mnZ (l : List Int) : Int := l.min?.getD 0
def mxZ (l : List Int) : Int := l.max?.getD 0
theorem mnZ_mem {v : List Int} (h : v ≠ []) : mnZ v ∈ v := by
  unfold mnZ
  cases e : v.min? with
  | none => exact absurd (List.min?_eq_none_iff.mp e) h
  | some x => exact List.min?_mem e
theorem mnZ_le {v : List Int} {x : Int} (h : x ∈ v) : mnZ v ≤ x := by
  unfold mnZ
  cases e : v.min? with
  | none =>
    have := List.min?_eq_none_iff.mp e
    rw [this] at h
    cases h
  | some y => exact (List.min?_eq_some_iff.mp e).2 x h
theorem mxZ_mem {v : List Int} (h : v ≠ []) : mxZ v ∈ v := by
  unfold mxZ
  cases e : v.max? with
  | none => exact absurd (List.max?_eq_none_iff.mp e) h
  | some x => exact List.max?_mem e
theorem le_mxZ {v : List Int} {x : Int} (h : x ∈ v) : x ≤ mxZ v := by
  unfold mxZ
  cases e : v.max? with
  | none =>
    have := List.max?_eq_none_iff.mp e
    rw [this] at h
    cases h
  | some y => exact (List.max?_eq_some_iff.mp e).2 x h
theorem pmin_Z {l : List Int} (h : asLT r m = some (l.map PyData.int)) (ne : l ≠ []) : pMin [r] m = some (.val (.int (mnZ l)), m) := by
  cases l with
  | nil => exact absurd rfl ne
  | cons a l =>
    have hi := isint_map (a :: l) id
    rw [List.map_cons] at h
    rw [pmin_1 h (alikeB_int hi) (small_int hi)]
    rw [PySem.W.minD_ints, mnZ, List.min?_cons']
    rfl
theorem pmax_Z {l : List Int} (h : asLT r m = some (l.map PyData.int)) (ne : l ≠ []) : pMax [r] m = some (.val (.int (mxZ l)), m) := by
  cases l with
  | nil => exact absurd rfl ne
  | cons a l =>
    have hi := isint_map (a :: l) id
    rw [List.map_cons] at h
    rw [pmax_1 h (alikeB_int hi) (small_int hi)]
    rw [PySem.W.maxD_ints, mxZ, List.max?_cons']
    rfl
theorem mnZ_cast (l : List Nat) : mnZ (l.map fun a : Nat => (a : Int)) = ((l.min?.getD 0 : Nat) : Int) := by
  cases l with
  | nil => rfl
  | cons a l =>
    unfold mnZ
    rw [List.map_cons, List.min?_cons', List.min?_cons']
    show (l.map fun a : Nat => (a : Int)).foldl min (a : Int) = ((l.foldl min a : Nat) : Int)
    induction l generalizing a with
    | nil => rfl
    | cons b l ih =>
      rw [List.map_cons, List.foldl_cons, List.foldl_cons, ← ih]
      congr 1
      omega
theorem mxZ_cast (l : List Nat) : mxZ (l.map fun a : Nat => (a : Int)) = ((l.max?.getD 0 : Nat) : Int) := by
  cases l with
  | nil => rfl
  | cons a l =>
    unfold mxZ
    rw [List.map_cons, List.max?_cons', List.max?_cons']
    show (l.map fun a : Nat => (a : Int)).foldl max (a : Int) = ((l.foldl max a : Nat) : Int)
    induction l generalizing a with
    | nil => rfl
    | cons b l ih =>
      rw [List.map_cons, List.foldl_cons, List.foldl_cons, ← ih]
      congr 1
      omega
theorem encI_Z (l : List Nat) : encI l = (l.map fun a : Nat => (a : Int)).map PyData.int := by
  unfold encI
  rw [List.map_map]
  rfl
theorem pmin_N {l : List Nat} (h : asLT r m = some (encI l)) (ne : l ≠ []) : pMin [r] m = some (.val (.int ((l.min?.getD 0 : Nat) : Int)), m) := by
  rw [encI_Z] at h
  rw [pmin_Z h (by simpa using ne), mnZ_cast]
theorem pmax_N {l : List Nat} (h : asLT r m = some (encI l)) (ne : l ≠ []) : pMax [r] m = some (.val (.int ((l.max?.getD 0 : Nat) : Int)), m) := by
  rw [encI_Z] at h
  rw [pmax_Z h (by simpa using ne), mxZ_cast]
theorem asLT_r {k : Nat} {ds : List D} (h : m[k]? = some (.lst ds)) : asLT (.ref k) m = some ds := by
  simp [asLT, asL, h]
theorem firstEq_N {a : Nat} : ∀ {l : List Nat}, a ∈ l → firstEq (.int a) (encI l) = some (l.idxOf a)
  | [], h => by cases h
  | b :: l, h => by
    show (if PyData.eqv (.int (b : Int)) (.int (a : Int)) = true then some 0 else (firstEq (.int a) (encI l)).bind fun j => some (j + 1)) = _
    have e : PyData.eqv (.int (b : Int)) (.int (a : Int)) = decide (b = a) := by
      show ((b : Int) == (a : Int)) = _
      by_cases c : b = a
      · subst c; simp
      · rw [decide_eq_false c]; simp; omega
    rw [e]
    by_cases c : b = a
    · subst c
      simp
    · have h2 : a ∈ l := (List.mem_cons.mp h).resolve_left fun z => c z.symm
      simp only [c, decide_false, Bool.false_eq_true, if_false, firstEq_N h2, ob_some]
      rw [List.idxOf_cons, show (b == a) = false by simpa using c]
      rfl
theorem lay_ints : ∀ l : List Nat, SeqAt.shaped (.list (encI l)) = true := fun l => by
  have h1 : PyData.canLay0 (.list (encI l)) = true := by
    induction l with
    | nil => rfl
    | cons a l ih => exact ih
  have h2 : PyData.depth (.list (encI l)) ≤ 64 := by
    show PyData.depthAll (encI l) + 1 ≤ 64
    have : PyData.depthAll (encI l) ≤ 0 := depth_of fun d hd => by
      obtain ⟨a, _, rfl⟩ := List.mem_map.mp hd
      exact Nat.le_refl _
    omega
  unfold SeqAt.shaped
  rw [h1, decide_eq_true h2]
  rfl
theorem pidx_N {k a : Nat} {l : List Nat} (h : m[k]? = some (.lst (encI l))) (ha : a ∈ l) : pIndex (.ref k) [.val (.int (a : Int))] m = some (.val (.int ((l.idxOf a : Nat) : Int)), m) := by
  show ((asD (.val (.int (a : Int))) m).bind fun d => (asL (.ref k) m).bind fun ds => if (SeqAt.shaped (.list ds) && SeqAt.shaped d) = true then (firstEq d ds).bind fun j => some (R.val (.int j), m) else none) = _
  have e1 : asD (.val (.int (a : Int))) m = some (.int (a : Int)) := rfl
  have e2 : SeqAt.shaped (.int (a : Int)) = true := rfl
  rw [e1, ob_some, asL_r h, ob_some, lay_ints, e2]
  simp only [Bool.and_self, if_true, firstEq_N ha, ob_some]
end
end Ev

set_option Elab.async false
set_option linter.all false
set_option maxRecDepth 100000
/-! comprehensions over a list of the store. -/
namespace Ev
open PySem PySem.Spec PyProof.Rows L2
theorem clpR_go {α : Type} {p : Pat} {tt : TF} {te : EF} {env : Sl} {m : M} {k : Nat} (enc : α → D) (t : α → Bool) (F : α → D) (l0 : List α) (hm : m[k]? = some (.lst (l0.map enc))) : ∀ (l : List α) (i : Nat), l0.drop i = l →
    (∀ a ∈ l, ∃ e, bindP p (enc a) env = some e ∧ tt e m = some (t a, m) ∧ (t a = true → te e m = some (.val (F a), m))) → clp (srcR k) p tt te env l.length i m = some ((l.filter t).map F, m)
  | [], i, hd, _ => by
    have e : srcR k i m = some none := by
      unfold srcR
      rw [hm]
      have : (l0.map enc)[i]? = none := by rw [List.getElem?_eq_none_iff, List.length_map]; simpa using hd
      simp only [this]
    simp [clp, e]
  | a :: l, i, hd, h => by
    have ea : l0[i]? = some a := by
      have := congrArg (·[0]?) hd
      simpa using this
    have e : srcR k i m = some (some (enc a)) := by
      unfold srcR
      rw [hm]
      simp only [List.getElem?_map, ea, Option.map_some]
    have h' : l0.drop (i + 1) = l := by
      have := congrArg (List.drop 1) hd
      simpa [List.drop_drop, Nat.add_comm] using this
    obtain ⟨e1, h1, h2, h3⟩ := h a (by simp)
    have ih := clpR_go (p := p) (tt := tt) (te := te) (env := env) (m := m) (k := k) enc t F l0 hm l (i + 1) h' fun b hb => h b (List.mem_cons_of_mem _ hb)
    rw [List.length_cons]
    unfold clp
    rw [e]
    simp only [ob_some, h1, h2]
    cases ht : t a with
    | false =>
      rw [if_neg Bool.false_ne_true, ih, List.filter_cons_of_neg (by rw [ht]; exact Bool.false_ne_true)]
    | true =>
      rw [if_pos rfl, h3 ht]
      simp only [ob_some, asD0_val]
      rw [ih, List.filter_cons_of_pos ht]
      rfl
theorem runC_ref {α : Type} {p : Pat} {tt : TF} {te : EF} {env : Sl} {vs : List Nat} {m : M} {k : Nat} (enc : α → D) (t : α → Bool) (F : α → D) (l : List α) (hm : m[k]? = some (.lst (l.map enc))) (hl : l.length ≤ 16777216)
    (h : ∀ a ∈ l, ∃ e, bindP p (enc a) (wipeE env vs) = some e ∧ tt e m = some (t a, m) ∧ (t a = true → te e m = some (.val (F a), m))) : runC (an1 (.ref k) m) p vs tt te env = some ((l.filter t).map F, m) := by
  have e : an1 (.ref k) m = some ((srcR k, (l.map enc).length), m) := by
    unfold an1
    simp only [hm]
  unfold runC
  rw [e, ob_some]
  simp only [List.length_map, sz, hl, if_true]
  exact clpR_go enc t F l hm l 0 rfl h
theorem runC_refA {α : Type} {p : Pat} {te : EF} {env : Sl} {vs : List Nat} {m : M} {k : Nat} (enc : α → D) (F : α → D) (l : List α) (hm : m[k]? = some (.lst (l.map enc))) (hl : l.length ≤ 16777216)
    (h : ∀ a ∈ l, ∃ e, bindP p (enc a) (wipeE env vs) = some e ∧ te e m = some (.val (F a), m)) : runC (an1 (.ref k) m) p vs tTrue te env = some (l.map F, m) := by
  have := runC_ref (p := p) (tt := tTrue) (te := te) (env := env) (vs := vs) (m := m) (k := k) enc (fun _ => true) F l hm hl fun a ha => by
    obtain ⟨e, h1, h2⟩ := h a ha
    exact ⟨e, h1, rfl, fun _ => h2⟩
  rw [this, List.filter_eq_self.mpr fun _ _ => rfl]
end Ev

set_option Elab.async false
set_option linter.all false
set_option maxRecDepth 100000
/-! the least of tuples of natural numbers. -/
namespace Ev
open PySem PySem.Spec PyProof.Rows L2
theorem lt_cast : ∀ a b : List Nat, (a.map fun x : Nat => (x : Int)) < (b.map fun x : Nat => (x : Int)) ↔ a < b
  | [], [] => by simp
  | [], y :: b => by simp
  | x :: a, [] => by simp
  | x :: a, y :: b => by
    rw [List.map_cons, List.map_cons, List.cons_lt_cons_iff, List.cons_lt_cons_iff, lt_cast a b]
    constructor
    · rintro (h | ⟨h1, h2⟩)
      · exact .inl (by omega)
      · exact .inr ⟨by omega, h2⟩
    · rintro (h | ⟨h1, h2⟩)
      · exact .inl (by omega)
      · exact .inr ⟨by omega, h2⟩
theorem dataLt_T (a b : List Nat) : PySem.W.dataLt (encT a) (encT b) = decide (a < b) := by
  show PySem.W.dataLt (.tuple (encI a)) (.tuple (encI b)) = _
  rw [PySem.W.dataLt_tuple, encI_Z, encI_Z]
  refine (PySem.W.dataLt_ints (a.map fun x : Nat => (x : Int)) (b.map fun x : Nat => (x : Int))).trans ?_
  simp only [lt_cast]
theorem minD_T : ∀ (l : List (List Nat)) (x : List Nat), ∃ r, PySem.W.minD (encT x) (l.map encT) = encT r ∧ r ∈ x :: l ∧ ∀ y ∈ x :: l, ¬ y < r
  | [], x => ⟨x, rfl, by simp, fun y hy => by rw [List.mem_singleton.mp hy]; exact List.lt_irrefl x⟩
  | z :: l, x => by
    have e : PySem.W.minD (encT x) ((z :: l).map encT) = PySem.W.minD (if z < x then encT z else encT x) (l.map encT) := by
      show PySem.W.minD (if PySem.W.dataLt (encT z) (encT x) = true then encT z else encT x) (l.map encT) = _
      rw [dataLt_T]
      simp
    by_cases c : z < x
    · obtain ⟨r, h1, h2, h3⟩ := minD_T l z
      refine ⟨r, by rw [e, if_pos c]; exact h1, List.mem_cons_of_mem _ h2, fun y hy => ?_⟩
      rcases List.mem_cons.mp hy with q | q
      · rw [q]
        exact fun h => h3 z (by simp) (List.lt_trans c h)
      · exact h3 y q
    · obtain ⟨r, h1, h2, h3⟩ := minD_T l x
      refine ⟨r, by rw [e, if_neg c]; exact h1, ?_, fun y hy => ?_⟩
      · rcases List.mem_cons.mp h2 with q | q
        · rw [q]; simp
        · exact List.mem_cons_of_mem _ (List.mem_cons_of_mem _ q)
      · rcases List.mem_cons.mp hy with q | q
        · rw [q]; exact h3 x (by simp)
        · rcases List.mem_cons.mp q with q | q
          · rw [q]
            exact fun h => h3 x (by simp) (List.lt_of_le_of_lt (List.not_lt.mp c) h)
          · exact h3 y (List.mem_cons_of_mem _ q)
theorem pmin_T {l : List (List Nat)} {m : M} (ne : l ≠ []) : ∃ r, pMin [.val (.list (l.map encT))] m = some (.val (encT r), m) ∧ r ∈ l ∧ ∀ y ∈ l, ¬ y < r := by
  cases l with
  | nil => exact absurd rfl ne
  | cons x l =>
    obtain ⟨r, h1, h2, h3⟩ := minD_T l x
    refine ⟨r, ?_, h2, h3⟩
    have al : alikeB (encT x :: l.map encT) = true := by
      have : ∀ d ∈ (encT x :: l.map encT), ∃ a, d = encT a := fun d hd => by
        rw [← List.map_cons] at hd
        obtain ⟨a, _, rfl⟩ := List.mem_map.mp hd
        exact ⟨a, rfl⟩
      unfold alikeB
      rw [Bool.and_eq_true]
      refine ⟨?_, ?_⟩
      · rw [List.all_eq_true]
        intro d hd
        rw [List.all_eq_true]
        intro e he
        obtain ⟨a, rfl⟩ := this d hd
        obtain ⟨b, rfl⟩ := this e he
        exact alike_T
      · rw [List.all_eq_true]
        intro d hd
        obtain ⟨a, rfl⟩ := this d hd
        rfl
    have sm : smallAll (encT x :: l.map encT) = true := small_of fun d hd => by
      rw [← List.map_cons] at hd
      obtain ⟨a, _, rfl⟩ := List.mem_map.mp hd
      exact Nat.le_trans (depth_T a) (by decide)
    rw [List.map_cons, pmin_1 (d := encT x) (ds := l.map encT) rfl al sm, h1]
end Ev

set_option Elab.async false
set_option linter.all false
set_option maxRecDepth 100000
/-! {k: v for .. in ..}, keys whole numbers or texts. -/
namespace Ev
open PySem PySem.Spec PyProof.Rows L2
/-- one pair put into the dict k0 of the store -/
def dputM (k0 : Nat) (a b : R) (m : M) : Option M := match a, b with
  | .val d, .val v => match m[k0]? with
    | some (.dct false false kvs) => if keyOk false d = true ∧ kvs.length < sizeLine then some (m.set k0 (.dct false false (putD false kvs d v))) else none
    | _ => none
  | _, _ => none
def dcl (src : Src) (p : Pat) (tt : TF) (tk tv : EF) (env : Sl) (k0 : Nat) : Nat → Nat → M → Option M
  | 0, i, m => (src i m).bind fun o => match o with
    | none => some m
    | some _ => none
  | n + 1, i, m => (src i m).bind fun o => match o with
    | none => some m
    | some d => (bindP p d env).bind fun e => (tt e m).bind fun t => if t.1 = true then (tk e t.2).bind fun y => (tv e y.2).bind fun z => (dputM k0 y.1 z.1 z.2).bind fun m' => dcl src p tt tk tv env k0 n (i + 1) m' else dcl src p tt tk tv env k0 n (i + 1) t.2
def eDc (it : IF) (p : Pat) (vs : List Nat) (tt : TF) (tk tv : EF) : EF := fun env m => (it env m).bind fun x => if x.1.2 ≤ sizeLine then (dcl x.1.1 p tt tk tv (wipeE env vs) x.2.length x.1.2 0 (x.2 ++ [.dct false false []])).bind fun m' => some (.ref x.2.length, m') else none
theorem dputM_some {k0 : Nat} {a b : R} {m m' : M} (h : dputM k0 a b m = some m') : ∃ d v kvs, a = .val d ∧ b = .val v ∧ m[k0]? = some (.dct false false kvs) ∧ keyOk false d = true ∧ kvs.length < sizeLine ∧ m' = m.set k0 (.dct false false (putD false kvs d v)) := by
  unfold dputM at h
  split at h
  · rename_i d v
    split at h
    · rename_i kvs hm
      split at h
      · rename_i hc
        cases h
        exact ⟨d, v, kvs, rfl, rfl, hm, hc.1, hc.2, rfl⟩
      · cases h
    · cases h
  · cases h
theorem dc_imp {K : PySem.W.Frag} {it : IF} {p : Pat} {vs : List Nat} {tt : TF} {tk tv : EF} {σ : L2.St} {H : Hp} {Q : VK} (hw : p.within vs = true) (q : tE ζ K (eDc it p vs tt tk tv) σ H Q) : tDc (tI ζ K it) (gPat ζ K p) (tT ζ K tt) (tE ζ K tk) (tE ζ K tv) vs σ H Q := by
  obtain ⟨φ, env, m, r, m', S, E, hf, k⟩ := q
  obtain ⟨⟨⟨src, n⟩, m1⟩, h1, hf⟩ := bind_some_iff hf
  simp only at hf
  split at hf
  case isFalse => cases hf
  rename_i hn
  obtain ⟨m9', hf1, hf2⟩ := bind_some_iff hf
  cases hf2
  refine ⟨φ, env, m, src, n, m1, S, E, h1, fun φ1 H1 J g1 S1 JJ => fun P hP => ?_⟩
  have E1 := E.mono g1
  have gP : Gr φ1 H1 (φ1.add P) (upd H1 P (.dK [])) := gr_enter hP
  have SP : SR ζ K (φ1.add P) (upd H1 P (.dK [])) (m1 ++ [.dct false false []]) := S1.enterO hP ⟨[], upd_same, .nil⟩
  have aP : (φ1.add P).s[m1.length]? = some P := by
    show (φ1.s ++ [P])[m1.length]? = some P
    rw [← S1.len, List.getElem?_append_right (Nat.le_refl _), Nat.sub_self]
    rfl
  refine ⟨fun i nn H => ∃ φ2 m2, Gr (φ1.add P) (upd H1 P (.dK [])) φ2 H ∧ SR ζ K φ2 H m2 ∧ dcl src p tt tk tv (wipeE env vs) m1.length nn i m2 = some m', ⟨n, φ1.add P, _, .refl, SP, hf1⟩, ?_⟩
  intro i nn H2 ⟨φ2, m2, g2, S2, hc2⟩
  have gw : Gw φ1 H1 φ2 H2 := (gP.trans g2).w
  have cas : ∃ o, src i m2 = some o := by
    cases nn <;> (obtain ⟨o, ho, _⟩ := bind_some_iff hc2; exact ⟨o, ho⟩)
  obtain ⟨o, ho⟩ := cas
  cases o with
  | none =>
    have e : m2 = m' := by
      cases nn <;> (simp only [dcl, ho, Option.bind_some] at hc2; cases hc2; rfl)
    subst e
    exact .inl ⟨JJ.stop _ _ m2 i gw S2 ho, k φ2 H2 (.ref P) (g1.trans (gP.trans g2)) S2 ⟨P, rfl, prefix_get g2.pre aP⟩⟩
  | some d =>
    cases nn with
    | zero => simp [dcl, ho] at hc2
    | succ nn =>
      refine .inr ⟨JJ.go _ _ m2 i d gw S2 ho, fun H' => ∃ φ2 m2, Gr (φ1.add P) (upd H1 P (.dK [])) φ2 H' ∧ SR ζ K φ2 H' m2 ∧ dcl src p tt tk tv (wipeE env vs) m1.length nn (i + 1) m2 = some m', fun H' z => ⟨nn, Nat.lt_succ_self nn, z⟩, fun x H3 hy => ?_⟩
      obtain ⟨g3, S3, R3⟩ := JJ.yld _ _ m2 i d x H3 gw S2 ho hy
      simp only [dcl, ho, Option.bind_some] at hc2
      obtain ⟨e4, h4, hc2⟩ := bind_some_iff hc2
      obtain ⟨⟨b, m5⟩, h5, hc2⟩ := bind_some_iff hc2
      have E3 : ER K φ2 H3 (wipe σ vs) (wipeE env vs) := (er_wipe (E1.monoW gw) vs).mono g3
      obtain ⟨σ4, q4, E4, w4⟩ := bindP_ok p E3 R3 h4 hw
      refine q4 _ ⟨w4.trans (by
        have := wipe_idem σ vs
        exact this), ?_⟩
      refine ⟨φ2, e4, m2, b, m5, S3, E4, h5, fun φ5 H5 g5 S5 => ?_⟩
      have g35 := g2.trans (g3.trans g5)
      cases b with
      | false =>
        refine iteF ?_
        simp only [Bool.false_eq_true, if_false] at hc2
        exact ⟨φ5, m5, g35, S5, hc2⟩
      | true =>
        refine iteT ?_
        simp only [if_true] at hc2
        obtain ⟨⟨y, m6⟩, h6, hc2⟩ := bind_some_iff hc2
        obtain ⟨⟨z, m7⟩, h7, hc2⟩ := bind_some_iff hc2
        obtain ⟨m8, h8, hc2⟩ := bind_some_iff hc2
        obtain ⟨kd, vd, kvs, rfl, rfl, hm, hk, hl, rfl⟩ := dputM_some h8
        refine ⟨φ5, e4, m5, _, m6, S5, E4.mono g5, h6, fun φ6 H6 v6 g6 S6 R6 => ?_⟩
        refine ⟨φ6, e4, m6, _, m7, S6, E4.mono (g5.trans g6), h7, fun φ7 H7 v7 g7 S7 R7 => ?_⟩
        have g37 := g35.trans (g6.trans g7)
        have ha := prefix_get g37.pre aP
        obtain ⟨ks, o1, o2⟩ := S7.obj m1.length _ P hm ha
        have o1' : H7 P = some (.dK ks) := o1
        obtain ⟨kk0, e0⟩ := Option.isSome_iff_exists.mp (show (keyK kd).isSome = true from hk)
        have R6' : Dp K (off φ7 H7) v6 kd := dp_mono g7.same R6
        have hin : P ∈ φ7.s := List.mem_of_getElem? ha
        exact ⟨ks, kk0, keyK_V e0 R6', o1', by rw [Paired.len o2]; exact hl, φ7, _, g37.trans (gr_write hin (S7.apart hin) (nf_dK o1')), S7.writeO (ob := .dct false false (putD false kvs kd vd)) ha ⟨_, upd_same, o2.put e0 R7⟩, hc2⟩
theorem x_dc {X : Cx} {kx vx tg iter : Expr} {ifs : List Expr} {scope : Scope} {own : List (Str × Nat)} {pos : Pos} {it : IF} {p : Pat} {tt : TF} {tk tv : EF} (hc : X.calm = true) (hN : X.N.Nodup) (hi : PI X tg iter (tI ζ X.K it)) (ok : BlkOk X.N X.env.scope scope own) (hw : p.within (own.map (·.2)) = true)
    (hg : ∀ s H C cl fp, PG (Cb X scope s H C cl fp) tg (gPat ζ X.K p)) (ht : ∀ s H C cl fp, PTs (Cb X scope s H C cl fp) ifs (tT ζ X.K tt)) (hk : ∀ s H C cl fp, PE (Cb X scope s H C cl fp) kx (tE ζ X.K tk)) (he : ∀ s H C cl fp, PE (Cb X scope s H C cl fp) vx (tE ζ X.K tv)) (hs : ∀ x, foldedSetIterable iter X.env x = pure x := by intro _; rfl) :
    PE X (.DictComp kx vx [⟨tg, iter, ifs, 0⟩] scope pos) (tE ζ X.K (eDc it p (own.map (·.2)) tt tk tv)) := pe_imp (pe_dc hc hN hi ok hg ht hk he hs) fun _ _ _ q => dc_imp hw q
end Ev

set_option Elab.async false
set_option linter.all false
set_option maxRecDepth 100000
/-! list.insert; comprehensions of two clauses. -/
namespace Ev
open PySem PySem.Spec PyProof.Rows L2
def pInsert : MF := fun r rs m => match r, rs with
  | .ref k, [.val (.int i), .val d] => (m[k]?).bind fun ob => match ob with
    | .lst ds => if ds.length < sizeLine ∧ 0 ≤ i ∧ i < 2 ^ 63 then some (.val .none, m.set k (.lst (ds.take i.toNat ++ [d] ++ ds.drop i.toNat))) else none
    | .dct _ _ _ => none
  | _, _ => none
section
variable {X : Cx} {k : Nat}
theorem m_insert : MtR X "list.insert" (rmP ζ X.K pInsert) := by
  intro pins s σ H x xs v us Q I rx rxs h
  obtain ⟨φ, m, r0, rs, r, m', S, R0, RS, hf, kk⟩ := h
  unfold pInsert at hf
  split at hf
  · rename_i k i d
    obtain ⟨ob, ho, hf⟩ := bind_some_iff hf
    cases ob with
    | dct t lk kvs => cases hf
    | lst ds =>
      simp only at hf
      split at hf
      · rename_i hl
        cases hf
        obtain ⟨a, rfl, ha⟩ := R0
        obtain ⟨zs, h3, h4⟩ := S.obj k _ a ho ha
        cases RS with
        | cons r1 t1 =>
          cases t1 with
          | cons r2 t2 =>
            cases t2
            have e1 := rr_int r1
            subst e1
            have hin : a ∈ φ.s := List.mem_of_getElem? ha
            refine mt_insert pins s σ H _ _ v us Q I rx rxs ⟨a, zs, i, _, rfl, rfl, h3, by rw [DpAll.len h4]; exact hl.1, hl.2.1, hl.2.2, ?_⟩
            exact kk φ _ _ (gr_write hin (S.apart hin) (nf_lst h3)) (S.write ha (DpAll.append (DpAll.append (DpAll.take _ h4) (.cons r2 .nil)) (DpAll.drop _ h4))) Dp.non
      · cases hf
  · cases hf
end
end Ev

set_option Elab.async false
set_option linter.all false
set_option maxRecDepth 100000
/-! Comprehensions of two clauses: lists. -/
namespace Ev
open PySem PySem.Spec PyProof.Rows L2
/-- the outer loop -/
def clp2 (src : Src) (p : Pat) (tt : TF) (it1 : IF) (p1 : Pat) (vs1 : List Nat) (tt1 : TF) (te : EF) (env : Sl) : Nat → Nat → M → Option (List D × M)
  | 0, i, m => (src i m).bind fun o => match o with
    | none => some ([], m)
    | some _ => none
  | n + 1, i, m => (src i m).bind fun o => match o with
    | none => some ([], m)
    | some d => (bindP p d env).bind fun e => (tt e m).bind fun t => if t.1 = true then (it1 e t.2).bind fun x => (clp x.1.1 p1 tt1 te (wipeE e vs1) x.1.2 0 x.2).bind fun y => (clp2 src p tt it1 p1 vs1 tt1 te env n (i + 1) y.2).bind fun z => some (y.1 ++ z.1, z.2) else clp2 src p tt it1 p1 vs1 tt1 te env n (i + 1) t.2
def nComp2 (it : IF) (p : Pat) (vs : List Nat) (tt : TF) (it1 : IF) (p1 : Pat) (vs1 : List Nat) (tt1 : TF) (te : EF) : NF := fun env m => (it env m).bind fun x => (clp2 x.1.1 p tt it1 p1 vs1 tt1 te (wipeE env vs) x.1.2 0 x.2).bind fun y => if y.1.length ≤ sizeLine then some y else none
theorem lc2_imp {K : PySem.W.Frag} {it : IF} {p : Pat} {vs : List Nat} {tt : TF} {it1 : IF} {p1 : Pat} {vs1 : List Nat} {tt1 : TF} {te : EF} {σ : L2.St} {H : Hp} {Q : VK} (hw : p.within vs = true) (hw1 : p1.within vs1 = true) (q : tN ζ K (nComp2 it p vs tt it1 p1 vs1 tt1 te) σ H Q) :
    tLc2 (tI ζ K it) (gPat ζ K p) (tT ζ K tt) (tI ζ K it1) (gPat ζ K p1) (tT ζ K tt1) (tE ζ K te) vs vs1 σ H Q := by
  obtain ⟨φ, env, m, ds, m', S, E, hf, k⟩ := q
  obtain ⟨⟨⟨src, n⟩, m1⟩, h1, hf⟩ := bind_some_iff hf
  obtain ⟨⟨ds', m9⟩, hf0, hf⟩ := bind_some_iff hf
  simp only at hf hf0
  split at hf
  case isFalse => cases hf
  rename_i hn
  cases hf
  refine ⟨φ, env, m, src, n, m1, S, E, h1, fun φ1 H1 J g1 S1 JJ => fun P hP => ?_⟩
  have E1 := E.mono g1
  refine ⟨fun i nn H => ∃ φ2 m2 acc ads rest, Gr φ1 H1 φ2 (drp H P) ∧ SR ζ K (φ2.hide P) H m2 ∧ H P = some (.lst acc) ∧ DpAll K (off (φ2.hide P) H) acc ads ∧ clp2 src p tt it1 p1 vs1 tt1 te (wipeE env vs) nn i m2 = some (rest, m') ∧ ads ++ rest = ds, ⟨n, φ1, m1, [], [], ds, ?_, S1.hide hP, upd_same, .nil, hf0, rfl⟩, ?_⟩
  · rw [drp_upd, drp_none hP]
    exact .refl
  intro i nn H2 ⟨φ2, m2, acc, ads, rest, g2, S2, hp2, hd2, hc2, ha2⟩
  have gw : Gw φ1 H1 (φ2.hide P) H2 := g2.w.trans gw_hide
  have cas : ∃ o, src i m2 = some o := by
    cases nn <;> (obtain ⟨o, ho, _⟩ := bind_some_iff hc2; exact ⟨o, ho⟩)
  obtain ⟨o, ho⟩ := cas
  cases o with
  | none =>
    have e : rest = [] ∧ m2 = m' := by
      cases nn <;> (simp only [clp2, ho, Option.bind_some] at hc2; cases hc2; exact ⟨rfl, rfl⟩)
    obtain ⟨e1, e2⟩ := e
    subst e1 e2
    rw [List.append_nil] at ha2
    subst ha2
    refine .inl ⟨JJ.stop _ _ m2 i gw S2 ho, ?_⟩
    rw [off_hide] at hd2
    have := k φ2 (drp H2 P) P acc (g1.trans g2) (S2.show_ hp2) drp_self hd2
    rw [upd_drp hp2] at this
    exact this
  | some d =>
    cases nn with
    | zero => simp [clp2, ho] at hc2
    | succ nn =>
      refine .inr ⟨JJ.go _ _ m2 i d gw S2 ho, fun H' => ∃ φ2 m2 acc ads rest, Gr φ1 H1 φ2 (drp H' P) ∧ SR ζ K (φ2.hide P) H' m2 ∧ H' P = some (.lst acc) ∧ DpAll K (off (φ2.hide P) H') acc ads ∧ clp2 src p tt it1 p1 vs1 tt1 te (wipeE env vs) nn (i + 1) m2 = some (rest, m') ∧ ads ++ rest = ds,
        fun H' z => ⟨nn, Nat.lt_succ_self nn, z⟩, fun x H3 hy => ?_⟩
      obtain ⟨g3, S3, R3⟩ := JJ.yld _ _ m2 i d x H3 gw S2 ho hy
      simp only [clp2, ho, Option.bind_some] at hc2
      obtain ⟨e4, h4, hc2⟩ := bind_some_iff hc2
      obtain ⟨⟨b, m5⟩, h5, hc2⟩ := bind_some_iff hc2
      have E3 : ER K (φ2.hide P) H3 (wipe σ vs) (wipeE env vs) := (er_wipe (E1.monoW gw) vs).mono g3
      obtain ⟨σ4, q4, E4, w4⟩ := bindP_ok p E3 R3 h4 hw
      refine q4 _ ⟨w4.trans (wipe_idem σ vs), ?_⟩
      refine ⟨φ2.hide P, e4, m2, b, m5, S3, E4, h5, fun φ5' H5 g5 S5 => ?_⟩
      have g35 := g3.trans g5
      obtain ⟨φ5, rfl, g5'⟩ := Gr.unhide g35
      have hp5 : H5 P = some (.lst acc) := g35.stay P List.mem_cons_self _ hp2 (fun ps z => by cases z)
      have hd5 := dps_mono g35.same hd2
      cases b with
      | false =>
        refine iteF ?_
        simp only [Bool.false_eq_true, if_false] at hc2
        exact ⟨φ5, m5, acc, ads, rest, g2.trans g5', S5, hp5, hd5, hc2, ha2⟩
      | true =>
        refine iteT ?_
        simp only [if_true] at hc2
        obtain ⟨⟨⟨src1, n1⟩, m6⟩, h6, hc2⟩ := bind_some_iff hc2
        obtain ⟨⟨r1, m7⟩, h7, hc2⟩ := bind_some_iff hc2
        obtain ⟨⟨r2, m8⟩, h8, hc2⟩ := bind_some_iff hc2
        cases hc2
        refine ⟨φ5.hide P, e4, m5, src1, n1, m6, S5, E4.mono g5, h6, fun φ6' H6 J1 g6 S6 JJ1 => ?_⟩
        have g36 := g35.trans g6
        obtain ⟨φ6, rfl, g6'⟩ := Gr.unhide g36
        have hp6 : H6 P = some (.lst acc) := g36.stay P List.mem_cons_self _ hp2 (fun ps z => by cases z)
        have hd6 := dps_mono g36.same hd2
        have E6 : ER K (φ6.hide P) H6 σ4 e4 := E4.mono (g5.trans g6)
        refine ⟨fun j k H => ∃ φ3 m3 acc ads r1, Gr φ6 (drp H6 P) φ3 (drp H P) ∧ Gw (φ6.hide P) H6 (φ3.hide P) H ∧ SR ζ K (φ3.hide P) H m3 ∧ H P = some (.lst acc) ∧ DpAll K (off (φ3.hide P) H) acc ads ∧ clp src1 p1 tt1 te (wipeE e4 vs1) k j m3 = some (r1, m7) ∧ ads ++ (r1 ++ r2) = ds, ⟨n1, φ6, m6, acc, ads, r1, .refl, Gr.refl.w, S6, hp6, hd6, h7, ha2⟩, ?_⟩
        intro j k7 H7 ⟨φ7, m70, acc7, ads7, r7, g7, gw7, S7, hp7, hd7, hc7, ha7⟩
        have cas : ∃ o, src1 j m70 = some o := by
          cases k7 <;> (obtain ⟨o, ho, _⟩ := bind_some_iff hc7; exact ⟨o, ho⟩)
        obtain ⟨o7, ho7⟩ := cas
        have hlen : ads7.length ≤ acc7.length := by rw [DpAll.len hd7]; exact Nat.le_refl _
        cases o7 with
        | none =>
          have e : r7 = [] ∧ m70 = m7 := by
            cases k7 <;> (simp only [clp, ho7, Option.bind_some] at hc7; cases hc7; exact ⟨rfl, rfl⟩)
          obtain ⟨e1, e2⟩ := e
          subst e1 e2
          exact .inl ⟨JJ1.stop _ _ m70 j gw7 S7 ho7, φ7, m70, acc7, ads7, r2, g2.trans (g6'.trans g7), S7, hp7, hd7, h8, ha7⟩
        | some d7 =>
          cases k7 with
          | zero => simp [clp, ho7] at hc7
          | succ k7 =>
            refine .inr ⟨JJ1.go _ _ m70 j d7 gw7 S7 ho7, fun H' => ∃ φ3 m3 acc ads r1, Gr φ6 (drp H6 P) φ3 (drp H' P) ∧ Gw (φ6.hide P) H6 (φ3.hide P) H' ∧ SR ζ K (φ3.hide P) H' m3 ∧ H' P = some (.lst acc) ∧ DpAll K (off (φ3.hide P) H') acc ads ∧ clp src1 p1 tt1 te (wipeE e4 vs1) k7 (j + 1) m3 = some (r1, m7) ∧ ads ++ (r1 ++ r2) = ds,
              fun H' z => ⟨k7, Nat.lt_succ_self k7, z⟩, fun x8 H8 hy8 => ?_⟩
            obtain ⟨g8, S8, R8⟩ := JJ1.yld _ _ m70 j d7 x8 H8 gw7 S7 ho7 hy8
            simp only [clp, ho7, Option.bind_some] at hc7
            obtain ⟨e9, h9, hc7⟩ := bind_some_iff hc7
            obtain ⟨⟨b9, m10⟩, h10, hc7⟩ := bind_some_iff hc7
            have E8 : ER K (φ7.hide P) H8 (wipe σ4 vs1) (wipeE e4 vs1) := (er_wipe (E6.monoW gw7) vs1).mono g8
            obtain ⟨σ9, q9, E9, w9⟩ := bindP_ok p1 E8 R8 h9 hw1
            refine q9 _ ⟨w9.trans (wipe_idem σ4 vs1), ?_⟩
            refine ⟨φ7.hide P, e9, m70, b9, m10, S8, E9, h10, fun φ10' H10 g10 S10 => ?_⟩
            have g810 := g8.trans g10
            have gw10 := gw7.trans g810.w
            obtain ⟨φ10, rfl, g10'⟩ := Gr.unhide g810
            have hp10 : H10 P = some (.lst acc7) := g810.stay P List.mem_cons_self _ hp7 (fun ps z => by cases z)
            have hd10 := dps_mono g810.same hd7
            cases b9 with
            | false =>
              refine iteF ?_
              simp only [Bool.false_eq_true, if_false] at hc7
              exact ⟨φ10, m10, acc7, ads7, r7, g7.trans g10', gw10, S10, hp10, hd10, hc7, ha7⟩
            | true =>
              refine iteT ?_
              simp only [if_true] at hc7
              obtain ⟨⟨y, m11⟩, h11, hc7⟩ := bind_some_iff hc7
              obtain ⟨d', h12, hc7⟩ := bind_some_iff hc7
              obtain ⟨⟨zs, m13⟩, h13, hc7⟩ := bind_some_iff hc7
              cases hc7
              have hyv : y = .val d' := by
                cases y with
                | tp j => cases h12
                | ref j => cases h12
                | val d => cases h12; rfl
              subst hyv
              refine ⟨φ10.hide P, e9, m10, _, m11, S10, E9.mono g10, h11, fun φ11' H11 v11 g11 S11 R11 => ?_⟩
              have g811 := g810.trans g11
              have gw11 := gw7.trans g811.w
              obtain ⟨φ11, rfl, g11'⟩ := Gr.unhide g811
              have hp11 : H11 P = some (.lst acc7) := g811.stay P List.mem_cons_self _ hp7 (fun ps z => by cases z)
              have hd11 := dps_mono g811.same hd7
              refine ⟨acc7, hp11, ?_, φ11, m11, acc7 ++ [v11], ads7 ++ [d'], zs, ?_, ?_, S11.hidSet hp11, upd_same, ?_, h13, ?_⟩
              · rw [DpAll.len hd7]
                have := congrArg List.length ha7
                simp only [List.length_append, List.length_cons] at this
                omega
              · rw [drp_upd]
                exact g7.trans g11'
              · refine ⟨gw11.pre, ?_, fun a o u e => ?_⟩
                · have := gw11.same
                  rw [off_hide, off_hide] at this ⊢
                  rw [drp_upd]
                  exact this
                · have h := gw11.frz a o u e
                  rw [upd_ne (fun z : a = P => by rw [z, hp11] at h; cases h)]
                  exact h
              · rw [off_hide, drp_upd, ← off_hide]
                exact DpAll.append hd11 (.cons R11 .nil)
              · rw [← ha7]
                simp
section
variable {X : Cx}
theorem n_comp2 {elt tg iter tg1 iter1 : Expr} {ifs ifs1 : List Expr} {scope : Scope} {own own1 : List (Str × Nat)} {pos : Pos} {it it1 : IF} {p p1 : Pat} {tt tt1 : TF} {te : EF} (hc : X.calm = true) (hN : X.N.Nodup) (hi : PI X tg iter (tI ζ X.K it)) (ok : BlkOk X.N X.env.scope scope own) (hw : p.within (own.map (·.2)) = true) (hw1 : p1.within (own1.map (·.2)) = true) (hv : ∀ i ∈ own1.map (·.2), i ∈ own.map (·.2))
    (hg : ∀ s H C cl fp, PG (Cb X scope s H C cl fp) tg (gPat ζ X.K p)) (ht : ∀ s H C cl fp, PTs (Cb X scope s H C cl fp) ifs (tT ζ X.K tt)) (hi1 : ∀ s H C cl fp, PI (Cb X scope s H C cl fp) tg1 iter1 (tI ζ X.K it1)) (hg1 : ∀ s H C cl fp, PG (Cb X scope s H C cl fp) tg1 (gPat ζ X.K p1)) (ht1 : ∀ s H C cl fp, PTs (Cb X scope s H C cl fp) ifs1 (tT ζ X.K tt1)) (he : ∀ s H C cl fp, PE (Cb X scope s H C cl fp) elt (tE ζ X.K te))
    (hs : ∀ x, foldedSetIterable iter X.env x = pure x := by intro _; rfl) (hs1 : ∀ env x, foldedSetIterable iter1 env x = pure x := by intro _ _; rfl) :
    PE X (.ListComp elt [⟨tg, iter, ifs, 0⟩, ⟨tg1, iter1, ifs1, 0⟩] scope pos) (tN ζ X.K (nComp2 it p (own.map (·.2)) tt it1 p1 (own1.map (·.2)) tt1 te)) := pe_imp (pe_lc2 hc hN hi ok hv hg ht hi1 hg1 ht1 he hs hs1) fun _ _ _ q => lc2_imp hw hw1 q
theorem s_setC2 {i : Nat} {y : Str} {py : Pos} {elt tg iter tg1 iter1 : Expr} {ifs ifs1 : List Expr} {scope : Scope} {own own1 : List (Str × Nat)} {pos spos : Pos} {it it1 : IF} {p p1 : Pat} {tt tt1 : TF} {te : EF} (hc : X.calm = true) (hN : X.N.Nodup) (hy : X.N[i]? = some y) (hyl : X.env.scope.names.lookup y = some .local)
    (hsw : swapsWith (.ListComp elt [⟨tg, iter, ifs, 0⟩, ⟨tg1, iter1, ifs1, 0⟩] scope pos) (some (.Name y py)) spos.line X.env = pure true) (hi : PI X tg iter (tI ζ X.K it)) (ok : BlkOk X.N X.env.scope scope own) (hw : p.within (own.map (·.2)) = true) (hw1 : p1.within (own1.map (·.2)) = true) (hv : ∀ i ∈ own1.map (·.2), i ∈ own.map (·.2))
    (hg : ∀ s H C cl fp, PG (Cb X scope s H C cl fp) tg (gPat ζ X.K p)) (ht : ∀ s H C cl fp, PTs (Cb X scope s H C cl fp) ifs (tT ζ X.K tt)) (hi1 : ∀ s H C cl fp, PI (Cb X scope s H C cl fp) tg1 iter1 (tI ζ X.K it1)) (hg1 : ∀ s H C cl fp, PG (Cb X scope s H C cl fp) tg1 (gPat ζ X.K p1)) (ht1 : ∀ s H C cl fp, PTs (Cb X scope s H C cl fp) ifs1 (tT ζ X.K tt1)) (he : ∀ s H C cl fp, PE (Cb X scope s H C cl fp) elt (tE ζ X.K te))
    (hs : ∀ x, foldedSetIterable iter X.env x = pure x := by intro _; rfl) (hs1 : ∀ env x, foldedSetIterable iter1 env x = pure x := by intro _ _; rfl) :
    PS X (.Assign [.Name y py] (.ListComp elt [⟨tg, iter, ifs, 0⟩, ⟨tg1, iter1, ifs1, 0⟩] scope pos) spos) (tS ζ X.K (sAsg (eL (nComp2 it p (own.map (·.2)) tt it1 p1 (own1.map (·.2)) tt1 te)) (gNm i))) := ps_imp (ps_setLc2 hc hN hy hyl hsw hi ok hv hg ht hi1 hg1 ht1 he hs hs1) fun W σ H q => by
  obtain ⟨φ, env, m, fl, S, E, hf, k⟩ := q
  obtain ⟨⟨r1, m1⟩, h1, hf⟩ := bind_some_iff hf
  obtain ⟨⟨ds, m2⟩, h2, h1⟩ := bind_some_iff h1
  cases h1
  cases hf
  refine lc2_imp hw hw1 ⟨φ, env, m, ds, m2, S, E, h2, fun φ1 H1 p vs g1 S1 hp hd => ?_⟩
  have g2 := g1.trans (gr_alloc (o := .lst vs) hp)
  exact k φ1 _ _ g2 (S1.alloc hp) ((E.mono g2).set (rr_newL S1 hp hd) i)
end
end Ev

set_option Elab.async false
set_option linter.all false
set_option maxRecDepth 100000
/-! Comprehensions of two clauses: dicts, with keys of either kind. -/
namespace Ev
open PySem PySem.Spec PyProof.Rows L2
section
variable {prog : Program} {w : World} {A : Around} {R : Result → Shared → Prop} {s : Shared} {kx vx ta ia tb ib : Expr} {fa fb : List Expr} {scope : Scope} {pos : Pos} {it : Value} {D : Addr} {env : Env}
/-- a comprehension {kx: vx for ta in ia if fa for tb in ib if fb} -/
abbrev DC2 (kx vx ta ia tb ib : Expr) (fa fb : List Expr) (scope : Scope) (pos : Pos) : Expr := .DictComp kx vx [⟨ta, ia, fa, 0⟩, ⟨tb, ib, fb, 0⟩] scope pos
theorem turnD2_0 : compTurn (DC2 kx vx ta ia tb ib fa fb scope pos) 0 it (.ref D) env = (do
      standAt ia.pos
      match ← pyNext it with
      | none => pure (.done .next)
      | some v =>
        letOwnedTupleGo ta it v
        assign ta env v
        let mut ok := true
        for c in fa do
          if ok then ok ← isTrue c env (eval c env)
        if ok then
          let z ← eval ib env
          standAt ib.pos
          let z ← foldedSetIterable ib env z
          let _ ← runOwn (.compStart (DC2 kx vx ta ia tb ib fa fb scope pos) 1 (← holding [z] (pyIter z)) (.ref D) env) env
        again (.compLoop (DC2 kx vx ta ia tb ib fa fb scope pos) 0 it (.ref D) env)) := by rfl
theorem turnD2_1 : compTurn (DC2 kx vx ta ia tb ib fa fb scope pos) 1 it (.ref D) env = (do
      standAt ib.pos
      match ← pyNext it with
      | none => pure (.done .next)
      | some v =>
        letOwnedTupleGo tb it v
        assign tb env v
        let mut ok := true
        for c in fb do
          if ok then ok ← isTrue c env (eval c env)
        if ok then
          (do
            let kk ← eval kx env
            let vv ← holding [kk] (eval vx env)
            standAt { kx.pos with endLine := vx.pos.endLine, endCol := vx.pos.endCol }
            holding [kk, vv] (dictSet D kk vv))
        again (.compLoop (DC2 kx vx ta ia tb ib fa fb scope pos) 1 it (.ref D) env)) := by rfl
/-- what is noted of an error -/
abbrev Nb (prog : Program) (w : World) (A : Around) (env : Env) (R : Result → Shared → Prop) : Value → Shared → Prop := notedBy (model prog w) A env fun e s' => R (.error e) s'
theorem loopD2_0 (hs : ∀ x, foldedSetIterable ib env x = pure x) (I : Nat → Shared → Prop)
    (turn : ∀ n s, I n s → wpAny (model prog w) A (pyNext it) (fun r s₁ => match r with
      | none => R (.ok .next) s₁
      | some v => wpAny (model prog w) A (letOwnedTupleGo ta it v) (fun _ sb => wpAny (model prog w) A (assign ta env v) (fun _ s₂ =>
          wpAny (model prog w) A (forIn fa true fun c r => if r = true then do let ok ← isTrue c env (eval c env); pure (ForInStep.yield ok) else pure (ForInStep.yield r)) (fun ok s₃ =>
            if ok = true then wpAny (model prog w) A (eval ib env) (fun x s₄ => wpAny (model prog w) A (pyIter x) (fun itb s₅ =>
              codeAny (model prog w) A (.compStart (DC2 kx vx ta ia tb ib fa fb scope pos) 1 itb (.ref D) env) (fun r s' => match r with
                | .ok _ => ∃ m, m < n ∧ I m s'
                | .error _ => False) s₅) (Nb prog w A env R) s₄) (Nb prog w A env R) s₃
            else ∃ m, m < n ∧ I m s₃) (Nb prog w A env R) s₂) (Nb prog w A env R) sb) (Nb prog w A env R) s₁) (Nb prog w A env R) s)
    (n : Nat) (h : I n s) : codeAny (model prog w) A (.compLoop (DC2 kx vx ta ia tb ib fa fb scope pos) 0 it (.ref D) env) R s := by
  refine codeAny_loop rfl I (fun n s hI => ?_) n h
  show wpAny _ A ((compTurn (DC2 kx vx ta ia tb ib fa fb scope pos) 0 it (.ref D) env).onRaise (fun x => do noteFrame x env; theTreesLotGoes x)) _ _ s
  refine wpAny_noted ?_
  rw [turnD2_0]
  refine wpAny_bind (wpAny_standAt (wpAny_bind (wpAny_mono (turn n s hI) (fun r s₁ e1 => ?_) fun _ _ q => q)))
  cases r with
  | none => exact wpAny_pure e1
  | some v =>
    refine wpAny_bind (wpAny_mono e1 (fun _ sb e2 => ?_) fun _ _ q => q)
    refine wpAny_bind (wpAny_mono e2 (fun _ s₂ e3 => wpAny_bind (wpAny_mono e3 (fun ok s₃ e4 => ?_) fun _ _ q => q)) fun _ _ q => q)
    cases ok with
    | false => exact wpAny_pure ⟨rfl, e4⟩
    | true =>
      refine wpAny_bind (wpAny_mono e4 (fun x s₄ e5 => ?_) fun _ _ q => q)
      refine wpAny_bind (wpAny_standAt (wpAny_bind (wpAny_of_eq (hs x) (wpAny_bind (wpAny_holding (wpAny_mono e5 (fun itb s₅ e6 => ?_) fun _ _ q => q))))))
      refine wpAny_bind (wpAny_runOwn ?_)
      rw [Around.mark_none]
      refine codeAny_mono e6 fun r s' hr => ?_
      cases r with
      | ok f =>
        first
          | exact wpAny_pure ⟨rfl, hr⟩
          | exact wpAny_bind (wpAny_pure (wpAny_pure ⟨rfl, hr⟩))
      | error e => exact hr.elim
theorem loopD2_1 (I : Nat → Shared → Prop)
    (turn : ∀ n s, I n s → wpAny (model prog w) A (pyNext it) (fun r s₁ => match r with
      | none => R (.ok .next) s₁
      | some v => wpAny (model prog w) A (letOwnedTupleGo tb it v) (fun _ sb => wpAny (model prog w) A (assign tb env v) (fun _ s₂ =>
          wpAny (model prog w) A (forIn fb true fun c r => if r = true then do let ok ← isTrue c env (eval c env); pure (ForInStep.yield ok) else pure (ForInStep.yield r)) (fun ok s₃ =>
            if ok = true then wpAny (model prog w) A (eval kx env) (fun kk s₄ => wpAny (model prog w) A (eval vx env) (fun vv s₅ =>
              wpAny (model prog w) A (dictSet D kk vv) (fun _ s₆ => ∃ m, m < n ∧ I m s₆) (Nb prog w A env R) s₅) (Nb prog w A env R) s₄) (Nb prog w A env R) s₃
            else ∃ m, m < n ∧ I m s₃) (Nb prog w A env R) s₂) (Nb prog w A env R) sb) (Nb prog w A env R) s₁) (Nb prog w A env R) s)
    (n : Nat) (h : I n s) : codeAny (model prog w) A (.compLoop (DC2 kx vx ta ia tb ib fa fb scope pos) 1 it (.ref D) env) R s := by
  refine codeAny_loop rfl I (fun n s hI => ?_) n h
  show wpAny _ A ((compTurn (DC2 kx vx ta ia tb ib fa fb scope pos) 1 it (.ref D) env).onRaise (fun x => do noteFrame x env; theTreesLotGoes x)) _ _ s
  refine wpAny_noted ?_
  rw [turnD2_1]
  refine wpAny_bind (wpAny_standAt (wpAny_bind (wpAny_mono (turn n s hI) (fun r s₁ e1 => ?_) fun _ _ q => q)))
  cases r with
  | none => exact wpAny_pure e1
  | some v =>
    refine wpAny_bind (wpAny_mono e1 (fun _ sb e2 => ?_) fun _ _ q => q)
    refine wpAny_bind (wpAny_mono e2 (fun _ s₂ e3 => wpAny_bind (wpAny_mono e3 (fun ok s₃ e4 => ?_) fun _ _ q => q)) fun _ _ q => q)
    cases ok with
    | false => exact wpAny_pure ⟨rfl, e4⟩
    | true =>
      exact wpAny_bind (wpAny_bind (wpAny_mono e4 (fun kk s₄ e5 => wpAny_bind (wpAny_holding (wpAny_mono e5 (fun vv s₅ e6 => wpAny_bind (wpAny_standAt (wpAny_holding (wpAny_mono e6 (fun _ s₆ e7 => wpAny_pure ⟨rfl, e7⟩) fun _ _ q => q)))) fun _ _ q => q))) fun _ _ q => q))
theorem startD2_1 (h0 : codeAny (model prog w) A (.compLoop (DC2 kx vx ta ia tb ib fa fb scope pos) 1 it (.ref D) env) R s)
    (h : wpAny (model prog w) A (pyIter it) (fun it' s' => codeAny (model prog w) A (.compLoop (DC2 kx vx ta ia tb ib fa fb scope pos) 1 it' (.ref D) env) R s') (Nb prog w A env R) s) :
    codeAny (model prog w) A (.compStart (DC2 kx vx ta ia tb ib fa fb scope pos) 1 it (.ref D) env) R s := by
  refine codeAny_of_tree ?_
  show wpAny _ _ ((compStart (DC2 kx vx ta ia tb ib fa fb scope pos) 1 it (.ref D) env).onRaise (fun x => do noteFrame x env; standAt theWindowsPlace)) _ _ s
  refine wpAny_notedAt ?_
  unfold compStart
  show wpAny _ _ (ask >>= _) _ _ s
  refine wpAny_bind (wpAny_askSetting (wpAny_ite ?_))
  split
  · first
      | exact wpAny_bind (wpAny_pure (wpAny_pure (And.intro rfl h0)))
      | exact wpAny_pure (And.intro rfl h0)
  · first
      | exact wpAny_bind (wpAny_rule (wpAny_bind (wpAny_standAt (wpAny_bind (wpAny_mono h (fun _ _ z => wpAny_pure (And.intro rfl z)) fun _ _ x => x)))))
      | (refine wpAny_bind (wpAny_rule ?_); show wpAny _ _ (standAt ib.pos >>= _) _ _ s; exact wpAny_bind (wpAny_standAt (wpAny_bind (wpAny_mono h (fun _ _ z => wpAny_pure (And.intro rfl z)) fun _ _ x => x))))
end
section
variable {X : Cx}
/-- d[y] = z by a comprehension, the object of either kind; p: what follows -/
def putP (X : Cx) (t : Bool) (D : Addr) (y z : V) (H : Hp) (Q : Hp → Prop) : Prop := match t with
  | false => ∃ kvs k, y = kV k ∧ H D = some (.dK kvs) ∧ kvs.length < sizeLine ∧ Q (upd H D (.dK (putK kvs k z)))
  | true => ∃ P w es kvs d kn b, y = .ref b ∧ H D = some (.ext (XD P w D es)) ∧ NOk X.K H es kvs ∧ keyN d = some kn ∧ kn.depth ≤ 8 ∧ Dp X.K H y d ∧ es.length < sizeLine ∧ Q (upd H D (.ext (XD X.prog X.w D (putE es kn b z))))
def newO (X : Cx) (t : Bool) (D : Addr) : HO := match t with
  | false => .dK []
  | true => .ext (XD X.prog X.w D [])
theorem putP_run {t : Bool} {pins : List (Addr × Obj)} {σ : L2.St} {H : Hp} {s : Shared} {D : Addr} {y z : V} {u r : Value} {Q : Unit → Shared → Prop} {E : Value → Shared → Prop} {N : Hp → Prop} (hr : t = true → X.A.units + 9 < cLine) (I : Inv X pins σ H s) (ry : RelV y u) (rz : RelV z r) (h : putP X t D y z H N) (k : ∀ H' s', Inv X pins σ H' s' → N H' → Q () s') :
    wpAny (model X.prog X.w) X.A (dictSet D u r) Q E s := by
  cases t with
  | false =>
    obtain ⟨kvs, kk, rfl, hD, hl, n⟩ := h
    exact d_dictSet I hD hl ry rz fun s' I' => k _ s' I' n
  | true =>
    obtain ⟨P, w, es, kvs, d, kn, b, rfl, hD, h2, e0, e4, R2, hlen, n⟩ := h
    obtain ⟨_, hd, xs, rel, dd⟩ := xd_rd I (lkd_rd (lk := false) hD) h2
    obtain rfl : u = Value.ref b := ry
    have nk := nested_of I e0 R2 (show RelV (.ref b) (.ref b) from rfl)
    have hx : xs.length ≤ sizeLine := by rw [← Paired.len rel]; omega
    have hu := hr rfl
    refine wpAny_dictSet_heap (hsz := hx) (knd := nestedKind X.prog X.w) (show X.A.units + 8 < cLine by omega) ⟨nk, e4⟩ dd fun h' dd' hs => ?_
    have rel' := rel.put kn b rz
    have hl2 : (putE es kn b z).length ≤ sizeLine := by
      unfold putE
      split
      · rw [List.length_map]; omega
      · rw [List.length_append, List.length_cons, List.length_nil]; omega
    obtain ⟨o', ea, ep, q1, q2, q3, q4, q5, q6⟩ := dd'
    have new : ObjOk X.prog X.w (upd H D (.ext (XD X.prog X.w D (putE es kn b z)))) h' D (.ext (XD X.prog X.w D (putE es kn b z))) :=
      ⟨⟨hl2, hd, _, rel', o', ea, ep, q1, q2, q3, q4, q6⟩, ⟨o', q1⟩, fun g1 g2 ⟨y1, y2, y3, y4, y5, y6, y7, y8, y9⟩ kp => ⟨y1, y2, y3, y4, y5, y6, y7, kp _ y8, y9⟩⟩
    have I' := d_write (t' := s.toks + (nestedKind X.prog X.w).draws kn) I (by rw [hD]; exact True.intro) hs ⟨o', q1⟩ new
    exact k _ _ I' n
def tDc2 (X : Cx) (t : Bool) (wi : TI) (g : TG) (tt : TT) (wi1 : TI) (g1 : TG) (tt1 : TT) (tk tv : TE) (vs vs1 : List Nat) : TE := fun σ H Q => wi σ H fun J Hb => ∀ D, Hb D = none → ∃ W : Nat → Nat → Hp → Prop, (∃ m, W 0 m (upd Hb D (newO X t D))) ∧ ∀ i m H, W i m H →
  (J.stop i H ∧ Q (.ref D) H) ∨ (J.go i H ∧ ∃ Nx : Hp → Prop, (∀ Ha, Nx Ha → ∃ m2, m2 < m ∧ W (i + 1) m2 Ha) ∧ ∀ x Ha, J.yld i H x Ha → g x (wipe σ vs) Ha fun σb Hc => wipe σb vs = wipe σ vs ∧ tt σb Hc fun b Hd =>
    if b = true then wi1 σb Hd fun J1 He => ∃ V1 : Nat → Nat → Hp → Prop, (∃ m, V1 0 m He) ∧ ∀ j k H, V1 j k H →
      (J1.stop j H ∧ Nx H) ∨ (J1.go j H ∧ ∃ Ny : Hp → Prop, (∀ Ha, Ny Ha → ∃ k2, k2 < k ∧ V1 (j + 1) k2 Ha) ∧ ∀ x Ha, J1.yld j H x Ha → g1 x (wipe σb vs1) Ha fun σc Hf => wipe σc vs1 = wipe σb vs1 ∧ tt1 σc Hf fun b Hg =>
        if b = true then tk σc Hg fun y Hi => tv σc Hi fun z Hj => putP X t D y z Hj Ny else Ny Hg)
    else Nx Hd)
abbrev AnyCb (X : Cx) (scope : Scope) (F : Cx → Prop) : Prop := ∀ (s : Shared) (H : Hp) (C : Addr) (cl : List (Str × Addr)) (fp : List Addr), F (X.blk s H scope (compEnvC scope cl C X.env) fp)
theorem dc2_core {t : Bool} {pins : List (Addr × Obj)} {s : Shared} {σ : L2.St} {H : Hp} {Q : VK} {kx vx ta ia tb ib : Expr} {fa fb : List Expr} {scope : Scope} {own : List (Str × Nat)} {vs1 : List Nat} {pos pos' : Pos} {wi wi1 : TI} {g g1 : TG} {tt tt1 : TT} {tk tv : TE} {use : Option (Value → Sem Unit)} {Qf : Value → Shared → Prop}
    (hr : t = true → X.A.units + 9 < cLine) (hc : X.calm = true) (hN : X.N.Nodup) (I : Inv X pins σ H s) (hi : PI X ta ia wi) (ok : BlkOk X.N X.env.scope scope own) (hv : ∀ i ∈ vs1, i ∈ own.map (·.2))
    (hg : AnyCb X scope fun Z => PG Z ta g) (ht : AnyCb X scope fun Z => PTs Z fa tt) (hi1 : AnyCb X scope fun Z => PI Z tb ib wi1) (hg1 : AnyCb X scope fun Z => PG Z tb g1) (ht1 : AnyCb X scope fun Z => PTs Z fb tt1) (hk : AnyCb X scope fun Z => PE Z kx tk) (he : AnyCb X scope fun Z => PE Z vx tv)
    (hs : ∀ x, foldedSetIterable ia X.env x = pure x) (hs1 : ∀ env x, foldedSetIterable ib env x = pure x) (h : tDc2 X t wi g tt wi1 g1 tt1 tk tv (own.map (·.2)) vs1 σ H Q)
    (hRR : ∀ D C s' m Ha, Inv X pins σ Ha s' → Q (.ref D) Ha → s'.heap.Ns C m → FpOk X pins Ha C → compPost (model X.prog X.w) X.A X.xe use Qf (.ref D) C (.ok .next) s') :
    wpAny (model X.prog X.w) X.A (comprehension (DC2 kx vx ta ia tb ib fa fb scope pos) scope X.env pos' newDict false (eval ia X.env) use) Qf X.xe s := by
  have hfr : ∀ y ∈ scope.names, y.2 = .free → ∃ c, X.env.cells.lookup y.1 = some c := fun y hy e =>
    (ok.free y hy e).elim (fun z => I.ok.has _ (.inl z)) fun z => I.ok.has _ (.inr z)
  refine wpAny_comprehension_free (use := use) rfl hs (closure_ok hfr) ok.kind (fun y hy e => by rw [ok.uniq y hy, e])
    (thn (hi.run pins s σ H _ I h) fun xv s1 hx => thn hx fun itv s2 z2 => ?_)
  obtain ⟨it, fp, tn, J, H2, e, I2, T, st2, f2, q⟩ := z2
  subst e
  refine wpAny_newObj_type (newEnv_comp ?_)
  generalize hD : s2.heap.objs.size = D
  have hDn : H2 D = none := I2.hok.fresh (Nat.le_of_eq hD)
  obtain ⟨W, ⟨m0, w0⟩, turn⟩ := q D hDn
  generalize hs3 : ({ s2 with heap := s2.heap.push { cls := .type "dict", data := .dict #[] } } : Shared) = s3
  have I3 : Inv X pins σ (upd H2 D (newO X t D)) s3 := by
    rw [← hs3]
    refine I2.laid (t' := s2.toks) (fun _ _ e => Heap.get?_push_of_some _ e) (Nat.le_of_eq hD) ?_
    rw [← hD]
    cases t with
    | false => exact dk_empty s2.heap I2.big
    | true => exact xd_empty s2.heap I2.big
  have hp3 : s3.heap = s2.heap.push { cls := .type "dict", data := .dict #[] } := by rw [← hs3]
  have lt2 : ∀ b ∈ fp, b < s2.heap.objs.size := fun b hb => by
    obtain ⟨_, e, _⟩ := T.obj _ _ st2 b hb
    exact Heap.lt_size e
  have f3 : ∀ b ∈ fp, FpOk X pins (upd H2 D (newO X t D)) b ∧ b < s3.heap.objs.size := fun b hb => by
    have l := lt2 b hb
    refine ⟨⟨?_, (f2 b hb).2⟩, by rw [hp3, Heap.size_push]; exact Nat.lt_succ_of_lt l⟩
    rw [upd_ne (by rw [← hD]; exact Nat.ne_of_lt l)]
    exact (f2 b hb).1
  have st3 : tn 0 s3.heap := T.keep _ _ _ st2 fun b _ o e => by rw [hp3]; exact Heap.get?_push_of_some _ e
  have I4 := block_start I3 ok hN f3
  generalize hCl : cellsFrom (s3.heap.objs.size + 1) scope.names (cloFrom X.env.cells scope.names []) = cl at I4
  have pg := hg s3 (upd H2 D (newO X t D)) s3.heap.objs.size cl fp
  have pt := ht s3 (upd H2 D (newO X t D)) s3.heap.objs.size cl fp
  have pk := hk s3 (upd H2 D (newO X t D)) s3.heap.objs.size cl fp
  have pe := he s3 (upd H2 D (newO X t D)) s3.heap.objs.size cl fp
  have pib := hi1 s3 (upd H2 D (newO X t D)) s3.heap.objs.size cl fp
  have pgb := hg1 s3 (upd H2 D (newO X t D)) s3.heap.objs.size cl fp
  have ptb := ht1 s3 (upd H2 D (newO X t D)) s3.heap.objs.size cl fp
  show codeAny _ _ (.compStart (DC2 kx vx ta ia tb ib fa fb scope pos) 0 (.ref it) (.ref D) (compEnvC scope cl s3.heap.objs.size X.env)) (compPost (model X.prog X.w) X.A X.xe use Qf (.ref D) s3.heap.objs.size) { s3 with heap := pushCells (s3.heap.push { cls := .type "dict", data := .dict #[] }) scope.names }
  have nf3 : ∀ b ∈ fp, (upd H2 D (newO X t D)) b = none := fun b hb => (f3 b hb).1.1
  generalize hce : compEnvC scope cl s3.heap.objs.size X.env = ce at I4 pg pt pk pe pib pgb ptb ⊢
  have cL : ce.locals = s3.heap.objs.size := by subst hce; rfl
  generalize hH3 : upd H2 D (newO X t D) = H3 at I3 I4 pg pt pk pe pib pgb ptb w0 nf3 f3
  generalize hs4 : ({ s3 with heap := pushCells (s3.heap.push { cls := .type "dict", data := .dict #[] }) scope.names } : Shared) = s4 at I4 ⊢
  have st4 : tn 0 s4.heap := T.keep _ _ _ st3 fun b _ o e => by rw [← hs4]; exact pushCells_keeps _ _ _ _ (Heap.get?_push_of_some _ e)
  generalize hZ : X.blk s3 H3 scope ce fp = Z at I4 pg pt pk pe pib pgb ptb
  have zp : Z.prog = X.prog ∧ Z.w = X.w ∧ Z.A = X.A ∧ Z.K = X.K ∧ Z.env = ce := by subst hZ; exact ⟨rfl, rfl, rfl, rfl, rfl⟩
  have stat : ∀ {τ : L2.St} {Ha : Hp} {sa : Shared}, Inv Z [] τ Ha sa → (∀ b ∈ fp, Ha b = none) → ∀ b ∈ fp, FpOk Z [] Ha b := fun {τ Ha sa} I' hn b hb => by
    subst hZ
    exact ⟨hn b hb, (I'.ok.exf b hb).1, I'.ok.exfs b hb, .inl hb, fun x c e => (I'.ok.exf b hb).2 x c e, fun p hp => absurd (show p ∈ ([] : List (Addr × Obj)) ++ [] from hp) (by simp)⟩
  have loop : codeAny (model X.prog X.w) X.A (.compLoop (DC2 kx vx ta ia tb ib fa fb scope pos) 0 (.ref it) (.ref D) ce) (compPost (model X.prog X.w) X.A X.xe use Qf (.ref D) s3.heap.objs.size) s4 := by
    refine loopD2_0 (hs1 ce) (fun n sa => ∃ i Ha, Inv Z [] (wipe σ (own.map (·.2))) Ha sa ∧ tn i sa.heap ∧ (∀ b ∈ fp, Ha b = none) ∧ W i n Ha) ?_ m0 ⟨0, H3, I4, st4, nf3, w0⟩
    rintro n s5 ⟨i, H5, I5, st5, n5, w5⟩
    subst hZ
    rcases turn i n H5 w5 with ⟨stop, qq⟩ | ⟨go, Nx, hNx, step⟩
    · refine thnF (T.done (X.blk s3 H3 scope ce fp) rfl rfl rfl hc i [] s5 _ H5 (fun _ _ => False) I5 (stat I5 n5) st5 stop) fun r s6 ⟨hr0, I6⟩ => ?_
      subst hr0
      have I7 : Inv X pins σ H5 s6 := I3.call' (ch := fp) I6.os I6.base I6.hok I6.bare fun b hb => ⟨(f3 b hb).1.2.2.2.1, (f3 b hb).1.2.1, (f3 b hb).1.2.2.2.2.1, (f3 b hb).1.2.2.2.2.2⟩
      have nC : H5 s3.heap.objs.size = none := by
        have z : H5 ce.locals = none := I6.free
        rwa [cL] at z
      obtain ⟨m, hn, _⟩ := I6.loc
      have hn : s6.heap.Ns ce.locals m := hn
      rw [cL] at hn
      exact hRR D _ s6 m H5 I7 qq hn (I3.fpOk (Nat.le_refl _) nC)
    · refine thnF (T.item (X.blk s3 H3 scope ce fp) rfl rfl rfl hc i [] s5 _ H5 (fun _ _ => False) I5 (stat I5 n5) st5 go) fun r s6 ⟨u, hr0, z6⟩ => ?_
      subst hr0
      refine thnF z6 fun _ s7 ⟨x, H7, I7, r7, y7, st7, n7⟩ => ?_
      refine thnF (pg.run _ s7 _ H7 x u _ (I7.pinned (stat I7 n7) (T.obj _ _ st7)) r7 (step x H7 y7)) fun _ s8 ⟨σ8, H8, I8, hw8, q8⟩ => ?_
      refine thnF (pt.run _ s8 σ8 H8 _ I8 q8) fun b s9 ⟨H9, I9, q9⟩ => ?_
      have fin : ∀ {τ : L2.St} {sa : Shared} {Ha : Hp}, Inv (X.blk s3 H3 scope ce fp) ([] ++ pinsAt fp s7.heap) τ Ha sa → (wipe σ (own.map (·.2))).length = τ.length → (∀ (j : Nat) v, (wipe σ (own.map (·.2)))[j]? = some (some v) → τ[j]? = some (some v)) → Nx Ha →
          ∃ m, m < n ∧ ∃ i Ha, Inv (X.blk s3 H3 scope ce fp) [] (wipe σ (own.map (·.2))) Ha sa ∧ tn i sa.heap ∧ (∀ b ∈ fp, Ha b = none) ∧ W i m Ha := fun {τ sa Ha} I' hl hk nx => by
        obtain ⟨m2, hm, w2⟩ := hNx Ha nx
        have pn : ∀ b ∈ fp, ∀ o, s7.heap.get? b = some o → sa.heap.get? b = some o ∧ Ha b = none := fun b hb o e =>
          let z := I'.pin (b, o) (List.mem_append_right _ (List.mem_append_right _ (mem_pinsAt hb e)))
          ⟨z.1, z.2.1⟩
        refine ⟨m2, hm, i + 1, Ha, (I'.unpinned (pins := [])).weak hl hk, T.keep _ _ _ st7 fun b hb o e => (pn b hb o e).1, fun b hb => ?_, w2⟩
        obtain ⟨o, e, _⟩ := T.obj _ _ st7 b hb
        exact (pn b hb o e).2
      have hl8 : (wipe σ (own.map (·.2))).length = σ8.length := by rw [← hw8, wipe_length]
      have hk8 : ∀ (j : Nat) v, (wipe σ (own.map (·.2)))[j]? = some (some v) → σ8[j]? = some (some v) := fun j v e => (wipe_some (hw8 ▸ e)).1
      have hk9 : ∀ (j : Nat) v, (wipe σ (own.map (·.2)))[j]? = some (some v) → (wipe σ8 vs1)[j]? = some (some v) := fun j v e => by
        obtain ⟨e1, e2⟩ := wipe_some (hw8 ▸ e)
        rw [L2.wipe_out fun z => e2 (hv j z)]
        exact e1
      cases b with
      | false =>
        simp only [Bool.false_eq_true, if_false] at q9 ⊢
        exact fin I9 hl8 hk8 q9
      | true =>
        simp only [if_true] at q9 ⊢
        refine thnF (pib.run _ s9 σ8 H9 _ I9 q9) fun xv s10 hx => thnF hx fun itv s11 z11 => ?_
        obtain ⟨itb, fpb, tb1, J1, H11, e1, I11, T1, st11, f11, V1, ⟨m1, v1⟩, turn1⟩ := z11
        subst e1
        have stat1 : ∀ {Ha : Hp}, (∀ b ∈ fpb, Ha b = none) → ∀ b ∈ fpb, FpOk (X.blk s3 H3 scope ce fp) ([] ++ pinsAt fp s7.heap) Ha b := fun hn b hb => ⟨hn b hb, (f11 b hb).2⟩
        have inner : codeAny (model X.prog X.w) X.A (.compLoop (DC2 kx vx ta ia tb ib fa fb scope pos) 1 (.ref itb) (.ref D) ce)
            (fun r sa => match r with
              | .ok _ => ∃ m, m < n ∧ ∃ i Ha, Inv (X.blk s3 H3 scope ce fp) [] (wipe σ (own.map (·.2))) Ha sa ∧ tn i sa.heap ∧ (∀ b ∈ fp, Ha b = none) ∧ W i m Ha
              | .error _ => False) s11 := by
          refine loopD2_1 (fun k sa => ∃ j Ha, Inv (X.blk s3 H3 scope ce fp) ([] ++ pinsAt fp s7.heap) (wipe σ8 vs1) Ha sa ∧ tb1 j sa.heap ∧ (∀ b ∈ fpb, Ha b = none) ∧ V1 j k Ha) ?_ m1 ⟨0, H11, I11.weak (wipe_length _ _) (fun _ _ e => (wipe_some e).1), st11, fun b hb => (f11 b hb).1, v1⟩
          rintro k s12 ⟨j, H12, I12, st12, n12, v12⟩
          rcases turn1 j k H12 v12 with ⟨stop1, nx1⟩ | ⟨go1, Ny, hNy, step1⟩
          · refine thnF (T1.done (X.blk s3 H3 scope ce fp) rfl rfl rfl hc j _ s12 (wipe σ8 vs1) H12 (fun _ _ => False) I12 (stat1 n12) st12 stop1) fun r s13 ⟨hr0, I13⟩ => ?_
            subst hr0
            exact fin I13 (hl8.trans (wipe_length σ8 vs1).symm) hk9 nx1
          · refine thnF (T1.item (X.blk s3 H3 scope ce fp) rfl rfl rfl hc j _ s12 (wipe σ8 vs1) H12 (fun _ _ => False) I12 (stat1 n12) st12 go1) fun r s13 ⟨u1, hr0, z13⟩ => ?_
            subst hr0
            refine thnF z13 fun _ s14 ⟨x1, H14, I14, r14, y14, st14, n14⟩ => ?_
            refine thnF (pgb.run _ s14 (wipe σ8 vs1) H14 x1 u1 _ (I14.pinned (stat1 n14) (T1.obj _ _ st14)) r14 (step1 x1 H14 y14)) fun _ s15 ⟨σ15, H15, I15, hw15, q15⟩ => ?_
            refine thnF (ptb.run _ s15 σ15 H15 _ I15 q15) fun b1 s16 ⟨H16, I16, q16⟩ => ?_
            have fin1 : ∀ {sa : Shared} {Ha : Hp}, Inv (X.blk s3 H3 scope ce fp) (([] ++ pinsAt fp s7.heap) ++ pinsAt fpb s14.heap) σ15 Ha sa → Ny Ha → ∃ m, m < k ∧ ∃ j Ha, Inv (X.blk s3 H3 scope ce fp) ([] ++ pinsAt fp s7.heap) (wipe σ8 vs1) Ha sa ∧ tb1 j sa.heap ∧ (∀ b ∈ fpb, Ha b = none) ∧ V1 j m Ha := fun {sa Ha} I' nx => by
              obtain ⟨m2, hm, w2⟩ := hNy Ha nx
              have pn : ∀ b ∈ fpb, ∀ o, s14.heap.get? b = some o → sa.heap.get? b = some o ∧ Ha b = none := fun b hb o e =>
                let z := I'.pin (b, o) (List.mem_append_right _ (List.mem_append_right _ (mem_pinsAt hb e)))
                ⟨z.1, z.2.1⟩
              refine ⟨m2, hm, j + 1, Ha, I'.unpinned.weak (by rw [← hw15, wipe_length]) (fun _ _ e => (wipe_some (hw15 ▸ e)).1), T1.keep _ _ _ st14 fun b hb o e => (pn b hb o e).1, fun b hb => ?_, w2⟩
              obtain ⟨o, e, _⟩ := T1.obj _ _ st14 b hb
              exact (pn b hb o e).2
            cases b1 with
            | false =>
              simp only [Bool.false_eq_true, if_false] at q16 ⊢
              exact fin1 I16 q16
            | true =>
              simp only [if_true] at q16 ⊢
              refine thnF (pk.run _ s16 σ15 H16 _ I16 q16) fun yk s17 ⟨y, H17, I17, r17, q17⟩ => ?_
              refine thnF (pe.run _ s17 σ15 H17 _ I17 q17) fun yv s18 ⟨z, H18, I18, r18, q18⟩ => ?_
              exact putP_run (X := X.blk s3 H3 scope ce fp) hr I18 r17 r18 q18 fun Ha sa I19 nx => fin1 I19 nx
        exact startD2_1 inner (T1.self X.A 0 _ _ _ st11 inner)
  exact codeAny_compStart_dict loop (T.self X.A 0 _ _ _ st4 loop)
theorem pe_dc2 {t : Bool} {kx vx ta ia tb ib : Expr} {fa fb : List Expr} {scope : Scope} {own : List (Str × Nat)} {vs1 : List Nat} {pos : Pos} {wi wi1 : TI} {g g1 : TG} {tt tt1 : TT} {tk tv : TE}
    (hr : t = true → X.A.units + 9 < cLine) (hc : X.calm = true) (hN : X.N.Nodup) (hi : PI X ta ia wi) (ok : BlkOk X.N X.env.scope scope own) (hv : ∀ i ∈ vs1, i ∈ own.map (·.2))
    (hg : AnyCb X scope fun Z => PG Z ta g) (ht : AnyCb X scope fun Z => PTs Z fa tt) (hi1 : AnyCb X scope fun Z => PI Z tb ib wi1) (hg1 : AnyCb X scope fun Z => PG Z tb g1) (ht1 : AnyCb X scope fun Z => PTs Z fb tt1) (hk : AnyCb X scope fun Z => PE Z kx tk) (he : AnyCb X scope fun Z => PE Z vx tv)
    (hs : ∀ x, foldedSetIterable ia X.env x = pure x) (hs1 : ∀ env x, foldedSetIterable ib env x = pure x) : PE X (DC2 kx vx ta ia tb ib fa fb scope pos) (tDc2 X t wi g tt wi1 g1 tt1 tk tv (own.map (·.2)) vs1) := by
  refine ⟨fun pins s σ H Q I h => ?_⟩
  rw [arm_eval_DictComp]
  refine dc2_core hr hc hN I hi ok hv hg ht hi1 hg1 ht1 hk he hs hs1 h fun D C s' m Ha I' q hn f => ⟨m, hn, fun hb sb => ?_⟩
  obtain ⟨a0, a1, a2, a3, a4, a5⟩ := f
  exact ⟨.ref D, Ha, I'.turned (t' := s'.toks) (fun b o hb e => (sb.2 b hb).trans e) a0 a1 a3 a4 a5, rfl, q⟩
end
end Ev

set_option Elab.async false
set_option linter.all false
set_option maxRecDepth 100000
/-! Comprehensions of two clauses: dicts, by evaluators; t.index(x). -/
namespace Ev
open PySem PySem.Spec PyProof.Rows L2
def dputT (t : Bool) (k0 : Nat) (a b : R) (m : M) : Option M := match a, b with
  | .val d, .val v => match m[k0]? with
    | some (.dct t2 false kvs) => if t2 = t ∧ keyOk t d = true ∧ kvs.length < sizeLine then some (m.set k0 (.dct t false (putD t kvs d v))) else none
    | _ => none
  | _, _ => none
theorem dputT_some {t : Bool} {k0 : Nat} {a b : R} {m m' : M} (h : dputT t k0 a b m = some m') : ∃ d v kvs, a = .val d ∧ b = .val v ∧ m[k0]? = some (.dct t false kvs) ∧ keyOk t d = true ∧ kvs.length < sizeLine ∧ m' = m.set k0 (.dct t false (putD t kvs d v)) := by
  unfold dputT at h
  split at h
  · rename_i d v
    split at h
    · rename_i t2 kvs hm
      split at h
      · rename_i hc
        obtain ⟨h1, h2, h3⟩ := hc
        subst h1
        cases h
        exact ⟨d, v, kvs, rfl, rfl, hm, h2, h3, rfl⟩
      · cases h
    · cases h
  · cases h
def dcl1 (t : Bool) (src : Src) (p : Pat) (tt : TF) (tk tv : EF) (env : Sl) (k0 : Nat) : Nat → Nat → M → Option M
  | 0, i, m => (src i m).bind fun o => match o with
    | none => some m
    | some _ => none
  | n + 1, i, m => (src i m).bind fun o => match o with
    | none => some m
    | some d => (bindP p d env).bind fun e => (tt e m).bind fun c => if c.1 = true then (tk e c.2).bind fun y => (tv e y.2).bind fun z => (dputT t k0 y.1 z.1 z.2).bind fun m' => dcl1 t src p tt tk tv env k0 n (i + 1) m' else dcl1 t src p tt tk tv env k0 n (i + 1) c.2
def dcl2 (t : Bool) (src : Src) (p : Pat) (tt : TF) (it1 : IF) (p1 : Pat) (vs1 : List Nat) (tt1 : TF) (tk tv : EF) (env : Sl) (k0 : Nat) : Nat → Nat → M → Option M
  | 0, i, m => (src i m).bind fun o => match o with
    | none => some m
    | some _ => none
  | n + 1, i, m => (src i m).bind fun o => match o with
    | none => some m
    | some d => (bindP p d env).bind fun e => (tt e m).bind fun c => if c.1 = true then (it1 e c.2).bind fun x => (dcl1 t x.1.1 p1 tt1 tk tv (wipeE e vs1) k0 x.1.2 0 x.2).bind fun m' => dcl2 t src p tt it1 p1 vs1 tt1 tk tv env k0 n (i + 1) m' else dcl2 t src p tt it1 p1 vs1 tt1 tk tv env k0 n (i + 1) c.2
def eDc2 (t : Bool) (it : IF) (p : Pat) (vs : List Nat) (tt : TF) (it1 : IF) (p1 : Pat) (vs1 : List Nat) (tt1 : TF) (tk tv : EF) : EF := fun env m => (it env m).bind fun x => (dcl2 t x.1.1 p tt it1 p1 vs1 tt1 tk tv (wipeE env vs) x.2.length x.1.2 0 (x.2 ++ [.dct t false []])).bind fun m' => some (.ref x.2.length, m')
section
variable {X : Cx}
/-- one pair put, at the readings' level -/
theorem putT_imp {t : Bool} {φ : Ad} {H : Hp} {m m' : M} {k0 : Nat} {D : Addr} {y z : V} {a b : R} {N : Hp → Prop} (S : SR ζ X.K φ H m) (hD : φ.s[k0]? = some D) (Ra : RR X.K φ H y a) (Rb : RR X.K φ H z b) (h : dputT t k0 a b m = some m')
    (k : ∀ H', Gr φ H φ H' → SR ζ X.K φ H' m' → N H') : putP X t D y z H N := by
  obtain ⟨d, v, kvs, rfl, rfl, hm, hk, hl, rfl⟩ := dputT_some h
  have hin : D ∈ φ.s := List.mem_of_getElem? hD
  have O := S.obj k0 _ D hm hD
  have nh := S.apart hin
  match t, O with
  | false, ⟨ks, h1, h2⟩ =>
    have h1' : H D = some (.dK ks) := h1
    obtain ⟨kk0, e0⟩ := Option.isSome_iff_exists.mp (show (keyK d).isSome = true from hk)
    exact ⟨ks, kk0, keyK_V e0 Ra, h1', by rw [Paired.len h2]; exact hl, k _ (gr_write hin nh (nf_dK h1')) (S.writeO hD ⟨_, upd_same, h2.put e0 Rb⟩)⟩
  | true, ⟨P, w, es, h1, h2⟩ =>
    have h1' : H D = some (.ext (XD P w D es)) := h1
    obtain ⟨kn, e0, e4, e5⟩ := keyOk_N hk
    obtain ⟨b, rfl⟩ := key_ref Ra e5
    exact ⟨P, w, es, kvs, d, kn, b, rfl, h1', h2.off, e0, e4, dp_mono off_same Ra, by rw [Paired.len h2]; exact hl, k _ (gr_write hin nh (nf_ext h1')) (S.writeO hD ⟨_, _, _, upd_same, h2.put e0 e4 Ra Rb⟩)⟩
theorem dc2_imp {t : Bool} {it : IF} {p : Pat} {vs : List Nat} {tt : TF} {it1 : IF} {p1 : Pat} {vs1 : List Nat} {tt1 : TF} {tk tv : EF} {σ : L2.St} {H : Hp} {Q : VK} (hw : p.within vs = true) (hw1 : p1.within vs1 = true) (q : tE ζ X.K (eDc2 t it p vs tt it1 p1 vs1 tt1 tk tv) σ H Q) :
    tDc2 X t (tI ζ X.K it) (gPat ζ X.K p) (tT ζ X.K tt) (tI ζ X.K it1) (gPat ζ X.K p1) (tT ζ X.K tt1) (tE ζ X.K tk) (tE ζ X.K tv) vs vs1 σ H Q := by
  obtain ⟨φ, env, m, r, m', S, E, hf, k⟩ := q
  obtain ⟨⟨⟨src, n⟩, m1⟩, h1, hf⟩ := bind_some_iff hf
  obtain ⟨m9', hf1, hf2⟩ := bind_some_iff hf
  cases hf2
  simp only at hf1
  refine ⟨φ, env, m, src, n, m1, S, E, h1, fun φ1 H1 J g1 S1 JJ => fun P hP => ?_⟩
  have E1 := E.mono g1
  have gP : Gr φ1 H1 (φ1.add P) (upd H1 P (newO X t P)) := gr_enter hP
  have SP : SR ζ X.K (φ1.add P) (upd H1 P (newO X t P)) (m1 ++ [.dct t false []]) := by
    cases t with
    | false => exact S1.enterO hP ⟨[], upd_same, .nil⟩
    | true => exact S1.enterO hP ⟨_, _, [], upd_same, .nil⟩
  have aP : (φ1.add P).s[m1.length]? = some P := by
    show (φ1.s ++ [P])[m1.length]? = some P
    rw [← S1.len, List.getElem?_append_right (Nat.le_refl _), Nat.sub_self]
    rfl
  generalize hHP : upd H1 P (newO X t P) = HP at gP SP ⊢
  refine ⟨fun i nn H => ∃ φ2 m2, Gr (φ1.add P) HP φ2 H ∧ SR ζ X.K φ2 H m2 ∧ dcl2 t src p tt it1 p1 vs1 tt1 tk tv (wipeE env vs) m1.length nn i m2 = some m', ⟨n, φ1.add P, _, .refl, SP, hf1⟩, ?_⟩
  intro i nn H2 ⟨φ2, m2, g2, S2, hc2⟩
  have gw : Gw φ1 H1 φ2 H2 := (gP.trans g2).w
  have cas : ∃ o, src i m2 = some o := by
    cases nn <;> (obtain ⟨o, ho, _⟩ := bind_some_iff hc2; exact ⟨o, ho⟩)
  obtain ⟨o, ho⟩ := cas
  cases o with
  | none =>
    have e : m2 = m' := by
      cases nn <;> (simp only [dcl2, ho, Option.bind_some] at hc2; cases hc2; rfl)
    subst e
    exact .inl ⟨JJ.stop _ _ m2 i gw S2 ho, k φ2 H2 (.ref P) (g1.trans (gP.trans g2)) S2 ⟨P, rfl, prefix_get g2.pre aP⟩⟩
  | some d =>
    cases nn with
    | zero => simp [dcl2, ho] at hc2
    | succ nn =>
      refine .inr ⟨JJ.go _ _ m2 i d gw S2 ho, fun H' => ∃ φ2 m2, Gr (φ1.add P) HP φ2 H' ∧ SR ζ X.K φ2 H' m2 ∧ dcl2 t src p tt it1 p1 vs1 tt1 tk tv (wipeE env vs) m1.length nn (i + 1) m2 = some m', fun H' z => ⟨nn, Nat.lt_succ_self nn, z⟩, fun x H3 hy => ?_⟩
      obtain ⟨g3, S3, R3⟩ := JJ.yld _ _ m2 i d x H3 gw S2 ho hy
      simp only [dcl2, ho, Option.bind_some] at hc2
      obtain ⟨e4, h4, hc2⟩ := bind_some_iff hc2
      obtain ⟨⟨b, m5⟩, h5, hc2⟩ := bind_some_iff hc2
      have E3 : ER X.K φ2 H3 (wipe σ vs) (wipeE env vs) := (er_wipe (E1.monoW gw) vs).mono g3
      obtain ⟨σ4, q4, E4, w4⟩ := bindP_ok p E3 R3 h4 hw
      refine q4 _ ⟨w4.trans (wipe_idem σ vs), ?_⟩
      refine ⟨φ2, e4, m2, b, m5, S3, E4, h5, fun φ5 H5 g5 S5 => ?_⟩
      have g35 := g2.trans (g3.trans g5)
      cases b with
      | false =>
        refine iteF ?_
        simp only [Bool.false_eq_true, if_false] at hc2
        exact ⟨φ5, m5, g35, S5, hc2⟩
      | true =>
        refine iteT ?_
        simp only [if_true] at hc2
        obtain ⟨⟨⟨src1, n1⟩, m6⟩, h6, hc2⟩ := bind_some_iff hc2
        obtain ⟨m7, h7, hc2⟩ := bind_some_iff hc2
        refine ⟨φ5, e4, m5, src1, n1, m6, S5, E4.mono g5, h6, fun φ6 H6 J1 g6 S6 JJ1 => ?_⟩
        have E6 : ER X.K φ6 H6 σ4 e4 := E4.mono (g5.trans g6)
        refine ⟨fun j kk H => ∃ φ7 m7', Gr φ6 H6 φ7 H ∧ SR ζ X.K φ7 H m7' ∧ dcl1 t src1 p1 tt1 tk tv (wipeE e4 vs1) m1.length kk j m7' = some m7, ⟨n1, φ6, m6, .refl, S6, h7⟩, ?_⟩
        intro j k7 H7 ⟨φ7, m70, g7, S7, hc7⟩
        have cas : ∃ o, src1 j m70 = some o := by
          cases k7 <;> (obtain ⟨o, ho, _⟩ := bind_some_iff hc7; exact ⟨o, ho⟩)
        obtain ⟨o7, ho7⟩ := cas
        cases o7 with
        | none =>
          have e : m70 = m7 := by
            cases k7 <;> (simp only [dcl1, ho7, Option.bind_some] at hc7; cases hc7; rfl)
          subst e
          exact .inl ⟨JJ1.stop _ _ m70 j g7.w S7 ho7, φ7, m70, g35.trans (g6.trans g7), S7, hc2⟩
        | some d7 =>
          cases k7 with
          | zero => simp [dcl1, ho7] at hc7
          | succ k7 =>
            refine .inr ⟨JJ1.go _ _ m70 j d7 g7.w S7 ho7, fun H' => ∃ φ7 m7', Gr φ6 H6 φ7 H' ∧ SR ζ X.K φ7 H' m7' ∧ dcl1 t src1 p1 tt1 tk tv (wipeE e4 vs1) m1.length k7 (j + 1) m7' = some m7, fun H' z => ⟨k7, Nat.lt_succ_self k7, z⟩, fun x8 H8 hy8 => ?_⟩
            obtain ⟨g8, S8, R8⟩ := JJ1.yld _ _ m70 j d7 x8 H8 g7.w S7 ho7 hy8
            simp only [dcl1, ho7, Option.bind_some] at hc7
            obtain ⟨e9, h9, hc7⟩ := bind_some_iff hc7
            obtain ⟨⟨b9, m10⟩, h10, hc7⟩ := bind_some_iff hc7
            have E8 : ER X.K φ7 H8 (wipe σ4 vs1) (wipeE e4 vs1) := (er_wipe (E6.mono g7) vs1).mono g8
            obtain ⟨σ9, q9, E9, w9⟩ := bindP_ok p1 E8 R8 h9 hw1
            refine q9 _ ⟨w9.trans (wipe_idem σ4 vs1), ?_⟩
            refine ⟨φ7, e9, m70, b9, m10, S8, E9, h10, fun φ10 H10 g10 S10 => ?_⟩
            have g610 := g7.trans (g8.trans g10)
            cases b9 with
            | false =>
              refine iteF ?_
              simp only [Bool.false_eq_true, if_false] at hc7
              exact ⟨φ10, m10, g610, S10, hc7⟩
            | true =>
              refine iteT ?_
              simp only [if_true] at hc7
              obtain ⟨⟨y, m11⟩, h11, hc7⟩ := bind_some_iff hc7
              obtain ⟨⟨z, m12⟩, h12, hc7⟩ := bind_some_iff hc7
              obtain ⟨m13, h13, hc7⟩ := bind_some_iff hc7
              refine ⟨φ10, e9, m10, _, m11, S10, E9.mono g10, h11, fun φ11 H11 v11 g11 S11 R11 => ?_⟩
              refine ⟨φ11, e9, m11, _, m12, S11, E9.mono (g10.trans g11), h12, fun φ12 H12 v12 g12 S12 R12 => ?_⟩
              have g612 := g610.trans (g11.trans g12)
              have aD := prefix_get (g35.trans (g6.trans g612)).pre aP
              exact putT_imp S12 aD (R11.mono g12) R12 h13 fun H13 g13 S13 => ⟨φ12, m13, g612.trans g13, S13, hc7⟩
theorem x_dc2 {t : Bool} {kx vx tg iter tg1 iter1 : Expr} {ifs ifs1 : List Expr} {scope : Scope} {own own1 : List (Str × Nat)} {pos : Pos} {it it1 : IF} {p p1 : Pat} {tt tt1 : TF} {tk tv : EF} (hr : t = true → X.A.units + 9 < cLine) (hc : X.calm = true) (hN : X.N.Nodup) (hi : PI X tg iter (tI ζ X.K it)) (ok : BlkOk X.N X.env.scope scope own) (hw : p.within (own.map (·.2)) = true) (hw1 : p1.within (own1.map (·.2)) = true) (hv : ∀ i ∈ own1.map (·.2), i ∈ own.map (·.2))
    (hg : ∀ s H C cl fp, PG (Cb X scope s H C cl fp) tg (gPat ζ X.K p)) (ht : ∀ s H C cl fp, PTs (Cb X scope s H C cl fp) ifs (tT ζ X.K tt)) (hi1 : ∀ s H C cl fp, PI (Cb X scope s H C cl fp) tg1 iter1 (tI ζ X.K it1)) (hg1 : ∀ s H C cl fp, PG (Cb X scope s H C cl fp) tg1 (gPat ζ X.K p1)) (ht1 : ∀ s H C cl fp, PTs (Cb X scope s H C cl fp) ifs1 (tT ζ X.K tt1)) (hk : ∀ s H C cl fp, PE (Cb X scope s H C cl fp) kx (tE ζ X.K tk)) (he : ∀ s H C cl fp, PE (Cb X scope s H C cl fp) vx (tE ζ X.K tv))
    (hs : ∀ x, foldedSetIterable iter X.env x = pure x := by intro _; rfl) (hs1 : ∀ env x, foldedSetIterable iter1 env x = pure x := by intro _ _; rfl) :
    PE X (.DictComp kx vx [⟨tg, iter, ifs, 0⟩, ⟨tg1, iter1, ifs1, 0⟩] scope pos) (tE ζ X.K (eDc2 t it p (own.map (·.2)) tt it1 p1 (own1.map (·.2)) tt1 tk tv)) := pe_imp (pe_dc2 hr hc hN hi ok hv hg ht hi1 hg1 ht1 hk he hs hs1) fun _ _ _ q => dc2_imp hw hw1 q
end
end Ev

set_option Elab.async false
set_option linter.all false
set_option maxRecDepth 100000
/-! methods of values whose type is known by a premise of its own; t.index(x) of a tuple of whole numbers. -/
namespace Ev
open PySem PySem.Spec PyProof.Rows L2
/-- P tells that a value has the type T and no namespace of its own -/
def TyP (X : Cx) (T : String) (P : V → Hp → Prop) : Prop := ∀ (pins : List (Addr × Obj)) (σ : L2.St) (H : Hp) (s : Shared) (x : V) (v : Value), Inv X pins σ H s → RelV x v → P x H → s.TypeIs v T ∧ ∀ a, v = .ref a → ∃ ob, s.heap.get? a = some ob ∧ ob.dict = none
def tBMG (P : V → Hp → Prop) (r : V → List V → Hp → VK → Prop) (to : TE) (t : TA) : TE := fun σ H Q => to σ H fun x Ha => P x Ha ∧ t σ Ha fun xs Hb => r x xs Hb Q
section
variable {X : Cx} {o e : Expr} {es : List Expr} {to : TE} {t : TA} {name : Str} {apos cpos : Pos} {T id : String} {r : V → List V → Hp → VK → Prop} {P : V → Hp → Prop}
theorem pe_bmG0 (hP : TyP X T P) (pa : PlainAttrs T) (slot : Slot T name id) (hty : typeOf (.builtin id) = pure (.type "method_descriptor")) (hm : MtR X id r) (ho : PE X o to)
    (hb : attributeBase o name X.env (eval o X.env) = eval o X.env := by rfl) (hl : (apos.endLine == cpos.line) = true := by rfl) : PE X (.Call (.Attribute o name apos) [] [] cpos) (tBMG P r to fun _ H q => q [] H) := ⟨fun pins s σ H Q I h =>
  wpAny_Call_method0_late hb hl (thn (ho.run pins s σ H _ I h) fun v s1 ⟨x, Ha, I1, r1, ty, q1⟩ => by
    obtain ⟨t1, t2⟩ := hP _ _ _ _ _ _ I1 r1 ty
    exact ⟨T, id, pa, slot, hty, t1, t2, Calls.callWith_builtin rfl (PySem.evalArgs_none (hm pins s1 σ Ha x [] v [] Q I1 r1 .nil q1))⟩)⟩
theorem pe_bmG (hP : TyP X T P) (pa : PlainAttrs T) (slot : Slot T name id) (hty : typeOf (.builtin id) = pure (.type "method_descriptor")) (hm : MtR X id r) (ho : PE X o to) (ha : PA X (e :: es) t)
    (hb : attributeBase o name X.env (eval o X.env) = eval o X.env := by rfl)
    (hfew : ((backTo cpos (starEach (e :: es) X.env)).all (fun x => !x.1) && (backToKw cpos (keywordEach [] X.env)).all (fun x => x.1.isSome) && decide ((e :: es).length + ([] : List Keyword).length + (if ([] : List Keyword).isEmpty then 0 else 1) < 30)) = true := by rfl)
    (hl : (apos.endLine == cpos.line) = true := by rfl) (hs : starEach (e :: es) X.env = (false, eval e X.env) :: starEach es X.env := by rfl) (hpl : (backTo cpos (starEach es X.env)).any (·.1) = false := by rfl) :
    PE X (.Call (.Attribute o name apos) (e :: es) [] cpos) (tBMG P r to t) := ⟨fun pins s σ H Q I h =>
  wpAny_Call_method_late hb hfew hl rfl (thn (ho.run pins s σ H _ I h) fun v s1 ⟨x, Ha, I1, r1, ty, q1⟩ => by
    obtain ⟨t1, t2⟩ := hP _ _ _ _ _ _ I1 r1 ty
    refine ⟨T, id, pa, slot, hty, t1, t2, ?_⟩
    have hA := ha.run cpos pins s1 σ Ha _ I1 q1
    rw [hs] at hA ⊢
    refine Calls.callWith_builtin (by show (false || (backTo cpos (starEach es X.env)).any (·.1)) = false; rw [hpl] <;> rfl) (Calls.evalArgs_plain ?_)
    exact thn hA fun us s2 ⟨vs, Hb, I2, r2, q2⟩ => hm pins s2 σ Hb x vs v us Q I2 r1 r2 q2)⟩
end
/-! tuples -/
def tyT (K : PySem.W.Frag) (x : V) (H : Hp) : Prop := ∃ a o, x = .ref a ∧ o.dict = none ∧ ((∃ xs, H a = some (.frz o (.tup xs))) ∨ (K.lookup a = some o ∧ o.cls = .type "tuple"))
theorem tyT_ok {X : Cx} : TyP X "tuple" (tyT X.K) := fun pins σ H s x v I r ⟨a, o, e, hd, h⟩ => by
  subst e
  cases r
  rcases h with ⟨xs, h⟩ | ⟨h, hc⟩
  · obtain ⟨e1, z, its, r1, ⟨o2, e2, hc, _⟩⟩ := I.hok a _ h
    rw [e1] at e2
    cases e2
    exact ⟨⟨o, e1, hc⟩, fun b e => by cases e; exact ⟨o, e1, hd⟩⟩
  · have e1 := I.kIn a o h
    exact ⟨⟨o, e1, hc⟩, fun b e => by cases e; exact ⟨o, e1, hd⟩⟩
theorem tyT_of {K : PySem.W.Frag} {φ : Ad} {H : Hp} {m : M} {v : V} {ds : List D} (S : SR ζ K φ H m) (h : Dp K (off φ H) v (.tuple ds)) : tyT K v H := by
  cases h with
  | tup hs ha =>
    rename_i xs a
    rcases hs with (h | ⟨o, h⟩) | ⟨o, its, n, hk, hc, _⟩
    · exact (S.pl _ _ (off_some.mp h).2.1).elim
    · have e := (off_some.mp h).2.1
      exact ⟨_, o, rfl, S.pl _ _ e, .inl ⟨_, e⟩⟩
    · exact ⟨_, o, rfl, S.kt _ _ hk hc, .inr ⟨hk, hc⟩⟩
def isIntD : D → Bool
  | .int _ => true
  | _ => false
def pIndexT : MF := fun r rs m => match r, rs with
  | .val (.tuple ds), [.val (.int i)] => if ds.all isIntD = true then (firstEq (.int i) ds).bind fun j => some (.val (.int j), m) else none
  | _, _ => none
theorem all_ints {K : PySem.W.Frag} {H : Hp} : ∀ {ds : List D} {vs : List V}, DpAll K H vs ds → ds.all isIntD = true → ∃ ns : List Int, vs = ns.map V.int ∧ ds = ns.map PyData.int
  | [], _, h, _ => by
    cases h
    exact ⟨[], rfl, rfl⟩
  | d :: ds, _, h, e => by
    rw [List.all_cons, Bool.and_eq_true] at e
    cases h with
    | cons a t =>
      obtain ⟨ns, e1, e2⟩ := all_ints t e.2
      cases a with
      | int i => exact ⟨i :: ns, by rw [e1]; rfl, by rw [e2]; rfl⟩
      | _ => exact absurd e.1 Bool.false_ne_true
/-- a method of a tuple -/
def eBMT (p : MF) (f : EF) (fa : AF) : EF := fun env m => (f env m).bind fun x => match x.1 with
  | .val (.tuple ds) => (fa env x.2).bind fun y => p (.val (.tuple ds)) y.1 y.2
  | _ => none
theorem flat_ints (ns : List Int) : (ns.map V.int).all flatV = true := by
  rw [List.all_map]
  exact List.all_eq_true.mpr fun _ _ => rfl
section
variable {X : Cx} {o e : Expr} {es : List Expr} {name : Str} {id : String} {apos cpos : Pos} {f : EF} {fa : AF} {p : MF}
theorem bmT_imp {σ : L2.St} {H : Hp} {Q : VK} (q : tE ζ X.K (eBMT p f fa) σ H Q) : tBMG (tyT X.K) (rmP ζ X.K p) (tE ζ X.K f) (tA ζ X.K fa) σ H Q := by
  obtain ⟨φ, env, m, r, m', S, E, hf, k⟩ := q
  obtain ⟨⟨r1, m1⟩, h1, hf⟩ := bind_some_iff hf
  simp only at hf
  split at hf
  case h_2 => cases hf
  rename_i ds
  obtain ⟨⟨rs, m2⟩, h3, hf⟩ := bind_some_iff hf
  refine ⟨φ, env, m, _, m1, S, E, h1, fun φ1 H1 v1 g1 S1 R1 => ⟨tyT_of S1 R1, ?_⟩⟩
  refine ⟨φ1, env, m1, rs, m2, S1, E.mono g1, h3, fun φ2 H2 vs g2 S2 R2 => ?_⟩
  exact ⟨φ2, m2, .val (.tuple ds), rs, r, m', S2, RR.mono g2 (r := .val (.tuple ds)) R1, R2, hf, fun φ3 H3 v3 g3 S3 R3 => k φ3 H3 v3 (g1.trans (g2.trans g3)) S3 R3⟩
theorem x_bmT (slot : Slot "tuple" name id) (hty : typeOf (.builtin id) = pure (.type "method_descriptor")) (hm : MtR X id (rmP ζ X.K p)) (ho : PE X o (tE ζ X.K f)) (ha : PA X (e :: es) (tA ζ X.K fa))
    (hb : attributeBase o name X.env (eval o X.env) = eval o X.env := by rfl)
    (hfew : ((backTo cpos (starEach (e :: es) X.env)).all (fun x => !x.1) && (backToKw cpos (keywordEach [] X.env)).all (fun x => x.1.isSome) && decide ((e :: es).length + ([] : List Keyword).length + (if ([] : List Keyword).isEmpty then 0 else 1) < 30)) = true := by rfl)
    (hl : (apos.endLine == cpos.line) = true := by rfl) (hs : starEach (e :: es) X.env = (false, eval e X.env) :: starEach es X.env := by rfl) (hpl : (backTo cpos (starEach es X.env)).any (·.1) = false := by rfl) :
    PE X (.Call (.Attribute o name apos) (e :: es) [] cpos) (tE ζ X.K (eBMT p f fa)) :=
  pe_imp (pe_bmG tyT_ok PySem.F.plainAttrs_tuple slot hty hm ho ha hb hfew hl hs hpl) fun _ _ _ q => bmT_imp q
theorem m_indexT : MtR X "tuple.index" (rmP ζ X.K pIndexT) := by
  intro pins s σ H x xs v us Q I rx rxs h
  obtain ⟨φ, m, r0, rs, r, m', S, R0, RS, hf, kk⟩ := h
  unfold pIndexT at hf
  split at hf
  case h_2 => cases hf
  rename_i ds i
  split at hf
  case isFalse => cases hf
  rename_i hi
  obtain ⟨j, h3, hf⟩ := bind_some_iff hf
  cases hf
  obtain ⟨z, e1, e2, e3⟩ := firstEq_at h3
  obtain ⟨a, ws, rfl, hs, hd⟩ := seqT_of R0
  obtain ⟨ns, rfl, rfl⟩ := all_ints hd hi
  cases rx
  cases RS with
  | cons r1 t1 =>
    cases t1
    have e0 := rr_int r1
    subst e0
    cases rxs with
    | cons ry rt =>
      cases rt
      rename_i uy
      obtain ⟨t, rfl⟩ := ry
      obtain ⟨its, rv, pl, hz⟩ := I.tuple hs
      obtain ⟨⟨cls, dd, dt, sl⟩, ho, hc, n, hdt⟩ := pl
      simp only at hc hdt
      subst hc hdt
      have hl : its.toArray.size = ns.length := by rw [List.size_toArray, ← rv.length, List.length_map]
      have hjn : j < ns.length := by
        have := (List.getElem?_eq_some_iff.mp e1).1
        simpa using this
      have hj : j < its.toArray.size := by rw [hl]; exact hjn
      have at' : ∀ (k : Nat) (hk : k < its.toArray.size), ∃ t', its.toArray[k] = Value.int (ns[k]'(by omega)) t' := fun k hk => by
        have hk' : k < ns.length := by omega
        obtain ⟨w, hw, t', hw'⟩ := rv.get (i := k) (x := .int ns[k]) (by simp [hk'])
        refine ⟨t', ?_⟩
        have e := (List.getElem?_eq_some_iff.mp hw).2
        rw [← hw', ← e]
        simp
      have eqi : ∀ (k : Nat) (hk : k < ns.length), PyData.eqv (.int ns[k]) (.int i) = (ns[k] == i) := fun _ _ => rfl
      refine call_meets PySem.F.slot_tuple_index ⟨_, ho, rfl⟩ PySem.F.entry_tuple_index (PySem.F.args_tuple_index_2 _ _) (TI.tuple_indexAt a its.toArray n dd sl (.int i t) (eqU (.int i)) j hj ?_ ?_)
        ⟨ho, fun w hw => mem_eqAt (x := .int i) ⟨t, rfl⟩ rfl rv (flat_ints ns) w (by simpa using hw), ⟨.int (j : Nat), H, I.tok _, ⟨_, rfl⟩, kk φ H _ .refl S (Dp.int _)⟩⟩
      · obtain ⟨t', h2⟩ := at' j hj
        rw [h2]
        rw [List.getElem?_map, List.getElem?_eq_getElem hjn] at e1
        cases e1
        rw [eqi j hjn] at e2
        show (ns[j] == i) = true
        exact e2
      · intro k hk hkj
        obtain ⟨t', h2⟩ := at' k hk
        rw [h2]
        have hkn : k < ns.length := by omega
        have := e3 k (.int ns[k]) hkj (by rw [List.getElem?_map, List.getElem?_eq_getElem hkn]; rfl)
        rw [eqi k hkn] at this
        exact this
end
end Ev

set_option Elab.async false
set_option linter.all false
set_option maxRecDepth 100000
/-! Known values: comprehensions of two clauses, dicts with whole numbers as keys, places in tuples. -/
namespace Ev
open PySem PySem.Spec PyProof.Rows L2
section
variable {it it1 : IF} {p p1 : Pat} {vs vs1 : List Nat} {tt tt1 : TF} {te tk tv : EF} {env : Sl} {m : M}
theorem comp_map {α : Type} (enc : α → D) (t : α → Bool) (F : α → D) (l : List α) (hit : it env m = iL (l.map enc) m) (hl : l.length ≤ 16777216)
    (h : ∀ a ∈ l, ∃ e, bindP p (enc a) (wipeE env vs) = some e ∧ tt e m = some (t a, m) ∧ (t a = true → te e m = some (.val (F a), m))) : nComp it p vs tt te env m = some ((l.filter t).map F, m) := by
  rw [nComp_L hit (by rw [List.length_map, sz]; exact hl)]
  exact clpL_map enc t F l h
theorem comp_all {α : Type} (enc : α → D) (F : α → D) (l : List α) (hit : it env m = iL (l.map enc) m) (hl : l.length ≤ 16777216)
    (h : ∀ a ∈ l, ∃ e, bindP p (enc a) (wipeE env vs) = some e ∧ te e m = some (.val (F a), m)) : nComp it p vs tTrue te env m = some (l.map F, m) := by
  rw [nComp_L hit (by rw [List.length_map, sz]; exact hl)]
  exact clpL_all enc F l h
theorem clp2_map {α : Type} (enc : α → D) (t : α → Bool) (F : α → List D) (l0 : List α) {e0 : Sl} : ∀ (l : List α) (i : Nat), l0.drop i = l →
    (∀ a ∈ l, ∃ e, bindP p (enc a) e0 = some e ∧ tt e m = some (t a, m) ∧ (t a = true → ∃ ds, it1 e m = iL ds m ∧ clpL p1 tt1 te (wipeE e vs1) ds m = some (F a, m))) → clp2 (srcL (l0.map enc)) p tt it1 p1 vs1 tt1 te e0 l.length i m = some ((l.filter t).flatMap F, m)
  | [], i, hd, _ => by
    have e : (l0.map enc)[i]? = none := by rw [List.getElem?_eq_none_iff, List.length_map]; simpa using hd
    simp [clp2, srcL, e]
  | a :: l, i, hd, h => by
    have ea : l0[i]? = some a := by
      have := congrArg (·[0]?) hd
      simpa using this
    have e : (l0.map enc)[i]? = some (enc a) := by rw [List.getElem?_map, ea]; rfl
    have h' : l0.drop (i + 1) = l := by
      have := congrArg (List.drop 1) hd
      simpa [List.drop_drop, Nat.add_comm] using this
    obtain ⟨e1, h1, h2, h3⟩ := h a (by simp)
    have ih := clp2_map enc t F l0 l (i + 1) h' fun b hb => h b (List.mem_cons_of_mem _ hb)
    rw [List.length_cons]
    unfold clp2
    simp only [srcL, e, ob_some, h1, h2]
    cases ht : t a with
    | false =>
      rw [if_neg Bool.false_ne_true, ih, List.filter_cons_of_neg (by rw [ht]; exact Bool.false_ne_true)]
    | true =>
      obtain ⟨ds, h4, h5⟩ := h3 ht
      rw [if_pos rfl, h4]
      simp only [iL, ob_some]
      rw [clp_srcL ds ds 0 m rfl, h5]
      simp only [ob_some]
      rw [ih, List.filter_cons_of_pos ht]
      rfl
theorem comp2_map {α : Type} (enc : α → D) (t : α → Bool) (F : α → List D) (l : List α) (hit : it env m = iL (l.map enc) m) (hl : ((l.filter t).flatMap F).length ≤ 16777216)
    (h : ∀ a ∈ l, ∃ e, bindP p (enc a) (wipeE env vs) = some e ∧ tt e m = some (t a, m) ∧ (t a = true → ∃ ds, it1 e m = iL ds m ∧ clpL p1 tt1 te (wipeE e vs1) ds m = some (F a, m))) : nComp2 it p vs tt it1 p1 vs1 tt1 te env m = some ((l.filter t).flatMap F, m) := by
  unfold nComp2
  rw [hit]
  simp only [iL, ob_some, List.length_map]
  rw [clp2_map (e0 := wipeE env vs) enc t F l l 0 rfl h]
  simp only [ob_some, sz, hl, if_true]
theorem comp2_all {α : Type} (enc : α → D) (F : α → List D) (l : List α) (hit : it env m = iL (l.map enc) m) (hl : (l.flatMap F).length ≤ 16777216)
    (h : ∀ a ∈ l, ∃ e, bindP p (enc a) (wipeE env vs) = some e ∧ ∃ ds, it1 e m = iL ds m ∧ clpL p1 tt1 te (wipeE e vs1) ds m = some (F a, m)) : nComp2 it p vs tTrue it1 p1 vs1 tt1 te env m = some (l.flatMap F, m) := by
  have := comp2_map (it := it) (p := p) (vs := vs) (tt := tTrue) (it1 := it1) (p1 := p1) (vs1 := vs1) (tt1 := tt1) (te := te) (env := env) (m := m) enc (fun _ => true) F l hit (by rw [List.filter_eq_self.mpr fun _ _ => rfl]; exact hl) fun a ha => by
    obtain ⟨e, h1, h2⟩ := h a ha
    exact ⟨e, h1, rfl, fun _ => h2⟩
  rw [this, List.filter_eq_self.mpr fun _ _ => rfl]
/-! dicts by comprehensions -/
theorem getN {ob : Ob} : (m ++ [ob])[m.length]? = some ob := by simp
theorem setN {a b : Ob} : (m ++ [a]).set m.length b = m ++ [b] := by
  induction m with
  | nil => rfl
  | cons y m ih => exact congrArg (y :: ·) ih
abbrev puts (t : Bool) (kvs : List (D × D)) (ps : List (D × D)) : List (D × D) := ps.foldl (fun kvs q => putD t kvs q.1 q.2) kvs
theorem putD_len (t : Bool) (kvs : List (D × D)) (d x : D) : (putD t kvs d x).length ≤ kvs.length + 1 := by
  unfold putD
  split
  · rw [List.length_map]; omega
  · rw [List.length_append]; exact Nat.le_refl _
theorem dputM_ok {kvs : List (D × D)} {d x : D} (hk : keyOk false d = true) (hl : kvs.length < 16777216) : dputM m.length (.val d) (.val x) (m ++ [.dct false false kvs]) = some (m ++ [.dct false false (putD false kvs d x)]) := by
  simp only [dputM, getN, hk, sz, hl, and_self, if_true, setN]
theorem dputT_ok {t : Bool} {kvs : List (D × D)} {d x : D} (hk : keyOk t d = true) (hl : kvs.length < 16777216) : dputT t m.length (.val d) (.val x) (m ++ [.dct t false kvs]) = some (m ++ [.dct t false (putD t kvs d x)]) := by
  simp only [dputT, getN, hk, sz, hl, and_self, if_true, setN]
theorem dcl_map {α : Type} (enc K V : α → D) (t : α → Bool) (l0 : List α) {e0 : Sl} : ∀ (l : List α) (i : Nat) (kvs : List (D × D)), l0.drop i = l → kvs.length + l.length ≤ 16777216 →
    (∀ a ∈ l, ∃ e, bindP p (enc a) e0 = some e ∧ ∀ kvs, tt e (m ++ [.dct false false kvs]) = some (t a, m ++ [.dct false false kvs]) ∧ (t a = true → tk e (m ++ [.dct false false kvs]) = some (.val (K a), m ++ [.dct false false kvs]) ∧ tv e (m ++ [.dct false false kvs]) = some (.val (V a), m ++ [.dct false false kvs]) ∧ keyOk false (K a) = true)) →
    dcl (srcL (l0.map enc)) p tt tk tv e0 m.length l.length i (m ++ [.dct false false kvs]) = some (m ++ [.dct false false (puts false kvs ((l.filter t).map fun a => (K a, V a)))])
  | [], i, kvs, hd, _, _ => by
    have e : (l0.map enc)[i]? = none := by rw [List.getElem?_eq_none_iff, List.length_map]; simpa using hd
    simp [dcl, srcL, e, puts]
  | a :: l, i, kvs, hd, hl, h => by
    have ea : l0[i]? = some a := by
      have := congrArg (·[0]?) hd
      simpa using this
    have e : (l0.map enc)[i]? = some (enc a) := by rw [List.getElem?_map, ea]; rfl
    have h' : l0.drop (i + 1) = l := by
      have := congrArg (List.drop 1) hd
      simpa [List.drop_drop, Nat.add_comm] using this
    obtain ⟨e1, h1, h2⟩ := h a (by simp)
    have ih := fun kvs hl => dcl_map enc K V t l0 l (i + 1) kvs h' hl fun b hb => h b (List.mem_cons_of_mem _ hb)
    rw [List.length_cons] at hl ⊢
    obtain ⟨h3, h4⟩ := h2 kvs
    unfold dcl
    simp only [srcL, e, ob_some, h1, h3]
    cases ht : t a with
    | false =>
      rw [if_neg Bool.false_ne_true, ih _ (by omega), List.filter_cons_of_neg (by rw [ht]; exact Bool.false_ne_true)]
    | true =>
      obtain ⟨h5, h6, h7⟩ := h4 ht
      have := putD_len false kvs (K a) (V a)
      rw [if_pos rfl, h5]
      simp only [ob_some, h6, dputM_ok h7 (show kvs.length < 16777216 by omega)]
      rw [ih _ (by omega), List.filter_cons_of_pos ht]
      rfl
theorem dcomp_map {α : Type} (enc K V : α → D) (t : α → Bool) (l : List α) (hit : it env m = iL (l.map enc) m) (hl : l.length ≤ 16777216)
    (h : ∀ a ∈ l, ∃ e, bindP p (enc a) (wipeE env vs) = some e ∧ ∀ kvs, tt e (m ++ [.dct false false kvs]) = some (t a, m ++ [.dct false false kvs]) ∧ (t a = true → tk e (m ++ [.dct false false kvs]) = some (.val (K a), m ++ [.dct false false kvs]) ∧ tv e (m ++ [.dct false false kvs]) = some (.val (V a), m ++ [.dct false false kvs]) ∧ keyOk false (K a) = true)) :
    eDc it p vs tt tk tv env m = some (.ref m.length, m ++ [.dct false false (puts false [] ((l.filter t).map fun a => (K a, V a)))]) := by
  unfold eDc
  rw [hit]
  simp only [iL, ob_some, List.length_map, sz, hl, if_true]
  rw [dcl_map enc K V t l l 0 [] rfl (by simpa using hl) h]
  simp only [ob_some]
theorem dcomp_all {α : Type} (enc K V : α → D) (l : List α) (hit : it env m = iL (l.map enc) m) (hl : l.length ≤ 16777216)
    (h : ∀ a ∈ l, ∃ e, bindP p (enc a) (wipeE env vs) = some e ∧ ∀ kvs, tk e (m ++ [.dct false false kvs]) = some (.val (K a), m ++ [.dct false false kvs]) ∧ tv e (m ++ [.dct false false kvs]) = some (.val (V a), m ++ [.dct false false kvs]) ∧ keyOk false (K a) = true) :
    eDc it p vs tTrue tk tv env m = some (.ref m.length, m ++ [.dct false false (puts false [] (l.map fun a => (K a, V a)))]) := by
  have := dcomp_map (it := it) (p := p) (vs := vs) (tt := tTrue) (tk := tk) (tv := tv) (env := env) (m := m) enc K V (fun _ => true) l hit hl fun a ha => by
    obtain ⟨e, h1, h2⟩ := h a ha
    exact ⟨e, h1, fun kvs => ⟨rfl, fun _ => h2 kvs⟩⟩
  rw [this, List.filter_eq_self.mpr fun _ _ => rfl]
theorem dcl1_map {t : Bool} {α : Type} (enc K V : α → D) (f : α → Bool) (l0 : List α) {e0 : Sl} : ∀ (l : List α) (i : Nat) (kvs : List (D × D)), l0.drop i = l → kvs.length + l.length ≤ 16777216 →
    (∀ a ∈ l, ∃ e, bindP p (enc a) e0 = some e ∧ ∀ kvs, tt e (m ++ [.dct t false kvs]) = some (f a, m ++ [.dct t false kvs]) ∧ (f a = true → tk e (m ++ [.dct t false kvs]) = some (.val (K a), m ++ [.dct t false kvs]) ∧ tv e (m ++ [.dct t false kvs]) = some (.val (V a), m ++ [.dct t false kvs]) ∧ keyOk t (K a) = true)) →
    dcl1 t (srcL (l0.map enc)) p tt tk tv e0 m.length l.length i (m ++ [.dct t false kvs]) = some (m ++ [.dct t false (puts t kvs ((l.filter f).map fun a => (K a, V a)))])
  | [], i, kvs, hd, _, _ => by
    have e : (l0.map enc)[i]? = none := by rw [List.getElem?_eq_none_iff, List.length_map]; simpa using hd
    simp [dcl1, srcL, e, puts]
  | a :: l, i, kvs, hd, hl, h => by
    have ea : l0[i]? = some a := by
      have := congrArg (·[0]?) hd
      simpa using this
    have e : (l0.map enc)[i]? = some (enc a) := by rw [List.getElem?_map, ea]; rfl
    have h' : l0.drop (i + 1) = l := by
      have := congrArg (List.drop 1) hd
      simpa [List.drop_drop, Nat.add_comm] using this
    obtain ⟨e1, h1, h2⟩ := h a (by simp)
    have ih := fun kvs hl => dcl1_map (t := t) enc K V f l0 l (i + 1) kvs h' hl fun b hb => h b (List.mem_cons_of_mem _ hb)
    rw [List.length_cons] at hl ⊢
    obtain ⟨h3, h4⟩ := h2 kvs
    unfold dcl1
    simp only [srcL, e, ob_some, h1, h3]
    cases ht : f a with
    | false =>
      rw [if_neg Bool.false_ne_true, ih _ (by omega), List.filter_cons_of_neg (by rw [ht]; exact Bool.false_ne_true)]
    | true =>
      obtain ⟨h5, h6, h7⟩ := h4 ht
      have := putD_len t kvs (K a) (V a)
      rw [if_pos rfl, h5]
      simp only [ob_some, h6, dputT_ok h7 (show kvs.length < 16777216 by omega)]
      rw [ih _ (by omega), List.filter_cons_of_pos ht]
      rfl
theorem puts_len (t : Bool) : ∀ (ps kvs : List (D × D)), (puts t kvs ps).length ≤ kvs.length + ps.length
  | [], kvs => by simp [puts]
  | q :: ps, kvs => by
    have := puts_len t ps (putD t kvs q.1 q.2)
    have := putD_len t kvs q.1 q.2
    rw [List.length_cons]
    show (puts t (putD t kvs q.1 q.2) ps).length ≤ _
    omega
theorem puts_app (t : Bool) (kvs ps qs : List (D × D)) : puts t kvs (ps ++ qs) = puts t (puts t kvs ps) qs := List.foldl_append
/-- two clauses: each outer item gives the pairs G a -/
theorem dcl2_map {t : Bool} {α : Type} (enc : α → D) (G : α → List (D × D)) (l0 : List α) {e0 : Sl} : ∀ (l : List α) (i : Nat) (kvs : List (D × D)), l0.drop i = l → kvs.length + (l.flatMap G).length ≤ 16777216 →
    (∀ a ∈ l, ∃ e, bindP p (enc a) e0 = some e ∧ ∀ kvs : List (D × D), kvs.length + (G a).length ≤ 16777216 → ∃ ds, it1 e (m ++ [.dct t false kvs]) = iL ds (m ++ [.dct t false kvs]) ∧ dcl1 t (srcL ds) p1 tt1 tk tv (wipeE e vs1) m.length ds.length 0 (m ++ [.dct t false kvs]) = some (m ++ [.dct t false (puts t kvs (G a))])) →
    dcl2 t (srcL (l0.map enc)) p tTrue it1 p1 vs1 tt1 tk tv e0 m.length l.length i (m ++ [.dct t false kvs]) = some (m ++ [.dct t false (puts t kvs (l.flatMap G))])
  | [], i, kvs, hd, _, _ => by
    have e : (l0.map enc)[i]? = none := by rw [List.getElem?_eq_none_iff, List.length_map]; simpa using hd
    simp [dcl2, srcL, e, puts]
  | a :: l, i, kvs, hd, hl, h => by
    have ea : l0[i]? = some a := by
      have := congrArg (·[0]?) hd
      simpa using this
    have e : (l0.map enc)[i]? = some (enc a) := by rw [List.getElem?_map, ea]; rfl
    have h' : l0.drop (i + 1) = l := by
      have := congrArg (List.drop 1) hd
      simpa [List.drop_drop, Nat.add_comm] using this
    obtain ⟨e1, h1, h2⟩ := h a (by simp)
    have ih := fun kvs hl => dcl2_map (t := t) enc G l0 l (i + 1) kvs h' hl fun b hb => h b (List.mem_cons_of_mem _ hb)
    rw [List.flatMap_cons, List.length_append] at hl
    obtain ⟨ds, h3, h4⟩ := h2 kvs (by omega)
    have hp := puts_len t (G a) kvs
    have tr : ∀ e mm, tTrue e mm = some (true, mm) := fun _ _ => rfl
    rw [List.length_cons]
    unfold dcl2
    simp only [srcL, e, ob_some, h1, tr, if_true, h3, iL]
    rw [h4, ob_some, ih _ (by omega), List.flatMap_cons, puts_app]
theorem dcomp2_all {t : Bool} {α : Type} (enc : α → D) (G : α → List (D × D)) (l : List α) (hit : it env m = iL (l.map enc) m) (hl : (l.flatMap G).length ≤ 16777216)
    (h : ∀ a ∈ l, ∃ e, bindP p (enc a) (wipeE env vs) = some e ∧ ∀ kvs : List (D × D), kvs.length + (G a).length ≤ 16777216 → ∃ ds, it1 e (m ++ [.dct t false kvs]) = iL ds (m ++ [.dct t false kvs]) ∧ dcl1 t (srcL ds) p1 tt1 tk tv (wipeE e vs1) m.length ds.length 0 (m ++ [.dct t false kvs]) = some (m ++ [.dct t false (puts t kvs (G a))])) :
    eDc2 t it p vs tTrue it1 p1 vs1 tt1 tk tv env m = some (.ref m.length, m ++ [.dct t false (puts t [] (l.flatMap G))]) := by
  unfold eDc2
  rw [hit]
  simp only [iL, ob_some, List.length_map]
  rw [dcl2_map (t := t) enc G l l 0 [] rfl (by simpa using hl) h]
  simp only [ob_some]
end
/-! whole numbers as keys -/
theorem keyOk_i {i : Int} : keyOk false (.int i) = true := rfl
theorem same_i {i j : Int} : sameD false (.int i) (.int j) = decide (i = j) := by
  rw [sameD_F]
  show decide (some (Sum.inl i : Key) = some (Sum.inl j)) = _
  simp
/-- the keys, in order, each with what f tells -/
def kF {α : Type} (k : α → D) (f : α → D) (l : List α) : List (D × D) := l.map fun a => (k a, f a)
abbrev nI (a : Nat) : D := .int (a : Int)
theorem same_n {a b : Nat} : sameD false (nI a) (nI b) = decide (a = b) := by
  rw [same_i]
  by_cases h : a = b
  · rw [decide_eq_true h, decide_eq_true (by omega)]
  · rw [decide_eq_false h, decide_eq_false (by omega)]
def insN (ks : List Nat) (w : Nat) : List Nat := if w ∈ ks then ks else ks ++ [w]
theorem any_n {f : Nat → D} {w : Nat} : ∀ ks : List Nat, ((kF nI f ks).any fun q => sameD false q.1 (nI w)) = decide (w ∈ ks)
  | [] => by simp [kF]
  | a :: ks => by
    have ih := any_n (f := f) (w := w) ks
    unfold kF at ih ⊢
    rw [List.map_cons, List.any_cons, ih]
    show (sameD false (nI a) (nI w) || decide (w ∈ ks)) = _
    rw [same_n]
    by_cases h : a = w
    · subst h; simp
    · simp [h, show ¬ w = a from fun z => h z.symm]
theorem put_n {f : Nat → D} {ks : List Nat} {w : Nat} : putD false (kF nI f ks) (nI w) (f w) = kF nI f (insN ks w) := by
  unfold putD insN
  rw [any_n]
  by_cases h : w ∈ ks
  · rw [if_pos (decide_eq_true h), if_pos h]
    unfold kF
    rw [List.map_map]
    refine List.map_congr_left fun a _ => ?_
    simp only [Function.comp_apply]
    rw [show sameD false (PyData.int (a : Int)) (nI w) = decide (a = w) from same_n]
    by_cases c : a = w
    · subst c; simp
    · simp [c]
  · rw [if_neg (by simp [h]), if_neg h]
    unfold kF
    simp
theorem puts_n {f : Nat → D} : ∀ (l ks : List Nat), puts false (kF nI f ks) (kF nI f l) = kF nI f (l.foldl insN ks)
  | [], _ => rfl
  | a :: l, ks => by
    show puts false (putD false (kF nI f ks) (nI a) (f a)) (kF nI f l) = _
    rw [put_n, puts_n l]
    rfl
theorem look_n {f : Nat → D} {w : Nat} : ∀ {ks : List Nat}, w ∈ ks → lookD false (kF nI f ks) (nI w) = some (f w)
  | [], h => by cases h
  | a :: ks, h => by
    unfold lookD kF
    rw [List.map_cons, List.find?_cons]
    simp only
    rw [show sameD false (PyData.int (a : Int)) (nI w) = decide (a = w) from same_n]
    by_cases c : a = w
    · subst c; simp
    · have h2 : w ∈ ks := (List.mem_cons.mp h).resolve_left fun z => c z.symm
      have := look_n (f := f) h2
      unfold lookD kF at this
      simp only [c, decide_false]
      exact this
theorem insN_mem {ks : List Nat} {w u : Nat} : u ∈ insN ks w ↔ u ∈ ks ∨ u = w := by
  unfold insN
  split
  · rename_i h
    exact ⟨.inl, fun q => q.elim id fun e => e ▸ h⟩
  · simp
theorem insN_nd {ks : List Nat} {w : Nat} (h : ks.Nodup) : (insN ks w).Nodup := by
  unfold insN
  split
  · exact h
  · rename_i c
    rw [List.nodup_append]
    exact ⟨h, by simp, fun a ha b hb z => c (by rw [List.mem_singleton] at hb; rw [← hb, ← z]; exact ha)⟩
theorem insF_mem {u : Nat} : ∀ {l ks : List Nat}, u ∈ l.foldl insN ks ↔ u ∈ ks ∨ u ∈ l
  | [], ks => by simp
  | a :: l, ks => by
    rw [List.foldl_cons, insF_mem, insN_mem, List.mem_cons, or_assoc]
theorem insF_nd : ∀ {l ks : List Nat}, ks.Nodup → (l.foldl insN ks).Nodup
  | [], _, h => h
  | _ :: l, _, h => insF_nd (l := l) (insN_nd h)
theorem insF_new : ∀ {l ks : List Nat}, (ks ++ l).Nodup → l.foldl insN ks = ks ++ l
  | [], ks, _ => by simp
  | a :: l, ks, h => by
    have h1 : a ∉ ks := fun z => (List.nodup_append.mp h).2.2 a z a (by simp) rfl
    have e : insN ks a = ks ++ [a] := if_neg h1
    rw [List.foldl_cons, e, insF_new (by simpa using h)]
    simp
section
variable {m : M} {j : Nat} {ks : List Nat} {w : Nat} {f : Nat → D} {lk : Bool}
theorem dget_n (h : m[j]? = some (.dct false lk (kF nI f ks))) (hw : w ∈ ks) : pDGet (.ref j) (.val (.int (w : Int))) m = some (.val (f w), m) := by
  unfold pDGet
  simp only [h, ob_some]
  have e := look_n (f := f) hw
  simp only [nI] at e
  simp [e, keyOk_i]
theorem dhas_n (h : m[j]? = some (.dct false lk (kF nI f ks))) : pDHas (.ref j) (.val (.int (w : Int))) m = some (decide (w ∈ ks)) := by
  have e := any_n (f := f) (w := w) ks
  rw [lookD_any] at e
  simp only [nI] at e
  unfold pDHas
  simp only [h, ob_some]
  simp [e, keyOk_i]
theorem din_n (h : m[j]? = some (.dct false lk (kF nI f ks))) : pDIn (.val (.int (w : Int))) (.ref j) m = some (.val (.bool (decide (w ∈ ks))), m) := by
  unfold pDIn
  rw [dhas_n h]
  rfl
theorem dnin_n (h : m[j]? = some (.dct false lk (kF nI f ks))) : pDNin (.val (.int (w : Int))) (.ref j) m = some (.val (.bool (!decide (w ∈ ks))), m) := by
  unfold pDNin
  rw [dhas_n h]
  rfl
theorem dlen_n (h : m[j]? = some (.dct false lk (kF nI f ks))) : pLenD [.ref j] m = some (.val (.int (ks.length : Int)), m) := by
  show ((m[j]?).bind _) = _
  rw [h, ob_some]
  simp [kF]
theorem dset_n (h : m[j]? = some (.dct false false (kF nI f ks))) (hl : ks.length < 16777216) : pDSet (.ref j) (.val (.int (w : Int))) (.val (f w)) m = some (m.set j (.dct false false (kF nI f (insN ks w)))) := by
  have hl2 : (kF nI f ks).length < sizeLine := by unfold kF; rw [List.length_map, sz]; exact hl
  have e := put_n (f := f) (ks := ks) (w := w)
  simp only [nI] at e
  unfold pDSet
  simp only [h, ob_some, keyOk_i, hl2, and_self, if_true]
  rw [e]
end
/-! places in tuples -/
theorem allInt_N (l : List Nat) : (encI l).all isIntD = true := by
  unfold encI
  rw [List.all_map]
  exact List.all_eq_true.mpr fun _ _ => rfl
theorem pidxT_N {a : Nat} {l : List Nat} {m : M} (ha : a ∈ l) : pIndexT (.val (encT l)) [.val (.int (a : Int))] m = some (.val (.int ((l.idxOf a : Nat) : Int)), m) := by
  unfold encT
  simp only [pIndexT, allInt_N, if_true, firstEq_N ha, ob_some]
@[simp] theorem ev_bmT {f : EF} {fa : AF} {env : Sl} {m : M} {pp : MF} : eBMT pp f fa env m = (f env m).bind fun x => match x.1 with
  | .val (.tuple ds) => (fa env x.2).bind fun y => pp (.val (.tuple ds)) y.1 y.2
  | _ => none := nr rfl
theorem ev_cut {f : EF} {env : Sl} {m : M} : eCut f env m = (f env m).bind fun x => match x.1 with
  | .val d => some (.val d, x.2.take m.length)
  | _ => none := nr rfl
/-- insertion -/
theorem pins_N {k a i : Nat} {l : List Nat} {m : M} (h : m[k]? = some (.lst (encI l))) (hl : l.length < 16777216) (hi : i < 1000000) : pInsert (.ref k) [.val (.int (i : Int)), .val (.int (a : Int))] m = some (.val .none, m.set k (.lst (encI (l.take i ++ [a] ++ l.drop i)))) := by
  have h1 : (0 : Int) ≤ (i : Int) ∧ (i : Int) < 2 ^ 63 := by omega
  simp only [pInsert, h, ob_some, encI_len, sz, hl, h1, and_self, if_true, Int.toNat_natCast]
  unfold encI
  simp
/-! loops that fold -/
theorem loop_fold {α β : Type} {gf : GF} {sf : SF} (enc : α → D) (E : β → Sl) (S : β → M) (st : β → α → β) (I : β → Prop) : ∀ (l : List α) (b : β), I b →
    (∀ a ∈ l, ∀ b, I b → I (st b a) ∧ ∃ env1 m1, gf (.val (enc a)) (E b) (S b) = some (env1, m1) ∧ sf env1 m1 = some (.nx (E (st b a)) (S (st b a)))) → loopL gf sf (l.map enc) (E b) (S b) = some (.nx (E (l.foldl st b)) (S (l.foldl st b))) ∧ I (l.foldl st b)
  | [], b, hI, _ => ⟨loop_nil, hI⟩
  | a :: l, b, hI, h => by
    obtain ⟨h1, env1, m1, h2, h3⟩ := h a (by simp) b hI
    have ih := loop_fold (gf := gf) (sf := sf) enc E S st I l (st b a) h1 fun x hx => h x (List.mem_cons_of_mem _ hx)
    rw [List.map_cons, step_nx h2 h3]
    exact ih
/-! enumerate of whole numbers -/
def encE (p : Nat × Nat) : D := .tuple [.int (p.2 : Int), .int (p.1 : Int)]
theorem enum_N (l : List Nat) : enumD (encI l) = l.zipIdx.map encE := by
  unfold enumD encI
  rw [List.zipIdx_map, List.map_map]
  rfl
theorem zip_idx {γ : Type} (g : Nat → Nat → γ) (l : List Nat) (h : l.Nodup) : l.zipIdx.map (fun p => g p.1 p.2) = l.map fun a => g a (l.idxOf a) := by
  have e : l.map (fun a => g a (l.idxOf a)) = (l.zipIdx.map Prod.fst).map fun a => g a (l.idxOf a) := by rw [List.zipIdx_map_fst]
  rw [e, List.map_map]
  refine List.map_congr_left fun p hp => ?_
  obtain ⟨x, i⟩ := p
  have hi := List.mem_zipIdx hp
  simp only [Function.comp_apply]
  have hlt : i < l.length := by omega
  have ex : x = l[i] := by
    have := hi.2.2
    simpa using this
  congr 1
  subst ex
  exact (List.getElem_inj h (h₀ := hlt) (h₁ := List.idxOf_lt_length_of_mem (List.getElem_mem hlt))).mp (List.getElem_idxOf _).symm
theorem loop_goI {α β : Type} {gf : GF} {sf : SF} (enc : α → D) (E : β → Sl) (S : β → M) (st : β → α → β) (I : Nat → β → Prop) (l0 : List α) (h : ∀ j a, l0[j]? = some a → ∀ b, I j b → I (j + 1) (st b a) ∧ ∃ env1 m1, gf (.val (enc a)) (E b) (S b) = some (env1, m1) ∧ sf env1 m1 = some (.nx (E (st b a)) (S (st b a)))) : ∀ (l : List α) (j : Nat) (b : β), l0.drop j = l → I j b →
    loopL gf sf (l.map enc) (E b) (S b) = some (.nx (E (l.foldl st b)) (S (l.foldl st b))) ∧ I (j + l.length) (l.foldl st b)
  | [], j, b, _, hI => ⟨loop_nil, hI⟩
  | a :: l, j, b, hd, hI => by
    have ea : l0[j]? = some a := by
      have := congrArg (·[0]?) hd
      simpa using this
    have h' : l0.drop (j + 1) = l := by
      have := congrArg (List.drop 1) hd
      simpa [List.drop_drop, Nat.add_comm] using this
    obtain ⟨h1, env1, m1, h2, h3⟩ := h j a ea b hI
    have ih := loop_goI (gf := gf) (sf := sf) enc E S st I l0 h l (j + 1) (st b a) h' h1
    rw [List.map_cons, step_nx h2 h3, List.length_cons, show j + (l.length + 1) = j + 1 + l.length by omega]
    exact ih
/-- .. with what holds behind so many turns -/
theorem loop_foldI {α β : Type} {gf : GF} {sf : SF} (enc : α → D) (E : β → Sl) (S : β → M) (st : β → α → β) (I : Nat → β → Prop) (l : List α) (b : β) (h0 : I 0 b) (h : ∀ j a, l[j]? = some a → ∀ b, I j b → I (j + 1) (st b a) ∧ ∃ env1 m1, gf (.val (enc a)) (E b) (S b) = some (env1, m1) ∧ sf env1 m1 = some (.nx (E (st b a)) (S (st b a)))) :
    loopL gf sf (l.map enc) (E b) (S b) = some (.nx (E (l.foldl st b)) (S (l.foldl st b))) ∧ I l.length (l.foldl st b) := by
  have := loop_goI (gf := gf) (sf := sf) enc E S st I l h l 0 b rfl h0
  rwa [Nat.zero_add] at this
/-! in, not in -/
theorem lay_N (l : List Nat) : PyData.canLayAll0 (encI l) = true := by
  induction l with
  | nil => rfl
  | cons a l ih => exact ih
theorem any_N (a : Nat) (l : List Nat) : ((encI l).any fun z => PyData.eqv z (.int (a : Int))) = decide (a ∈ l) := by
  unfold encI
  rw [List.any_map]
  induction l with
  | nil => simp
  | cons b l ih =>
    rw [List.any_cons, ih]
    show (((b : Int) == (a : Int)) || decide (a ∈ l)) = _
    by_cases h : a = b
    · subst h; simp
    · have : ((b : Int) == (a : Int)) = false := by simp; omega
      simp [h, this]
theorem asLT_T {l : List Nat} {m : M} : asLT (.val (encT l)) m = some (encI l) := rfl
section
variable {a : Nat} {l : List Nat} {m : M} {r : R}
theorem pin_N (h : asLT r m = some (encI l)) : pIn (.val (.int (a : Int))) r m = some (.val (.bool (decide (a ∈ l))), m) := by
  show ((asD (.val (.int (a : Int))) m).bind fun d => (asLT r m).bind fun es => if (SeqAt.shaped d && PyData.canLayAll0 es) = true then some (R.val (.bool (if false then !(es.any fun z => PyData.eqv z d) else es.any fun z => PyData.eqv z d)), m) else none) = _
  rw [show asD (.val (.int (a : Int))) m = some (.int (a : Int)) from rfl, ob_some, h, ob_some, lay_N, show SeqAt.shaped (.int (a : Int)) = true from rfl, any_N]
  rfl
theorem pnin_N (h : asLT r m = some (encI l)) : pNin (.val (.int (a : Int))) r m = some (.val (.bool (!decide (a ∈ l))), m) := by
  show ((asD (.val (.int (a : Int))) m).bind fun d => (asLT r m).bind fun es => if (SeqAt.shaped d && PyData.canLayAll0 es) = true then some (R.val (.bool (if true then !(es.any fun z => PyData.eqv z d) else es.any fun z => PyData.eqv z d)), m) else none) = _
  rw [show asD (.val (.int (a : Int))) m = some (.int (a : Int)) from rfl, ob_some, h, ob_some, lay_N, show SeqAt.shaped (.int (a : Int)) = true from rfl, any_N]
  rfl
theorem psum_L {α : Type} (l : List α) (f : α → Nat) : pSum [.val (.list (l.map fun x => PyData.int ((f x : Nat) : Int)))] m = some (.val (.int (((l.map f).sum : Nat) : Int)), m) := by
  show ((asIs (l.map fun x => PyData.int ((f x : Nat) : Int))).bind fun ns => some (R.val (.int ns.sum), m)) = _
  rw [asIs_map' l fun x => ((f x : Nat) : Int), ob_some]
  have := sum_cast (l.map f)
  rw [List.map_map] at this
  exact congrArg (fun z => some (R.val (.int z), m)) this
end
theorem encT_app (a b : List Nat) : PyData.tuple (encI a ++ encI b) = encT (a ++ b) := by
  unfold encT encI
  rw [List.map_append]
theorem pp_TT {a b : List Nat} {m : M} (h : a.length + b.length ≤ 16777216) : pPlus (.val (encT a)) (.val (encT b)) m = some (.val (encT (a ++ b)), m) := by
  unfold encT
  rw [pp_tt (by rw [encI_len, encI_len]; exact h)]
  exact congrArg (fun z => some (R.val z, m)) (encT_app a b)
/-! sorted, what is sorted -/
theorem psort_sorted {l : List (List Nat)} {m : M} (h : l.Pairwise (· < ·)) (hne : ∀ u ∈ l, u ≠ []) (hl : l.length ≤ 16777216) : pSortedA [.val (.list (l.map encT))] m = some (.val (.list (l.map encT)), m) := by
  have e : l.mergeSort (PySem.W.dataLe false encT) = l := List.mergeSort_of_pairwise (h.imp fun {a b} q => by
    rw [PySem.W.dataLe_eq]
    show (!PySem.W.dataLt (encT b) (encT a)) = true
    rw [dataLt_T, decide_eq_false (fun z => List.lt_irrefl _ (List.lt_trans q z))]
    rfl)
  rw [psort_r (r := .val (.list (l.map encT))) (ds := l.map encT) rfl (sortable_tup l (fun u hu => ?_) fun a _ b _ => alike_T) (small_of fun d hd => ?_) (by rw [List.length_map]; exact hl), sortD_map, e]
  · cases e : u with
    | nil => exact absurd e (hne u hu)
    | cons x xs => exact ⟨_, _, rfl⟩
  · obtain ⟨u, _, rfl⟩ := List.mem_map.mp hd
    exact Nat.le_trans (depth_T u) (by decide)
/-! pairs of a number and a tuple -/
def encP (p : Nat × List Nat) : D := .tuple [.int (p.1 : Int), encT p.2]
theorem eqv_n {a b : Nat} : PyData.eqv (.int (a : Int)) (.int (b : Int)) = decide (a = b) := by
  show ((a : Int) == (b : Int)) = _
  by_cases h : a = b
  · subst h; simp
  · rw [decide_eq_false h]; simp; omega
theorem eqvs_T : ∀ x y : List Nat, PyData.eqvAll (encI x) (encI y) = decide (x = y)
  | [], [] => by simp [encI, PyData.eqvAll]
  | [], b :: y => by simp [encI, PyData.eqvAll]
  | a :: x, [] => by simp [encI, PyData.eqvAll]
  | a :: x, b :: y => by
    show (PyData.eqv (.int (a : Int)) (.int (b : Int)) && PyData.eqvAll (encI x) (encI y)) = _
    rw [eqv_n, eqvs_T x y]
    by_cases h : a = b <;> simp [h]
theorem eqv_T {x y : List Nat} : PyData.eqv (encT x) (encT y) = decide (x = y) := eqvs_T x y
theorem dataLt_P (a b : Nat × List Nat) : PySem.W.dataLt (encP a) (encP b) = decide (a.1 < b.1 ∨ (a.1 = b.1 ∧ a.2 < b.2)) := by
  obtain ⟨i, x⟩ := a
  obtain ⟨j, y⟩ := b
  unfold encP
  have hi : ∀ i j : Nat, PySem.W.dataLt (.int (i : Int)) (.int (j : Int)) = decide (i < j) := fun i j => by
    have := congrFun (congrFun (PySem.W.dataLe_int (β := Int) id) (j : Int)) (i : Int)
    rw [PySem.W.dataLe_eq] at this
    simp only [id, cond_false] at this
    have e : PySem.W.dataLt (.int (i : Int)) (.int (j : Int)) = !decide ((j : Int) ≤ i) := by rw [← this, Bool.not_not]
    rw [e]
    by_cases h : i < j
    · rw [decide_eq_true h, decide_eq_false (by omega)]; rfl
    · rw [decide_eq_false h, decide_eq_true (by omega)]; rfl
  rw [PySem.W.dataLt_pair rfl alike_T, dataLt_T, eqv_n, eqv_T, hi]
  by_cases h2 : i = j
  · subst h2
    by_cases h3 : x = y
    · subst h3; simp [List.lt_irrefl]
    · simp [h3]
  · simp [h2]
theorem alike_P {a b : Nat × List Nat} : PySem.W.alike (encP a) (encP b) = true := by
  unfold encP
  show (PySem.W.alike (.int (a.1 : Int)) (.int (b.1 : Int)) && (PySem.W.alike (encT a.2) (encT b.2) && _)) = true
  rw [alike_T]
  rfl
theorem depth_P (a : Nat × List Nat) : (encP a).depth ≤ 2 := by
  have := depth_T a.2
  show max (PyData.depth (.int (a.1 : Int))) (max (encT a.2).depth 0) + 1 ≤ 2
  have e : PyData.depth (.int (a.1 : Int)) = 0 := rfl
  omega
/-- before: by number, then by tuple -/
def ltP (a b : Nat × List Nat) : Prop := a.1 < b.1 ∨ (a.1 = b.1 ∧ a.2 < b.2)
instance (a b : Nat × List Nat) : Decidable (ltP a b) := by unfold ltP; infer_instance
theorem ltP_trans {a b c : Nat × List Nat} (h : ltP a b) (k : ltP b c) : ltP a c := by
  unfold ltP at *
  rcases h with h | ⟨h1, h2⟩ <;> rcases k with k | ⟨k1, k2⟩
  · exact .inl (by omega)
  · exact .inl (by omega)
  · exact .inl (by omega)
  · exact .inr ⟨by omega, List.lt_trans h2 k2⟩
theorem ltP_irr (a : Nat × List Nat) : ¬ ltP a a := fun h => by
  rcases h with h | ⟨_, h⟩
  · omega
  · exact List.lt_irrefl _ h
theorem ltP_tot {a b : Nat × List Nat} (h : ¬ ltP a b) (k : ¬ ltP b a) : a = b := by
  obtain ⟨i, x⟩ := a
  obtain ⟨j, y⟩ := b
  unfold ltP at *
  have e : i = j := by omega
  subst e
  have e2 : x = y := List.le_antisymm (List.not_lt.mp fun z => k (.inr ⟨rfl, z⟩)) (List.not_lt.mp fun z => h (.inr ⟨rfl, z⟩))
  rw [e2]
theorem minD_P : ∀ (l : List (Nat × List Nat)) (x : Nat × List Nat), ∃ r, PySem.W.minD (encP x) (l.map encP) = encP r ∧ r ∈ x :: l ∧ ∀ y ∈ x :: l, ¬ ltP y r
  | [], x => ⟨x, rfl, by simp, fun y hy => by rw [List.mem_singleton.mp hy]; exact ltP_irr x⟩
  | z :: l, x => by
    have e : PySem.W.minD (encP x) ((z :: l).map encP) = PySem.W.minD (if ltP z x then encP z else encP x) (l.map encP) := by
      show PySem.W.minD (if PySem.W.dataLt (encP z) (encP x) = true then encP z else encP x) (l.map encP) = _
      rw [dataLt_P]
      unfold ltP
      simp only [decide_eq_true_eq]
    by_cases c : ltP z x
    · obtain ⟨r, h1, h2, h3⟩ := minD_P l z
      refine ⟨r, by rw [e, if_pos c]; exact h1, List.mem_cons_of_mem _ h2, fun y hy => ?_⟩
      rcases List.mem_cons.mp hy with q | q
      · rw [q]
        exact fun h => h3 z (by simp) (ltP_trans c h)
      · exact h3 y q
    · obtain ⟨r, h1, h2, h3⟩ := minD_P l x
      refine ⟨r, by rw [e, if_neg c]; exact h1, ?_, fun y hy => ?_⟩
      · rcases List.mem_cons.mp h2 with q | q
        · rw [q]; simp
        · exact List.mem_cons_of_mem _ (List.mem_cons_of_mem _ q)
      · rcases List.mem_cons.mp hy with q | q
        · rw [q]; exact h3 x (by simp)
        · rcases List.mem_cons.mp q with q | q
          · rw [q]
            intro h
            by_cases k : ltP x z
            · exact h3 x (by simp) (ltP_trans k h)
            · rw [ltP_tot c k] at h
              exact h3 x (by simp) h
          · exact h3 y (List.mem_cons_of_mem _ q)
theorem alikeB_of {ds : List D} (h : ∀ a ∈ ds, ∀ b ∈ ds, PySem.W.alike a b = true) (hn : ∀ a ∈ ds, a ≠ .none) : alikeB ds = true := by
  unfold alikeB
  rw [Bool.and_eq_true]
  refine ⟨List.all_eq_true.mpr fun d hd => List.all_eq_true.mpr fun e he => h d hd e he, ?_⟩
  rw [List.all_eq_true]
  intro d hd
  have := hn d hd
  cases d <;> first | rfl | exact absurd rfl this
theorem pmin_P {l : List (Nat × List Nat)} {m : M} (ne : l ≠ []) : ∃ r, pMin [.val (.list (l.map encP))] m = some (.val (encP r), m) ∧ r ∈ l ∧ ∀ y ∈ l, ¬ ltP y r := by
  cases l with
  | nil => exact absurd rfl ne
  | cons x l =>
    obtain ⟨r, h1, h2, h3⟩ := minD_P l x
    refine ⟨r, ?_, h2, h3⟩
    have hx : ∀ d ∈ encP x :: l.map encP, ∃ a, d = encP a := fun d hd => by
      rw [← List.map_cons] at hd
      obtain ⟨a, _, rfl⟩ := List.mem_map.mp hd
      exact ⟨a, rfl⟩
    have al : alikeB (encP x :: l.map encP) = true := alikeB_of (fun a ha b hb => by
      obtain ⟨a, rfl⟩ := hx a ha
      obtain ⟨b, rfl⟩ := hx b hb
      exact alike_P) fun a ha => by
      obtain ⟨a, rfl⟩ := hx a ha
      exact fun z => nomatch z
    have sm : smallAll (encP x :: l.map encP) = true := small_of fun d hd => by
      obtain ⟨a, rfl⟩ := hx d hd
      exact Nat.le_trans (depth_P a) (by decide)
    rw [List.map_cons, pmin_1 (d := encP x) (ds := l.map encP) rfl al sm, h1]
theorem pixP0 {p : Nat × List Nat} {m : M} : pIdx (.val (encP p)) (.val (.int 0)) m = some (.val (.int (p.1 : Int)), m) := by
  unfold encP
  rw [pix_t, atI_0]
  rfl
theorem pixP1 {p : Nat × List Nat} {m : M} : pIdx (.val (encP p)) (.val (.int 1)) m = some (.val (encT p.2), m) := by
  unfold encP
  rw [pix_t, atI_1]
  rfl
/-! loops by what holds behind so many turns -/
theorem loop_inv_go {α : Type} {gf : GF} {sf : SF} (enc : α → D) (P : Nat → Sl → M → Prop) (l0 : List α) (h : ∀ j a, l0[j]? = some a → ∀ env m, P j env m → ∃ env1 m1 env2 m2, gf (.val (enc a)) env m = some (env1, m1) ∧ sf env1 m1 = some (.nx env2 m2) ∧ P (j + 1) env2 m2) : ∀ (l : List α) (j : Nat) (env : Sl) (m : M), l0.drop j = l → P j env m →
    ∃ env' m', loopL gf sf (l.map enc) env m = some (.nx env' m') ∧ P (j + l.length) env' m'
  | [], j, env, m, _, hI => ⟨env, m, loop_nil, hI⟩
  | a :: l, j, env, m, hd, hI => by
    have ea : l0[j]? = some a := by
      have := congrArg (·[0]?) hd
      simpa using this
    have h' : l0.drop (j + 1) = l := by
      have := congrArg (List.drop 1) hd
      simpa [List.drop_drop, Nat.add_comm] using this
    obtain ⟨env1, m1, env2, m2, h2, h3, h1⟩ := h j a ea env m hI
    obtain ⟨e', m', i1, i2⟩ := loop_inv_go (gf := gf) (sf := sf) enc P l0 h l (j + 1) env2 m2 h' h1
    refine ⟨e', m', ?_, ?_⟩
    · rw [List.map_cons, step_nx h2 h3]
      exact i1
    · rw [List.length_cons, show j + (l.length + 1) = j + 1 + l.length by omega]
      exact i2
theorem loop_inv {α : Type} {gf : GF} {sf : SF} (enc : α → D) (P : Nat → Sl → M → Prop) (l : List α) (env : Sl) (m : M) (h0 : P 0 env m) (h : ∀ j a, l[j]? = some a → ∀ env m, P j env m → ∃ env1 m1 env2 m2, gf (.val (enc a)) env m = some (env1, m1) ∧ sf env1 m1 = some (.nx env2 m2) ∧ P (j + 1) env2 m2) :
    ∃ env' m', loopL gf sf (l.map enc) env m = some (.nx env' m') ∧ P l.length env' m' := by
  obtain ⟨e', m', h1, h2⟩ := loop_inv_go (gf := gf) (sf := sf) enc P l h l 0 env m rfl h0
  exact ⟨e', m', h1, by rwa [Nat.zero_add] at h2⟩
theorem step_bk {sf : SF} {gf : GF} {d : D} {ds : List D} {env env1 env2 : Sl} {m m1 m2 : M} (hg : gf (.val d) env m = some (env1, m1)) (hb : sf env1 m1 = some (.bk env2 m2)) : loopL gf sf (d :: ds) env m = some (.nx env2 m2) := by
  show ((gf (.val d) env m).bind fun x => (sf x.1 x.2).bind fun fl => aftF fl (loopL gf sf ds)) = _
  rw [hg]
  simp only [Option.bind_some]
  rw [hb]
  rfl
/-- .. where a turn may leave the loop -/
theorem loop_brk_go {α : Type} {gf : GF} {sf : SF} (enc : α → D) (P : Nat → Sl → M → Prop) (Q : Sl → M → Prop) (l0 : List α) (h : ∀ j a, l0[j]? = some a → ∀ env m, P j env m → ∃ env1 m1 env2 m2, gf (.val (enc a)) env m = some (env1, m1) ∧ ((sf env1 m1 = some (.nx env2 m2) ∧ P (j + 1) env2 m2) ∨ (sf env1 m1 = some (.bk env2 m2) ∧ Q env2 m2))) : ∀ (l : List α) (j : Nat) (env : Sl) (m : M), l0.drop j = l → P j env m →
    ∃ env' m', loopL gf sf (l.map enc) env m = some (.nx env' m') ∧ (P (j + l.length) env' m' ∨ Q env' m')
  | [], j, env, m, _, hI => ⟨env, m, loop_nil, .inl hI⟩
  | a :: l, j, env, m, hd, hI => by
    have ea : l0[j]? = some a := by
      have := congrArg (·[0]?) hd
      simpa using this
    have h' : l0.drop (j + 1) = l := by
      have := congrArg (List.drop 1) hd
      simpa [List.drop_drop, Nat.add_comm] using this
    obtain ⟨env1, m1, env2, m2, h2, h3⟩ := h j a ea env m hI
    rcases h3 with ⟨h3, h1⟩ | ⟨h3, h1⟩
    · obtain ⟨e', m', i1, i2⟩ := loop_brk_go (gf := gf) (sf := sf) enc P Q l0 h l (j + 1) env2 m2 h' h1
      refine ⟨e', m', ?_, ?_⟩
      · rw [List.map_cons, step_nx h2 h3]
        exact i1
      · rw [List.length_cons, show j + (l.length + 1) = j + 1 + l.length by omega]
        exact i2
    · exact ⟨env2, m2, by rw [List.map_cons, step_bk h2 h3], .inr h1⟩
theorem loop_brk {α : Type} {gf : GF} {sf : SF} (enc : α → D) (P : Nat → Sl → M → Prop) (Q : Sl → M → Prop) (l : List α) (env : Sl) (m : M) (h0 : P 0 env m) (h : ∀ j a, l[j]? = some a → ∀ env m, P j env m → ∃ env1 m1 env2 m2, gf (.val (enc a)) env m = some (env1, m1) ∧ ((sf env1 m1 = some (.nx env2 m2) ∧ P (j + 1) env2 m2) ∨ (sf env1 m1 = some (.bk env2 m2) ∧ Q env2 m2))) :
    ∃ env' m', loopL gf sf (l.map enc) env m = some (.nx env' m') ∧ (P l.length env' m' ∨ Q env' m') := by
  obtain ⟨e', m', h1, h2⟩ := loop_brk_go (gf := gf) (sf := sf) enc P Q l h l 0 env m rfl h0
  exact ⟨e', m', h1, by rwa [Nat.zero_add] at h2⟩
theorem ev_par3 {i j l : Nat} {fa : AF} {env : Sl} {m : M} : sPar3 i j l fa env m = (fa env m).bind fun x => match x.1 with
  | [a, b, c] => some (.nx (((env.set i (some a)).set j (some b)).set l (some c)) x.2)
  | _ => none := nr rfl
/-! equality of known data -/
structure Lay (d : D) : Prop where
  sh : SeqAt.shaped d = true
theorem shaped_of {d : D} (h1 : PyData.canLay0 d = true) (h2 : d.depth ≤ 64) : SeqAt.shaped d = true := by
  unfold SeqAt.shaped
  rw [h1, decide_eq_true h2]
  rfl
theorem canT (l : List Nat) : PyData.canLay0 (encT l) = true := lay_N l
theorem canTs : ∀ l : List (List Nat), PyData.canLayAll0 (l.map encT) = true
  | [] => rfl
  | a :: l => by
    show (PyData.canLay0 (encT a) && PyData.canLayAll0 (l.map encT)) = true
    rw [canT, canTs l]
    rfl
theorem shT (l : List Nat) : SeqAt.shaped (encT l) = true := shaped_of (canT l) (Nat.le_trans (depth_T l) (by decide))
theorem shLT (l : List (List Nat)) : SeqAt.shaped (.list (l.map encT)) = true := shaped_of (canTs l) (by
  have : PyData.depthAll (l.map encT) ≤ 1 := depth_of fun d hd => by
    obtain ⟨a, _, rfl⟩ := List.mem_map.mp hd
    exact depth_T a
  show PyData.depthAll (l.map encT) + 1 ≤ 64
  omega)
theorem shTT (l : List (List Nat)) : SeqAt.shaped (.tuple (l.map encT)) = true := shaped_of (canTs l) (by
  have : PyData.depthAll (l.map encT) ≤ 1 := depth_of fun d hd => by
    obtain ⟨a, _, rfl⟩ := List.mem_map.mp hd
    exact depth_T a
  show PyData.depthAll (l.map encT) + 1 ≤ 64
  omega)
theorem shP (p : Nat × List Nat) : SeqAt.shaped (encP p) = true := shaped_of (by
  show (PyData.canLay0 (.int (p.1 : Int)) && (PyData.canLay0 (encT p.2) && true)) = true
  rw [canT]
  rfl) (Nat.le_trans (depth_P p) (by decide))
section
variable {m : M} {d e : D}
theorem peq_dd (h1 : SeqAt.shaped d = true) (h2 : SeqAt.shaped e = true) : pEq (.val d) (.val e) m = some (.val (.bool (PyData.eqv d e)), m) := by
  show (if (SeqAt.shaped d && SeqAt.shaped e) = true then some (R.val (.bool (if false then !PyData.eqv d e else PyData.eqv d e)), m) else none) = _
  rw [h1, h2]
  rfl
theorem pne_dd (h1 : SeqAt.shaped d = true) (h2 : SeqAt.shaped e = true) : pNe (.val d) (.val e) m = some (.val (.bool (!PyData.eqv d e)), m) := by
  show (if (SeqAt.shaped d && SeqAt.shaped e) = true then some (R.val (.bool (if true then !PyData.eqv d e else PyData.eqv d e)), m) else none) = _
  rw [h1, h2]
  rfl
end
theorem eqv_P {p q : Nat × List Nat} : PyData.eqv (encP p) (encP q) = decide (p = q) := by
  obtain ⟨i, x⟩ := p
  obtain ⟨j, y⟩ := q
  show (PyData.eqv (.int (i : Int)) (.int (j : Int)) && (PyData.eqv (encT x) (encT y) && true)) = _
  rw [eqv_n, eqv_T]
  by_cases h : i = j <;> by_cases k : x = y <;> simp [h, k]
theorem eqv_TT : ∀ x y : List (List Nat), PyData.eqvAll (x.map encT) (y.map encT) = decide (x = y)
  | [], [] => by simp [PyData.eqvAll]
  | [], b :: y => by simp [PyData.eqvAll]
  | a :: x, [] => by simp [PyData.eqvAll]
  | a :: x, b :: y => by
    show (PyData.eqv (encT a) (encT b) && PyData.eqvAll (x.map encT) (y.map encT)) = _
    rw [eqv_T, eqv_TT x y]
    by_cases h : a = b <;> simp [h]
theorem eqv_LT {x y : List (List Nat)} : PyData.eqv (.list (x.map encT)) (.list (y.map encT)) = decide (x = y) := eqv_TT x y
theorem eqv_LN {x y : List Nat} : PyData.eqv (.list (encI x)) (.list (encI y)) = decide (x = y) := eqvs_T x y
theorem any_TT (a : List Nat) (l : List (List Nat)) : ((l.map encT).any fun z => PyData.eqv z (encT a)) = decide (a ∈ l) := by
  rw [List.any_map]
  induction l with
  | nil => simp
  | cons b l ih =>
    rw [List.any_cons, ih]
    show (PyData.eqv (encT b) (encT a) || decide (a ∈ l)) = _
    rw [eqv_T]
    by_cases h : a = b
    · subst h; simp
    · simp [h, show ¬ b = a from fun z => h z.symm]
section
variable {m : M} {a : List Nat} {l : List (List Nat)} {r : R}
theorem pin_TT (h : asLT r m = some (l.map encT)) : pIn (.val (encT a)) r m = some (.val (.bool (decide (a ∈ l))), m) := by
  show ((asD (.val (encT a)) m).bind fun d => (asLT r m).bind fun es => if (SeqAt.shaped d && PyData.canLayAll0 es) = true then some (R.val (.bool (if false then !(es.any fun z => PyData.eqv z d) else es.any fun z => PyData.eqv z d)), m) else none) = _
  rw [show asD (.val (encT a)) m = some (encT a) from rfl, ob_some, h, ob_some, canTs, shT, any_TT]
  rfl
theorem pnin_TT (h : asLT r m = some (l.map encT)) : pNin (.val (encT a)) r m = some (.val (.bool (!decide (a ∈ l))), m) := by
  show ((asD (.val (encT a)) m).bind fun d => (asLT r m).bind fun es => if (SeqAt.shaped d && PyData.canLayAll0 es) = true then some (R.val (.bool (if true then !(es.any fun z => PyData.eqv z d) else es.any fun z => PyData.eqv z d)), m) else none) = _
  rw [show asD (.val (encT a)) m = some (encT a) from rfl, ob_some, h, ob_some, canTs, shT, any_TT]
  rfl
end
/-- data that all tell lists -/
theorem unmap {α : Type} {enc : α → D} {P : α → Prop} : ∀ {ds : List D}, (∀ d ∈ ds, ∃ a, d = enc a ∧ P a) → ∃ l : List α, ds = l.map enc ∧ ∀ a ∈ l, P a
  | [], _ => ⟨[], rfl, fun a h => by cases h⟩
  | d :: ds, h => by
    obtain ⟨a, rfl, ha⟩ := h d (by simp)
    obtain ⟨l, rfl, hl⟩ := unmap (ds := ds) fun x hx => h x (List.mem_cons_of_mem _ hx)
    exact ⟨a :: l, rfl, fun x hx => by
      rcases List.mem_cons.mp hx with q | q
      · rw [q]; exact ha
      · exact hl x q⟩
theorem sh_P {p : Nat × List Nat} (h : p.1 < 1000000000000000000000000) (k : ∀ a ∈ p.2, a < 1000000000000000000000000) (hl : p.2.length ≤ 1000) : Sh 100000 2 (encP p) := by
  have s1 : Sh 81 0 (.int (p.1 : Int)) := Sh.int (by omega)
  have s2 : Sh 90000 1 (encT p.2) := (Sh.tup (sh_encI k)).up (by omega) (by decide)
  exact (Sh.tup (ShA.cons s1 (ShA.cons s2 ShA.nil))).up (by decide) (by decide)
/-! lists and tuples, values or objects -/
theorem asLT_app {r : R} {m t : M} {ds : List D} (h : asLT r m = some ds) : asLT r (m ++ t) = some ds := by
  cases r with
  | val d => cases d <;> first | exact h | (cases h; done)
  | tp rs => cases h
  | ref k =>
    have e : ∀ mm : M, asLT (.ref k) mm = (mm[k]?).bind fun ob => match ob with
      | .lst ds => some ds
      | .dct _ _ _ => none := fun mm => by
      show (match mm[k]? with
        | some (.lst ds) => some ds
        | _ => none) = _
      cases mm[k]? with
      | none => rfl
      | some o => cases o <;> rfl
    rw [e] at h ⊢
    obtain ⟨ob, h1, h2⟩ := bind_some_iff h
    rw [List.getElem?_append_left (List.getElem?_eq_some_iff.mp h1).1, h1, ob_some]
    exact h2
theorem pidx_L {r : R} {a : Nat} {l : List Nat} {m : M} (h : asL r m = some (encI l)) (ha : a ∈ l) : pIndex r [.val (.int (a : Int))] m = some (.val (.int ((l.idxOf a : Nat) : Int)), m) := by
  show ((asD (.val (.int (a : Int))) m).bind fun d => (asL r m).bind fun ds => if (SeqAt.shaped (.list ds) && SeqAt.shaped d) = true then (firstEq d ds).bind fun j => some (R.val (.int j), m) else none) = _
  have e1 : asD (.val (.int (a : Int))) m = some (.int (a : Int)) := rfl
  have e2 : SeqAt.shaped (.int (a : Int)) = true := rfl
  rw [e1, ob_some, h, ob_some, lay_ints, e2]
  simp only [Bool.and_self, if_true, firstEq_N ha, ob_some]
theorem loop_ref_go {α : Type} {gf : GF} {sf : SF} (enc : α → D) (P : Nat → Sl → M → Prop) (k : Nat) (l0 : List α) (hk : ∀ j env m, P j env m → m[k]? = some (.lst (l0.map enc))) (h : ∀ j a, l0[j]? = some a → ∀ env m, P j env m → ∃ env1 m1 env2 m2, gf (.val (enc a)) env m = some (env1, m1) ∧ sf env1 m1 = some (.nx env2 m2) ∧ P (j + 1) env2 m2) : ∀ (l : List α) (j : Nat) (env : Sl) (m : M), l0.drop j = l → P j env m →
    ∃ env' m', loop (srcR k) gf sf l.length j env m = some (.nx env' m') ∧ P (j + l.length) env' m'
  | [], j, env, m, hd, hI => by
    have e : (l0.map enc)[j]? = none := by rw [List.getElem?_eq_none_iff, List.length_map]; simpa using hd
    exact ⟨env, m, endR (hk j env m hI) e, hI⟩
  | a :: l, j, env, m, hd, hI => by
    have ea : l0[j]? = some a := by
      have := congrArg (·[0]?) hd
      simpa using this
    have h' : l0.drop (j + 1) = l := by
      have := congrArg (List.drop 1) hd
      simpa [List.drop_drop, Nat.add_comm] using this
    have e : (l0.map enc)[j]? = some (enc a) := by rw [List.getElem?_map, ea]; rfl
    obtain ⟨env1, m1, env2, m2, h2, h3, h1⟩ := h j a ea env m hI
    obtain ⟨e', m', i1, i2⟩ := loop_ref_go (gf := gf) (sf := sf) enc P k l0 hk h l (j + 1) env2 m2 h' h1
    refine ⟨e', m', ?_, ?_⟩
    · rw [List.length_cons, stepR_nx (hk j env m hI) e h2 h3]
      exact i1
    · rw [List.length_cons, show j + (l.length + 1) = j + 1 + l.length by omega]
      exact i2
/-- a loop over a list or tuple, be it a value or an object that stays -/
theorem loop_inv_r {α : Type} {gf : GF} {sf : SF} {r : R} (enc : α → D) (P : Nat → Sl → M → Prop) (l : List α) (env : Sl) (m : M) (hr : asLT r m = some (l.map enc)) (hk : ∀ j env m, P j env m → asLT r m = some (l.map enc)) (h0 : P 0 env m) (h : ∀ j a, l[j]? = some a → ∀ env m, P j env m → ∃ env1 m1 env2 m2, gf (.val (enc a)) env m = some (env1, m1) ∧ sf env1 m1 = some (.nx env2 m2) ∧ P (j + 1) env2 m2) :
    ∃ env' m', runI (an1 r m) gf sf env = some (.nx env' m') ∧ P l.length env' m' := by
  cases r with
  | tp rs => cases hr
  | val d =>
    have e : an1 (.val d) m = iL (l.map enc) m := by
      cases d <;> first | (cases hr; done) | (have e2 := Option.some.inj hr; rw [← e2]; rfl)
    rw [e, run_iL]
    exact loop_inv enc P l env m h0 h
  | ref k =>
    have e : ∀ mm : M, asLT (.ref k) mm = some (l.map enc) → mm[k]? = some (.lst (l.map enc)) := fun mm z => by
      have z' : (match mm[k]? with
        | some (.lst ds) => some ds
        | _ => none) = some (l.map enc) := z
      split at z'
      · rename_i ds hd
        cases z'
        exact hd
      · cases z'
    rw [run_ref (e m hr), List.length_map]
    obtain ⟨e', m', h1, h2⟩ := loop_ref_go (gf := gf) (sf := sf) enc P k l (fun j env m p => e m (hk j env m p)) h l 0 env m rfl h0
    exact ⟨e', m', h1, by rwa [Nat.zero_add] at h2⟩
theorem pp_LL {a b : R} {m : M} {xs ys : List D} (ha : asL a m = some xs) (hb : asL b m = some ys) (hl : xs.length + ys.length ≤ 16777216) : pPlus a b m = some (.val (.list (xs ++ ys)), m) := by
  have e0 : pAddN a b m = none := by
    cases a with
    | tp _ => cases ha
    | ref k => rfl
    | val d =>
      cases d <;> first | (cases ha; done) | skip
      cases b with
      | tp _ => cases hb
      | ref k => rfl
      | val e => cases e <;> first | (cases hb; done) | rfl
  show (match pAddN a b m with
    | some x => some x
    | none => pCatLf a b m) = _
  rw [e0]
  show ((asL a m).bind fun xs => (asL b m).bind fun ys => if xs.length + ys.length ≤ sizeLine then some (R.val (.list (xs ++ ys)), m) else none) = _
  rw [ha, ob_some, hb, ob_some, sz, if_pos hl]
end Ev

set_option Elab.async false
set_option linter.all false
set_option maxRecDepth 100000
set_option maxHeartbeats 1000000
/-! max(xs, key=f), min(xs, key=f): f may make objects, the store stays. -/
namespace PySem.W
open PySem PySem.Calls PyProof.Rows
/-- the place of the best key, gone through from the left -/
def pickI (bt : Nat → Nat → Bool) : Nat → Nat → Nat → Nat
  | 0, _, b => b
  | r + 1, j, b => pickI bt r (j + 1) (if bt j b = true then j else b)
section
variable {prog : Program} {w : World} {A : Around} {E : Value → Shared → Prop} {l I S f : Addr} {n : Nat} {kz : List PyData} {J : Nat → List Value → List Value → Shared → Prop} {R : Result → Shared → Prop}

theorem kx_min_loop (hh : A.handled = none) (hlI : l ≠ I) (hSI : S ≠ I) (hJ : ∀ j ks ws s, J j ks ws s → (∃ vs : List Value, s.heap.IsList l vs.toArray ∧ vs.length = n) ∧ ks.length = j ∧ ws.length = j ∧ ∀ i k, ks[i]? = some k → ∃ as, Reads s.heap k (kz.getD i .none) as)
    (mv : ∀ j ks ws s h' tk, J j ks ws s → (∀ b o, b ∉ [I, S] → s.heap.get? b = some o → h'.get? b = some o) → J j ks ws { s with heap := h', toks := tk })
    (hal : ∀ i j, i < n → j < n → alike (kz.getD i .none) (kz.getD j .none) = true ∧ kz.getD i .none ≠ .none ∧ A.units + 1 + (kz.getD i .none).depth < cLine)
    (turn : ∀ j v vs ks ws s oI oS, vs[j]? = some v → s.heap.IsList l (List.toArray vs) → J j ks ws s → s.heap.get? I = some oI → s.heap.get? S = some oS → wpAny (model prog w) A.in1 (call (.ref f) [v]) (fun k s' => J (j + 1) (ks ++ [k]) (ws ++ [v]) s' ∧ s'.heap.get? I = some oI ∧ s'.heap.get? S = some oS) (fun _ _ => False) s)
    (hR : ∀ ks ws s v, ws[pickI (fun i j => dataLt (kz.getD i .none) (kz.getD j .none)) (n - 1) 1 0]? = some v → J n ks ws s → R (.ok (.ret v)) s) :
    ∀ (r j i : Nat) (s : Shared) (ks ws : List Value) (vb kb : Value) (c : Nat), n - (j + 1) = r → j + 1 ≤ n → J (j + 1) ks ws s → s.heap.get? S = some (seqObj "list" #[vb, kb] c) → s.heap.IsListIter I l (j + 1) → ws[i]? = some vb → ks[i]? = some kb → i ≤ j →
      pickI (fun i j => dataLt (kz.getD i .none) (kz.getD j .none)) r (j + 1) i = pickI (fun i j => dataLt (kz.getD i .none) (kz.getD j .none)) (n - 1) 1 0 →
      codeAny (model prog w) A (.builtin "min.loop" ⟨[.ref I, .ref f, .ref S], []⟩) R s := by
  have hname : (toString "min" ++ toString ".loop" : String) = "min.loop" := by decide
  intro r
  induction r with
  | zero =>
    intro j i s ks ws vb kb c hr hj hJs gS hit hvb hkb hij hp
    have hin : j + 1 = n := by omega
    obtain ⟨⟨vs, hvs, hvn⟩, _⟩ := hJ _ _ _ _ hJs
    have W := Walks.list (prog := prog) (w := w) (A := A.in1) hh I l hlI vs.toArray
    have hsz : vs.toArray.size = vs.length := List.size_toArray ..
    refine codeAny_builtin PySem.F.entry_min_loop ?_
    rw [Around.under_plainId PySem.F.plain_min_loop _]
    show wpAny _ A.in1 (seqItems? (.ref S) >>= _) _ _ _
    refine wpAny_bind (wpAny_seqItems gS rfl ?_)
    show wpAny _ A.in1 (tryCatch (pyNext (.ref I)) _ >>= _) _ _ _
    refine wpAny_bind (wpAny_tryCatch (W.done _ _ _ ⟨by rw [hsz, hvn, ← hin]; exact hit, hvs⟩ fun h' tk' hk' => ?_))
    have J1 := mv _ _ _ _ h' tk' hJs fun b o hb e => hk' b o (fun z => hb (by rw [List.mem_singleton.mp z]; simp)) e
    have gS' := hk' S _ (by simpa using hSI) gS
    have s1 := Heap.SameBut.update h' S (Obj.mapSeq fun _ => (#[] : Array Value))
    show wpAny _ A.in1 (updateSeq S (fun _ => #[]) >>= _) _ _ _
    refine wpAny_bind ?_
    refine wpAny_updateSeq gS' rfl (wpAny_bind (wpAny_letGo (wpAny_pure ?_)))
    have J2 := mv _ _ _ _ (h'.update S (Obj.mapSeq fun _ => (#[] : Array Value))) tk' J1 fun b o hb e => (s1.2 b (fun z => hb (by rw [z]; simp))).trans e
    rw [hin] at J2
    refine hR ks ws _ vb ?_ J2
    rw [← hp]
    exact hvb
  | succ r ih =>
    intro j i s ks ws vb kb c hr hj hJs gS hit hvb hkb hij hp
    have hlt : j + 1 < n := by omega
    obtain ⟨⟨vs, hvs, hvn⟩, _⟩ := hJ _ _ _ _ hJs
    have W := Walks.list (prog := prog) (w := w) (A := A.in1) hh I l hlI vs.toArray
    have hsz : vs.toArray.size = vs.length := List.size_toArray ..
    refine codeAny_builtin PySem.F.entry_min_loop ?_
    rw [Around.under_plainId PySem.F.plain_min_loop _]
    show wpAny _ A.in1 (seqItems? (.ref S) >>= _) _ _ _
    refine wpAny_bind (wpAny_seqItems gS rfl ?_)
    show wpAny _ A.in1 (tryCatch (pyNext (.ref I)) _ >>= _) _ _ _
    refine wpAny_bind (wpAny_tryCatch (W.item (j + 1) _ _ _ (by rw [hsz, hvn]; exact hlt) ⟨hit, hvs⟩ fun v h' tk' hP hst' hk' => ?_))
    have hv : vs[j + 1]? = some v := by simpa using hP
    obtain ⟨oI, goI, hoc, hod⟩ := id hst'.1
    have J1 := mv _ _ _ _ h' tk' hJs fun b o hb e => hk' b o (fun z => hb (by rw [List.mem_singleton.mp z]; simp)) e
    have gS' := hk' S _ (by simpa using hSI) gS
    show wpAny _ A.in1 (tryCatch (holding [v] (call (.ref f) [v])) _ >>= _) _ _ _
    refine wpAny_bind (wpAny_tryCatch (wpAny_holding (wpAny_mono (turn (j + 1) v vs ks ws _ oI _ hv hst'.2 J1 goI gS') (fun x s2 he => ?_) fun _ _ hF => hF.elim)))
    obtain ⟨J2, gI2, gS2⟩ := he
    obtain ⟨hl2, hks2, hws2, hrd⟩ := hJ _ _ _ _ J2
    have hkl : ks.length = j + 1 := (hJ _ _ _ _ J1).2.1
    have hwl : ws.length = j + 1 := (hJ _ _ _ _ J1).2.2.1
    have hxw : (ws ++ [v])[j + 1]? = some v := by rw [List.getElem?_append_right (by omega), hwl]; simp
    have hbw : (ws ++ [v])[i]? = some vb := by
      rw [List.getElem?_append_left (by omega)]
      exact hvb
    have hxk : (ks ++ [x])[j + 1]? = some x := by rw [List.getElem?_append_right (by omega), hkl]; simp
    have hbk : (ks ++ [x])[i]? = some kb := by
      rw [List.getElem?_append_left (by omega)]
      exact hkb
    obtain ⟨as1, r1⟩ := hrd _ _ hxk
    obtain ⟨as2, r2⟩ := hrd _ _ hbk
    have hit2 : s2.heap.IsListIter I l (j + 1 + 1) := ⟨oI, gI2, hoc, hod⟩
    have hu := (hal (j + 1) i hlt (by omega)).2.2
    have al := (hal (j + 1) i hlt (by omega)).1
    show wpAny _ A.in1 (tryCatch (holding [v, x] (richCompare .Lt x kb >>= _)) _ >>= _) _ _ _
    have step : ∀ (Q : Value → Shared → Prop) (E : Value → Shared → Prop), Q (.bool ((fun i j => dataLt (kz.getD i .none) (kz.getD j .none)) (j + 1) i)) s2 → wpAny (model prog w) A.in1 (richCompare .Lt x kb) Q E s2 := fun Q E hq => by
      refine rcLt_alike _ _ A.in1 s2 x kb _ _ r1 r2 al (hal (j + 1) i hlt (by omega)).2.1 ?_ prog w E Q hq
      have := Nat.min_le_left (kz.getD (j + 1) .none).depth (kz.getD i .none).depth
      show A.units + 1 + _ < cLine
      omega
    refine wpAny_bind (wpAny_tryCatch (wpAny_holding (wpAny_bind (step _ _ ?_))))
    refine wpAny_bind (wpAny_holding (wpAny_truthy_bool ?_))
    refine wpAny_bind (wpAny_letGo (wpAny_pure ?_))
    have hp' : pickI (fun i j => dataLt (kz.getD i .none) (kz.getD j .none)) r (j + 1 + 1) (if (fun i j => dataLt (kz.getD i .none) (kz.getD j .none)) (j + 1) i = true then j + 1 else i) = pickI (fun i j => dataLt (kz.getD i .none) (kz.getD j .none)) (n - 1) 1 0 := hp
    by_cases hb' : (fun i j => dataLt (kz.getD i .none) (kz.getD j .none)) (j + 1) i = true
    · have s1 := Heap.SameBut.update s2.heap S (Obj.mapSeq fun _ => #[v, x])
      obtain ⟨c2, hc2⟩ : ∃ c2, (s2.heap.update S (Obj.mapSeq fun _ => #[v, x])).get? S = some (seqObj "list" #[v, x] c2) := ⟨_, get?_update_seq gS2 fun _ => #[v, x]⟩
      rw [if_pos hb'] at hp'
      simp only [hb', if_true]
      refine wpAny_bind ?_
      refine wpAny_updateSeq gS2 rfl (wpAny_bind (wpAny_letGo ?_))
      rw [hname]
      refine wpAny_pure ⟨plainId_quiet PySem.F.plain_min_loop _, ih (j + 1) (j + 1) _ (ks ++ [x]) (ws ++ [v]) v x c2 (by omega) hlt (mv _ _ _ _ _ _ J2 fun b o hb e => (s1.2 b (fun z => hb (by rw [z]; simp))).trans e) hc2 ⟨oI, (s1.2 I hSI.symm).trans gI2, hoc, hod⟩ hxw hxk (Nat.le_refl _) hp'⟩
    · rw [if_neg hb'] at hp'
      have hb2 : (fun i j => dataLt (kz.getD i .none) (kz.getD j .none)) (j + 1) i = false := by simpa using hb'
      simp only [hb2, Bool.false_eq_true, if_false]
      refine wpAny_bind (wpAny_letGo ?_)
      rw [hname]
      exact wpAny_pure ⟨plainId_quiet PySem.F.plain_min_loop _, ih (j + 1) i _ (ks ++ [x]) (ws ++ [v]) vb kb _ (by omega) hlt J2 gS2 hit2 hbw hbk (by omega) hp'⟩
theorem kx_min {s : Shared} {vs : List Value} {Q : Value → Shared → Prop} (hh : A.handled = none) (hls : s.heap.IsList l vs.toArray) (hvn : vs.length = n) (hne : 0 < n)
    (hJ : ∀ j ks ws s, J j ks ws s → (∃ vs : List Value, s.heap.IsList l vs.toArray ∧ vs.length = n) ∧ ks.length = j ∧ ws.length = j ∧ ∀ i k, ks[i]? = some k → ∃ as, Reads s.heap k (kz.getD i .none) as)
    (h0 : ∀ h', (∀ b o, s.heap.get? b = some o → h'.get? b = some o) → J 0 [] [] { s with heap := h' })
    (mv : ∀ j ks ws s1 h' tk, J j ks ws s1 → (∀ b o, b ∉ [s.heap.objs.size, s.heap.objs.size + 1] → s1.heap.get? b = some o → h'.get? b = some o) → J j ks ws { s1 with heap := h', toks := tk })
    (hal : ∀ i j, i < n → j < n → alike (kz.getD i .none) (kz.getD j .none) = true ∧ kz.getD i .none ≠ .none ∧ A.units + 1 + (kz.getD i .none).depth < cLine)
    (turn : ∀ j v vs ks ws s1 oI oS, vs[j]? = some v → s1.heap.IsList l (List.toArray vs) → J j ks ws s1 → s1.heap.get? s.heap.objs.size = some oI → s1.heap.get? (s.heap.objs.size + 1) = some oS → wpAny (model prog w) A.in1 (call (.ref f) [v]) (fun k s' => J (j + 1) (ks ++ [k]) (ws ++ [v]) s' ∧ s'.heap.get? s.heap.objs.size = some oI ∧ s'.heap.get? (s.heap.objs.size + 1) = some oS) (fun _ _ => False) s1)
    (hQ : ∀ ks ws s1 v, ws[pickI (fun i j => dataLt (kz.getD i .none) (kz.getD j .none)) (n - 1) 1 0]? = some v → J n ks ws s1 → Q v s1) :
    wpAny (model prog w) A (call (.builtin "min") [.ref l] [(Str.ofString "key", .ref f)]) Q E s := by
  have hname : (toString "min" ++ toString ".loop" : String) = "min.loop" := by decide
  obtain ⟨ol, hol, _⟩ := id hls
  have hll : l < s.heap.objs.size := Heap.lt_size hol
  refine kmk_tree PySem.F.kind_min PySem.F.plain_min PySem.F.entry_min (kmk_min_key _ _) ?_
  show wpAny _ A.in1 (Builtin.Builtins.bindParams "min" ["key", "default"] 0 ⟨[], [(Str.ofString "key", .ref f)]⟩ >>= _) _ _ s
  refine wpAny_bind (wpAny_of_eq (show Builtin.Builtins.bindParams "min" ["key", "default"] 0 ⟨[], [(Str.ofString "key", .ref f)]⟩ = pure [some (.ref f), none] from rfl) ?_)
  refine wpAny_bind (wpAny_pure ?_)
  refine wpAny_bind (wpAny_pyIter_list hls ?_)
  refine wpAny_bind (wpAny_newList ?_ (Nat.zero_le _))
  rw [hname]
  have hS : (s.heap.push { cls := .type "list_iterator", data := .fields #[.ref l, .int 0 0] }).objs.size = s.heap.objs.size + 1 := size_push' ..
  have hlI : l ≠ s.heap.objs.size := Nat.ne_of_lt hll
  have hSI : s.heap.objs.size + 1 ≠ s.heap.objs.size := Nat.succ_ne_self _
  refine wpAny_pure ⟨plainId_quiet PySem.F.plain_min_loop _, ?_⟩
  rw [hS]
  have up : ∀ b o, s.heap.get? b = some o → ((s.heap.push { cls := .type "list_iterator", data := .fields #[.ref l, .int 0 0] }).push (seqObj "list" #[] 0)).get? b = some o := fun b o e => Heap.get?_push_of_some _ (Heap.get?_push_of_some _ e)
  have J0 := h0 _ up
  have gI : ((s.heap.push { cls := .type "list_iterator", data := .fields #[.ref l, .int 0 0] }).push (seqObj "list" #[] 0)).get? s.heap.objs.size = some { cls := .type "list_iterator", data := .fields #[.ref l, .int 0 0] } := Heap.get?_push_of_some _ (Heap.get?_push_size _ rfl)
  have gS : ((s.heap.push { cls := .type "list_iterator", data := .fields #[.ref l, .int 0 0] }).push (seqObj "list" #[] 0)).get? (s.heap.objs.size + 1) = some (seqObj "list" #[] 0) := by
    rw [← hS]
    exact Heap.get?_push_size _ rfl
  have W := Walks.list (prog := prog) (w := w) (A := A.in1) hh s.heap.objs.size l hlI vs.toArray
  have hsz : vs.toArray.size = vs.length := List.size_toArray ..
  refine codeAny_builtin PySem.F.entry_min_loop ?_
  rw [Around.under_plainId PySem.F.plain_min_loop _]
  show wpAny _ A.in1 (seqItems? (.ref _) >>= _) _ _ _
  refine wpAny_bind (wpAny_seqItems gS rfl ?_)
  show wpAny _ A.in1 (tryCatch (pyNext (.ref s.heap.objs.size)) _ >>= _) _ _ _
  refine wpAny_bind (wpAny_tryCatch (W.item 0 _ _ _ (by rw [hsz, hvn]; exact hne) ⟨⟨_, gI, rfl, rfl⟩, Heap.IsList.at hls (fun o e => up _ o e)⟩ fun v h' tk' hP hst' hk' => ?_))
  have hv : vs[0]? = some v := by simpa using hP
  obtain ⟨oI, goI, hoc, hod⟩ := id hst'.1
  have J1 := mv _ _ _ _ h' tk' J0 fun b o hb e => hk' b o (fun z => hb (by rw [List.mem_singleton.mp z]; simp)) e
  have gS' := hk' (s.heap.objs.size + 1) _ (by simp) gS
  show wpAny _ A.in1 (tryCatch (holding [v] (call (.ref f) [v])) _ >>= _) _ _ _
  refine wpAny_bind (wpAny_tryCatch (wpAny_holding (wpAny_mono (turn 0 v vs [] [] _ oI _ hv hst'.2 J1 goI gS') (fun x s2 he => ?_) fun _ _ hF => hF.elim)))
  obtain ⟨J2, gI2, gS2⟩ := he
  have s1 := Heap.SameBut.update s2.heap (s.heap.objs.size + 1) (Obj.mapSeq fun _ => #[v, x])
  obtain ⟨c2, hc2⟩ : ∃ c2, (s2.heap.update (s.heap.objs.size + 1) (Obj.mapSeq fun _ => #[v, x])).get? (s.heap.objs.size + 1) = some (seqObj "list" #[v, x] c2) := ⟨_, get?_update_seq gS2 fun _ => #[v, x]⟩
  show wpAny _ A.in1 (updateSeq (s.heap.objs.size + 1) (fun _ => #[v, x]) >>= _) _ _ _
  refine wpAny_bind ?_
  refine wpAny_updateSeq gS2 rfl ?_
  rw [hname]
  exact wpAny_pure ⟨plainId_quiet PySem.F.plain_min_loop _, kx_min_loop hh hlI hSI hJ mv hal turn (fun ks s1 v h1 h2 => hQ ks s1 v h1 h2) (n - 1) 0 0 _ [x] [v] v x c2 (by omega) hne (mv _ _ _ _ _ _ J2 fun b o hb e => (s1.2 b (fun z => hb (by rw [z]; simp))).trans e) hc2 ⟨oI, (s1.2 _ hSI.symm).trans gI2, hoc, hod⟩ rfl rfl (Nat.le_refl _) rfl⟩

theorem kx_max_loop (hh : A.handled = none) (hlI : l ≠ I) (hSI : S ≠ I) (hJ : ∀ j ks ws s, J j ks ws s → (∃ vs : List Value, s.heap.IsList l vs.toArray ∧ vs.length = n) ∧ ks.length = j ∧ ws.length = j ∧ ∀ i k, ks[i]? = some k → ∃ as, Reads s.heap k (kz.getD i .none) as)
    (mv : ∀ j ks ws s h' tk, J j ks ws s → (∀ b o, b ∉ [I, S] → s.heap.get? b = some o → h'.get? b = some o) → J j ks ws { s with heap := h', toks := tk })
    (hal : ∀ i j, i < n → j < n → alike (kz.getD i .none) (kz.getD j .none) = true ∧ kz.getD i .none ≠ .none ∧ A.units + 1 + (kz.getD i .none).depth < cLine)
    (turn : ∀ j v vs ks ws s oI oS, vs[j]? = some v → s.heap.IsList l (List.toArray vs) → J j ks ws s → s.heap.get? I = some oI → s.heap.get? S = some oS → wpAny (model prog w) A.in1 (call (.ref f) [v]) (fun k s' => J (j + 1) (ks ++ [k]) (ws ++ [v]) s' ∧ s'.heap.get? I = some oI ∧ s'.heap.get? S = some oS) (fun _ _ => False) s)
    (hR : ∀ ks ws s v, ws[pickI (fun i j => dataLt (kz.getD j .none) (kz.getD i .none)) (n - 1) 1 0]? = some v → J n ks ws s → R (.ok (.ret v)) s) :
    ∀ (r j i : Nat) (s : Shared) (ks ws : List Value) (vb kb : Value) (c : Nat), n - (j + 1) = r → j + 1 ≤ n → J (j + 1) ks ws s → s.heap.get? S = some (seqObj "list" #[vb, kb] c) → s.heap.IsListIter I l (j + 1) → ws[i]? = some vb → ks[i]? = some kb → i ≤ j →
      pickI (fun i j => dataLt (kz.getD j .none) (kz.getD i .none)) r (j + 1) i = pickI (fun i j => dataLt (kz.getD j .none) (kz.getD i .none)) (n - 1) 1 0 →
      codeAny (model prog w) A (.builtin "max.loop" ⟨[.ref I, .ref f, .ref S], []⟩) R s := by
  have hname : (toString "max" ++ toString ".loop" : String) = "max.loop" := by decide
  intro r
  induction r with
  | zero =>
    intro j i s ks ws vb kb c hr hj hJs gS hit hvb hkb hij hp
    have hin : j + 1 = n := by omega
    obtain ⟨⟨vs, hvs, hvn⟩, _⟩ := hJ _ _ _ _ hJs
    have W := Walks.list (prog := prog) (w := w) (A := A.in1) hh I l hlI vs.toArray
    have hsz : vs.toArray.size = vs.length := List.size_toArray ..
    refine codeAny_builtin PySem.F.entry_max_loop ?_
    rw [Around.under_plainId PySem.F.plain_max_loop _]
    show wpAny _ A.in1 (seqItems? (.ref S) >>= _) _ _ _
    refine wpAny_bind (wpAny_seqItems gS rfl ?_)
    show wpAny _ A.in1 (tryCatch (pyNext (.ref I)) _ >>= _) _ _ _
    refine wpAny_bind (wpAny_tryCatch (W.done _ _ _ ⟨by rw [hsz, hvn, ← hin]; exact hit, hvs⟩ fun h' tk' hk' => ?_))
    have J1 := mv _ _ _ _ h' tk' hJs fun b o hb e => hk' b o (fun z => hb (by rw [List.mem_singleton.mp z]; simp)) e
    have gS' := hk' S _ (by simpa using hSI) gS
    have s1 := Heap.SameBut.update h' S (Obj.mapSeq fun _ => (#[] : Array Value))
    show wpAny _ A.in1 (updateSeq S (fun _ => #[]) >>= _) _ _ _
    refine wpAny_bind ?_
    refine wpAny_updateSeq gS' rfl (wpAny_bind (wpAny_letGo (wpAny_pure ?_)))
    have J2 := mv _ _ _ _ (h'.update S (Obj.mapSeq fun _ => (#[] : Array Value))) tk' J1 fun b o hb e => (s1.2 b (fun z => hb (by rw [z]; simp))).trans e
    rw [hin] at J2
    refine hR ks ws _ vb ?_ J2
    rw [← hp]
    exact hvb
  | succ r ih =>
    intro j i s ks ws vb kb c hr hj hJs gS hit hvb hkb hij hp
    have hlt : j + 1 < n := by omega
    obtain ⟨⟨vs, hvs, hvn⟩, _⟩ := hJ _ _ _ _ hJs
    have W := Walks.list (prog := prog) (w := w) (A := A.in1) hh I l hlI vs.toArray
    have hsz : vs.toArray.size = vs.length := List.size_toArray ..
    refine codeAny_builtin PySem.F.entry_max_loop ?_
    rw [Around.under_plainId PySem.F.plain_max_loop _]
    show wpAny _ A.in1 (seqItems? (.ref S) >>= _) _ _ _
    refine wpAny_bind (wpAny_seqItems gS rfl ?_)
    show wpAny _ A.in1 (tryCatch (pyNext (.ref I)) _ >>= _) _ _ _
    refine wpAny_bind (wpAny_tryCatch (W.item (j + 1) _ _ _ (by rw [hsz, hvn]; exact hlt) ⟨hit, hvs⟩ fun v h' tk' hP hst' hk' => ?_))
    have hv : vs[j + 1]? = some v := by simpa using hP
    obtain ⟨oI, goI, hoc, hod⟩ := id hst'.1
    have J1 := mv _ _ _ _ h' tk' hJs fun b o hb e => hk' b o (fun z => hb (by rw [List.mem_singleton.mp z]; simp)) e
    have gS' := hk' S _ (by simpa using hSI) gS
    show wpAny _ A.in1 (tryCatch (holding [v] (call (.ref f) [v])) _ >>= _) _ _ _
    refine wpAny_bind (wpAny_tryCatch (wpAny_holding (wpAny_mono (turn (j + 1) v vs ks ws _ oI _ hv hst'.2 J1 goI gS') (fun x s2 he => ?_) fun _ _ hF => hF.elim)))
    obtain ⟨J2, gI2, gS2⟩ := he
    obtain ⟨hl2, hks2, hws2, hrd⟩ := hJ _ _ _ _ J2
    have hkl : ks.length = j + 1 := (hJ _ _ _ _ J1).2.1
    have hwl : ws.length = j + 1 := (hJ _ _ _ _ J1).2.2.1
    have hxw : (ws ++ [v])[j + 1]? = some v := by rw [List.getElem?_append_right (by omega), hwl]; simp
    have hbw : (ws ++ [v])[i]? = some vb := by
      rw [List.getElem?_append_left (by omega)]
      exact hvb
    have hxk : (ks ++ [x])[j + 1]? = some x := by rw [List.getElem?_append_right (by omega), hkl]; simp
    have hbk : (ks ++ [x])[i]? = some kb := by
      rw [List.getElem?_append_left (by omega)]
      exact hkb
    obtain ⟨as1, r1⟩ := hrd _ _ hxk
    obtain ⟨as2, r2⟩ := hrd _ _ hbk
    have hit2 : s2.heap.IsListIter I l (j + 1 + 1) := ⟨oI, gI2, hoc, hod⟩
    have hu := (hal (j + 1) i hlt (by omega)).2.2
    have al := (hal (j + 1) i hlt (by omega)).1
    show wpAny _ A.in1 (tryCatch (holding [v, x] (richCompare .Gt x kb >>= _)) _ >>= _) _ _ _
    have step : ∀ (Q : Value → Shared → Prop) (E : Value → Shared → Prop), Q (.bool ((fun i j => dataLt (kz.getD j .none) (kz.getD i .none)) (j + 1) i)) s2 → wpAny (model prog w) A.in1 (richCompare .Gt x kb) Q E s2 := fun Q E hq => by
      refine rcGt_alike _ _ A.in1 s2 x kb _ _ r1 r2 al (hal (j + 1) i hlt (by omega)).2.1 ?_ prog w E Q hq
      have := Nat.min_le_left (kz.getD (j + 1) .none).depth (kz.getD i .none).depth
      show A.units + 1 + _ < cLine
      omega
    refine wpAny_bind (wpAny_tryCatch (wpAny_holding (wpAny_bind (step _ _ ?_))))
    refine wpAny_bind (wpAny_holding (wpAny_truthy_bool ?_))
    refine wpAny_bind (wpAny_letGo (wpAny_pure ?_))
    have hp' : pickI (fun i j => dataLt (kz.getD j .none) (kz.getD i .none)) r (j + 1 + 1) (if (fun i j => dataLt (kz.getD j .none) (kz.getD i .none)) (j + 1) i = true then j + 1 else i) = pickI (fun i j => dataLt (kz.getD j .none) (kz.getD i .none)) (n - 1) 1 0 := hp
    by_cases hb' : (fun i j => dataLt (kz.getD j .none) (kz.getD i .none)) (j + 1) i = true
    · have s1 := Heap.SameBut.update s2.heap S (Obj.mapSeq fun _ => #[v, x])
      obtain ⟨c2, hc2⟩ : ∃ c2, (s2.heap.update S (Obj.mapSeq fun _ => #[v, x])).get? S = some (seqObj "list" #[v, x] c2) := ⟨_, get?_update_seq gS2 fun _ => #[v, x]⟩
      rw [if_pos hb'] at hp'
      simp only [hb', if_true]
      refine wpAny_bind ?_
      refine wpAny_updateSeq gS2 rfl (wpAny_bind (wpAny_letGo ?_))
      rw [hname]
      refine wpAny_pure ⟨plainId_quiet PySem.F.plain_max_loop _, ih (j + 1) (j + 1) _ (ks ++ [x]) (ws ++ [v]) v x c2 (by omega) hlt (mv _ _ _ _ _ _ J2 fun b o hb e => (s1.2 b (fun z => hb (by rw [z]; simp))).trans e) hc2 ⟨oI, (s1.2 I hSI.symm).trans gI2, hoc, hod⟩ hxw hxk (Nat.le_refl _) hp'⟩
    · rw [if_neg hb'] at hp'
      have hb2 : (fun i j => dataLt (kz.getD j .none) (kz.getD i .none)) (j + 1) i = false := by simpa using hb'
      simp only [hb2, Bool.false_eq_true, if_false]
      refine wpAny_bind (wpAny_letGo ?_)
      rw [hname]
      exact wpAny_pure ⟨plainId_quiet PySem.F.plain_max_loop _, ih (j + 1) i _ (ks ++ [x]) (ws ++ [v]) vb kb _ (by omega) hlt J2 gS2 hit2 hbw hbk (by omega) hp'⟩
theorem kx_max {s : Shared} {vs : List Value} {Q : Value → Shared → Prop} (hh : A.handled = none) (hls : s.heap.IsList l vs.toArray) (hvn : vs.length = n) (hne : 0 < n)
    (hJ : ∀ j ks ws s, J j ks ws s → (∃ vs : List Value, s.heap.IsList l vs.toArray ∧ vs.length = n) ∧ ks.length = j ∧ ws.length = j ∧ ∀ i k, ks[i]? = some k → ∃ as, Reads s.heap k (kz.getD i .none) as)
    (h0 : ∀ h', (∀ b o, s.heap.get? b = some o → h'.get? b = some o) → J 0 [] [] { s with heap := h' })
    (mv : ∀ j ks ws s1 h' tk, J j ks ws s1 → (∀ b o, b ∉ [s.heap.objs.size, s.heap.objs.size + 1] → s1.heap.get? b = some o → h'.get? b = some o) → J j ks ws { s1 with heap := h', toks := tk })
    (hal : ∀ i j, i < n → j < n → alike (kz.getD i .none) (kz.getD j .none) = true ∧ kz.getD i .none ≠ .none ∧ A.units + 1 + (kz.getD i .none).depth < cLine)
    (turn : ∀ j v vs ks ws s1 oI oS, vs[j]? = some v → s1.heap.IsList l (List.toArray vs) → J j ks ws s1 → s1.heap.get? s.heap.objs.size = some oI → s1.heap.get? (s.heap.objs.size + 1) = some oS → wpAny (model prog w) A.in1 (call (.ref f) [v]) (fun k s' => J (j + 1) (ks ++ [k]) (ws ++ [v]) s' ∧ s'.heap.get? s.heap.objs.size = some oI ∧ s'.heap.get? (s.heap.objs.size + 1) = some oS) (fun _ _ => False) s1)
    (hQ : ∀ ks ws s1 v, ws[pickI (fun i j => dataLt (kz.getD j .none) (kz.getD i .none)) (n - 1) 1 0]? = some v → J n ks ws s1 → Q v s1) :
    wpAny (model prog w) A (call (.builtin "max") [.ref l] [(Str.ofString "key", .ref f)]) Q E s := by
  have hname : (toString "max" ++ toString ".loop" : String) = "max.loop" := by decide
  obtain ⟨ol, hol, _⟩ := id hls
  have hll : l < s.heap.objs.size := Heap.lt_size hol
  refine kmk_tree PySem.F.kind_max PySem.F.plain_max PySem.F.entry_max (kmk_max_key _ _) ?_
  show wpAny _ A.in1 (Builtin.Builtins.bindParams "max" ["key", "default"] 0 ⟨[], [(Str.ofString "key", .ref f)]⟩ >>= _) _ _ s
  refine wpAny_bind (wpAny_of_eq (show Builtin.Builtins.bindParams "max" ["key", "default"] 0 ⟨[], [(Str.ofString "key", .ref f)]⟩ = pure [some (.ref f), none] from rfl) ?_)
  refine wpAny_bind (wpAny_pure ?_)
  refine wpAny_bind (wpAny_pyIter_list hls ?_)
  refine wpAny_bind (wpAny_newList ?_ (Nat.zero_le _))
  rw [hname]
  have hS : (s.heap.push { cls := .type "list_iterator", data := .fields #[.ref l, .int 0 0] }).objs.size = s.heap.objs.size + 1 := size_push' ..
  have hlI : l ≠ s.heap.objs.size := Nat.ne_of_lt hll
  have hSI : s.heap.objs.size + 1 ≠ s.heap.objs.size := Nat.succ_ne_self _
  refine wpAny_pure ⟨plainId_quiet PySem.F.plain_max_loop _, ?_⟩
  rw [hS]
  have up : ∀ b o, s.heap.get? b = some o → ((s.heap.push { cls := .type "list_iterator", data := .fields #[.ref l, .int 0 0] }).push (seqObj "list" #[] 0)).get? b = some o := fun b o e => Heap.get?_push_of_some _ (Heap.get?_push_of_some _ e)
  have J0 := h0 _ up
  have gI : ((s.heap.push { cls := .type "list_iterator", data := .fields #[.ref l, .int 0 0] }).push (seqObj "list" #[] 0)).get? s.heap.objs.size = some { cls := .type "list_iterator", data := .fields #[.ref l, .int 0 0] } := Heap.get?_push_of_some _ (Heap.get?_push_size _ rfl)
  have gS : ((s.heap.push { cls := .type "list_iterator", data := .fields #[.ref l, .int 0 0] }).push (seqObj "list" #[] 0)).get? (s.heap.objs.size + 1) = some (seqObj "list" #[] 0) := by
    rw [← hS]
    exact Heap.get?_push_size _ rfl
  have W := Walks.list (prog := prog) (w := w) (A := A.in1) hh s.heap.objs.size l hlI vs.toArray
  have hsz : vs.toArray.size = vs.length := List.size_toArray ..
  refine codeAny_builtin PySem.F.entry_max_loop ?_
  rw [Around.under_plainId PySem.F.plain_max_loop _]
  show wpAny _ A.in1 (seqItems? (.ref _) >>= _) _ _ _
  refine wpAny_bind (wpAny_seqItems gS rfl ?_)
  show wpAny _ A.in1 (tryCatch (pyNext (.ref s.heap.objs.size)) _ >>= _) _ _ _
  refine wpAny_bind (wpAny_tryCatch (W.item 0 _ _ _ (by rw [hsz, hvn]; exact hne) ⟨⟨_, gI, rfl, rfl⟩, Heap.IsList.at hls (fun o e => up _ o e)⟩ fun v h' tk' hP hst' hk' => ?_))
  have hv : vs[0]? = some v := by simpa using hP
  obtain ⟨oI, goI, hoc, hod⟩ := id hst'.1
  have J1 := mv _ _ _ _ h' tk' J0 fun b o hb e => hk' b o (fun z => hb (by rw [List.mem_singleton.mp z]; simp)) e
  have gS' := hk' (s.heap.objs.size + 1) _ (by simp) gS
  show wpAny _ A.in1 (tryCatch (holding [v] (call (.ref f) [v])) _ >>= _) _ _ _
  refine wpAny_bind (wpAny_tryCatch (wpAny_holding (wpAny_mono (turn 0 v vs [] [] _ oI _ hv hst'.2 J1 goI gS') (fun x s2 he => ?_) fun _ _ hF => hF.elim)))
  obtain ⟨J2, gI2, gS2⟩ := he
  have s1 := Heap.SameBut.update s2.heap (s.heap.objs.size + 1) (Obj.mapSeq fun _ => #[v, x])
  obtain ⟨c2, hc2⟩ : ∃ c2, (s2.heap.update (s.heap.objs.size + 1) (Obj.mapSeq fun _ => #[v, x])).get? (s.heap.objs.size + 1) = some (seqObj "list" #[v, x] c2) := ⟨_, get?_update_seq gS2 fun _ => #[v, x]⟩
  show wpAny _ A.in1 (updateSeq (s.heap.objs.size + 1) (fun _ => #[v, x]) >>= _) _ _ _
  refine wpAny_bind ?_
  refine wpAny_updateSeq gS2 rfl ?_
  rw [hname]
  exact wpAny_pure ⟨plainId_quiet PySem.F.plain_max_loop _, kx_max_loop hh hlI hSI hJ mv hal turn (fun ks s1 v h1 h2 => hQ ks s1 v h1 h2) (n - 1) 0 0 _ [x] [v] v x c2 (by omega) hne (mv _ _ _ _ _ _ J2 fun b o hb e => (s1.2 b (fun z => hb (by rw [z]; simp))).trans e) hc2 ⟨oI, (s1.2 _ hSI.symm).trans gI2, hoc, hod⟩ rfl rfl (Nat.le_refl _) rfl⟩
end
end PySem.W

set_option Elab.async false
set_option linter.all false
set_option maxRecDepth 100000
set_option maxHeartbeats 1000000
/-! max(xs, key=lambda p: ..), min(..): the rules. -/
namespace Ev
open PySem PySem.Spec PyProof.Rows L2 LamX
open Classical in
/-- keys whose making leaves the store as it is -/
noncomputable def kfoldS (fk : D → M → Option (D × M)) (m : M) : List D → Option (List D)
  | [] => some []
  | d :: ds => (fk d m).bind fun x => if x.2 = m then (kfoldS fk m ds).bind fun ys => some (x.1 :: ys) else none
def betD : Bool → D → D → Bool
  | false, a, b => PySem.W.dataLt a b
  | true, a, b => PySem.W.dataLt b a
def pickD (mx : Bool) (p : D × D) (ps : List (D × D)) : D × D := ps.foldl (fun b q => if betD mx q.1 b.1 = true then q else b) p
noncomputable def bestKF (mx : Bool) (fk : D → M → Option (D × M)) (ds : List D) (m : M) : Option (R × M) := (kfoldS fk m ds).bind fun ks => match ks.zip ds with
  | [] => none
  | p :: ps => if (alikeB ks && smallAll ks) = true then some (.val (pickD mx p ps).2, m) else none
theorem kfoldS_at {fk : D → M → Option (D × M)} {m : M} : ∀ {ds ks : List D}, kfoldS fk m ds = some ks → ks.length = ds.length ∧ ∀ (i : Nat) (d : D), ds[i]? = some d → ∃ k, ks[i]? = some k ∧ fk d m = some (k, m)
  | [], _, h => by
    cases h
    exact ⟨rfl, fun i d e => by simp at e⟩
  | d :: ds, ks, h => by
    unfold kfoldS at h
    obtain ⟨⟨k, m1⟩, h1, h⟩ := bind_some_iff h
    simp only at h
    split at h
    case isFalse => cases h
    rename_i hm
    obtain ⟨ys, h2, h⟩ := bind_some_iff h
    cases h
    obtain ⟨a, b⟩ := kfoldS_at h2
    refine ⟨by rw [List.length_cons, List.length_cons, a], fun i d' e => ?_⟩
    cases i with
    | zero =>
      cases e
      exact ⟨k, rfl, by rw [h1, hm]⟩
    | succ i => exact b i d' e
theorem pick_place (bt : D → D → Bool) (ks ds : List D) (hl : ks.length = ds.length) : ∀ (r j b : Nat), j + r = ds.length → b < j →
    ∃ h : PySem.W.pickI (fun i j => bt (ks.getD i .none) (ks.getD j .none)) r j b < ds.length,
      ((ks.zip ds).drop j).foldl (fun b q => if bt q.1 b.1 = true then q else b) (ks.getD b .none, ds.getD b .none) = (ks.getD (PySem.W.pickI (fun i j => bt (ks.getD i .none) (ks.getD j .none)) r j b) .none, ds.getD (PySem.W.pickI (fun i j => bt (ks.getD i .none) (ks.getD j .none)) r j b) .none)
  | 0, j, b, h, hb => by
    have : (ks.zip ds).drop j = [] := List.drop_eq_nil_of_le (by rw [List.length_zip]; omega)
    rw [this]
    exact ⟨by show b < _; omega, rfl⟩
  | r + 1, j, b, h, hb => by
    have hj : j < ds.length := by omega
    have hjk : j < ks.length := by omega
    have hz : j < (ks.zip ds).length := by rw [List.length_zip]; omega
    have e : (ks.zip ds).drop j = (ks.getD j .none, ds.getD j .none) :: (ks.zip ds).drop (j + 1) := by
      rw [List.drop_eq_getElem_cons hz, List.getElem_zip]
      simp [List.getD_eq_getElem?_getD, hj, hjk]
    rw [e, List.foldl_cons]
    have hb2 : (if bt (ks.getD j .none) (ks.getD b .none) = true then j else b) < j + 1 := by split <;> omega
    obtain ⟨a1, a2⟩ := pick_place bt ks ds hl r (j + 1) (if bt (ks.getD j .none) (ks.getD b .none) = true then j else b) (by omega) hb2
    refine ⟨a1, ?_⟩
    have e2 : (if bt (ks.getD j .none) (ks.getD b .none) = true then (ks.getD j PyData.none, ds.getD j PyData.none) else (ks.getD b .none, ds.getD b .none)) = (ks.getD (if bt (ks.getD j .none) (ks.getD b .none) = true then j else b) .none, ds.getD (if bt (ks.getD j .none) (ks.getD b .none) = true then j else b) .none) := by split <;> rfl
    show List.foldl _ (if bt (ks.getD j .none) (ks.getD b .none) = true then (ks.getD j PyData.none, ds.getD j PyData.none) else (ks.getD b .none, ds.getD b .none)) _ = _
    rw [e2]
    exact a2
theorem pickI_congr {bt bt' : Nat → Nat → Bool} (h : ∀ i j, bt i j = bt' i j) : PySem.W.pickI bt = PySem.W.pickI bt' := by
  have : bt = bt' := by funext i j; exact h i j
  rw [this]
section
variable {X : Cx} {pins : List (Addr × Obj)} {σ : L2.St} {H : Hp} {s : Shared} {k : Nat} {bs : List Bool} {fb : EF} {p : Str} {f : Addr}
theorem bestK_core {mx : Bool} {φ : Ad} {env : Sl} {m m' : M} {r rl : R} {ds : List D} {v : V} {u : Value} {Q : VK} (hc : X.calm = true) (I : Inv X pins σ H s) (hr : Room (k + 2) X.A) (S : SR ζ X.K φ H m) (E : ER X.K φ H σ env) (L : LamAt ζ X k bs fb p f s H) (hev : bestKF mx (keyF fb bs env) ds m = some (r, m'))
    (R : RR X.K φ H v rl) (rv : RelV v u) (hl : asL rl m = some ds) (q : ∀ φ2 H2 v2, Gr φ H φ2 H2 → SR ζ X.K φ2 H2 m' → RR X.K φ2 H2 v2 r → Q v2 H2) :
    wpAny (model X.prog X.w) X.A (PySem.call (.builtin (if mx = true then "max" else "min")) [u] [(Str.ofString "key", .ref f)]) (EP X pins σ Q) X.xe s := by
  obtain ⟨ks, hk, hev⟩ := bind_some_iff hev
  split at hev
  · cases hev
  rename_i p0 ps hz
  split at hev
  case isFalse => cases hev
  rename_i hc2
  cases hev
  rw [Bool.and_eq_true] at hc2
  obtain ⟨c1, c2⟩ := hc2
  obtain ⟨hkl, hka⟩ := kfoldS_at hk
  have hsm := of_decide_eq_true c2
  have hun := hr.un
  obtain ⟨a, xs, rfl, hs, hd⟩ := seqL_of S R hl
  obtain rfl : u = Value.ref a := rv
  obtain ⟨its, rvs, pl, hzl⟩ := I.list hs
  have hdl := DpAll.len hd
  have hil := rvs.length
  have hne : 0 < its.length := by
    have := congrArg List.length hz
    rw [List.length_zip, List.length_cons] at this
    omega
  obtain ⟨of, hof⟩ := L.here
  have hflt : f < s.heap.objs.size := Heap.lt_size hof
  have nS : ∀ b : Addr, s.heap.objs.size ≤ b → H b = none := fun b hb => I.hok.fresh hb
  have nF : ∀ b : Addr, s.heap.objs.size ≤ b → b ∉ frs X.stack := fun b hb z => by
    rcases List.mem_cons.mp (I.stkSub _ z) with e | e
    · have h1 := I.lt
      rw [← e] at h1
      exact Nat.lt_irrefl _ (Nat.lt_of_lt_of_le h1 hb)
    · exact I.nofs hb e
  have fp : ∀ {H' : Hp} {b : Addr}, s.heap.objs.size ≤ b → H' b = none → FpOk X pins H' b := fun hb h => I.fpOk hb h
  have hal : ∀ i j, i < its.length → j < its.length → PySem.W.alike (ks.getD i .none) (ks.getD j .none) = true ∧ ks.getD i .none ≠ .none ∧ X.A.units + 1 + (ks.getD i .none).depth < cLine := fun i j hi hj => by
    have mi : ks.getD i .none ∈ ks := by
      rw [List.getD_eq_getElem?_getD, List.getElem?_eq_getElem (by omega : i < ks.length)]
      exact List.getElem_mem _
    have mj : ks.getD j .none ∈ ks := by
      rw [List.getD_eq_getElem?_getD, List.getElem?_eq_getElem (by omega : j < ks.length)]
      exact List.getElem_mem _
    unfold alikeB at c1
    rw [Bool.and_eq_true] at c1
    refine ⟨List.all_eq_true.mp (List.all_eq_true.mp c1.1 _ mi) _ mj, fun z => ?_, ?_⟩
    · have := List.all_eq_true.mp c1.2 _ mi
      rw [z] at this
      cases this
    · have := depth_all mi
      omega
  let J : Nat → List Value → List Value → Shared → Prop := fun j kv ws s' => ∃ φ' H', Inv X pins σ H' s' ∧ Gr φ H φ' H' ∧ SR ζ X.K φ' H' m ∧ H' s.heap.objs.size = none ∧ H' (s.heap.objs.size + 1) = none ∧ H' f = none ∧ s'.heap.get? f = s.heap.get? f ∧ kv.length = j ∧ ws.length = j ∧ (∀ (i : Nat) (k : Value), kv[i]? = some k → ∃ d, ks[i]? = some d ∧ Rk X.K φ' H' k d) ∧ (∀ (i : Nat) (w : Value), ws[i]? = some w → ∃ d, ds[i]? = some d ∧ Rk X.K φ' H' w d)
  have hlist : ∀ {φ' H' s'}, Inv X pins σ H' s' → Gr φ H φ' H' → SR ζ X.K φ' H' m → ∃ (xs : List V) (vs : List Value), s'.heap.IsList a vs.toArray ∧ vs.length = its.length ∧ Vals xs vs ∧ DpAll X.K (off φ' H') xs ds := fun {φ' H' s'} I' g S' => by
    obtain ⟨a', xs', e, hs', hd'⟩ := seqL_of S' (R.mono g) hl
    cases e
    obtain ⟨its', rvs', pl', _⟩ := I'.list hs'
    exact ⟨xs', its', pl'.isList, by rw [← rvs'.length, DpAll.len hd', ← hdl, hil], rvs', hd'⟩
  have hJ : ∀ j kv ws s', J j kv ws s' → (∃ vs : List Value, s'.heap.IsList a vs.toArray ∧ vs.length = its.length) ∧ kv.length = j ∧ ws.length = j ∧ ∀ i k, kv[i]? = some k → ∃ as, Reads s'.heap k (ks.getD i .none) as := fun j kv ws s' ⟨φ', H', I', g, S', _, _, _, _, h1, h2, h3, _⟩ => by
    obtain ⟨_, vs, v1, v2, _⟩ := hlist I' g S'
    refine ⟨⟨vs, v1, v2⟩, h1, h2, fun i k hk => ?_⟩
    obtain ⟨d, hd, x, rx, dx⟩ := h3 i k hk
    rw [List.getD_eq_getElem?_getD, hd]
    exact Dp.reads I' _ _ _ (dp_mono off_same dx) rx
  have h0 : ∀ h', (∀ b o, s.heap.get? b = some o → h'.get? b = some o) → J 0 [] [] { s with heap := h' } := fun h' up => by
    refine ⟨φ, H, I.kept (t' := s.toks) up, .refl, S, nS _ (Nat.le_refl _), nS _ (Nat.le_succ _), L.free, ?_, rfl, rfl, fun i k e => (by simp at e), fun i k e => (by simp at e)⟩
    rw [hof]
    exact up _ _ hof
  have mv : ∀ j kv ws s1 h' tk, J j kv ws s1 → (∀ b o, b ∉ [s.heap.objs.size, s.heap.objs.size + 1] → s1.heap.get? b = some o → h'.get? b = some o) → J j kv ws { s1 with heap := h', toks := tk } := fun j kv ws s1 h' tk ⟨φ', H', I', g, S', n1, n2, n3, hf, h1, h2, h3, h4⟩ up => by
    refine ⟨φ', H', I'.turnedL (t' := tk) (ch := [s.heap.objs.size, s.heap.objs.size + 1]) (fun b o hb e => up b o hb e) (fun b hb => ?_), g, S', n1, n2, n3, ?_, h1, h2, h3, h4⟩
    · rcases List.mem_cons.mp hb with z | z
      · rw [z]; exact fp (Nat.le_refl _) n1
      · rw [List.mem_singleton.mp z]; exact fp (Nat.le_succ _) n2
    · rw [hof] at hf ⊢
      exact up f _ (fun z => by
        rcases List.mem_cons.mp z with z | z
        · exact Nat.lt_irrefl _ (z ▸ hflt)
        · exact Nat.lt_irrefl _ (Nat.lt_succ_of_lt (List.mem_singleton.mp z ▸ hflt))) hf
  have turn : ∀ j v vs kv ws s1 oI oS, vs[j]? = some v → s1.heap.IsList a (List.toArray vs) → J j kv ws s1 → s1.heap.get? s.heap.objs.size = some oI → s1.heap.get? (s.heap.objs.size + 1) = some oS → wpAny (model X.prog X.w) X.A.in1 (PySem.call (.ref f) [v]) (fun k s' => J (j + 1) (kv ++ [k]) (ws ++ [v]) s' ∧ s'.heap.get? s.heap.objs.size = some oI ∧ s'.heap.get? (s.heap.objs.size + 1) = some oS) (fun _ _ => False) s1 := fun j v vs kv ws s1 oI oS hv hvs ⟨φ', H', I', g, S', n1, n2, n3, hf, h1, h2, h3, h4⟩ gI gS => by
    obtain ⟨xs', vs', v1, v2, rv', hd'⟩ := hlist I' g S'
    have evs : vs = vs' := by
      obtain ⟨o1, a1, _, c1, b1⟩ := hvs
      obtain ⟨o2, a2, _, c2, b2⟩ := v1
      rw [a1] at a2
      cases a2
      rw [b1] at b2
      injection b2 with b2 _
      simpa using congrArg Array.toList b2
    subst evs
    have hlt : j < vs.length := (List.getElem?_eq_some_iff.mp hv).1
    have hlx : j < xs'.length := by rw [rv'.length]; exact hlt
    obtain ⟨u, hu, ru⟩ := rv'.get (i := j) (x := xs'[j]) (List.getElem?_eq_getElem hlx)
    rw [hv] at hu
    cases hu
    obtain ⟨d, hdj, dj⟩ := DpAll.get' hd' (List.getElem?_eq_getElem hlx)
    obtain ⟨kd, hkd, hkf⟩ := hka j d hdj
    obtain ⟨⟨r1, m4⟩, e1, e2⟩ := bind_some_iff hkf
    cases r1 with
    | tp j => cases e2
    | ref j => cases e2
    | val kd' =>
      cases e2
      refine wpAny_mono (L.call I' I'.env0.in1 hr.in1 hf.symm (fun cc q hc => code_stay S g hc) ru S' (E.mono g) (r := .val d) dj e1) (fun kx s2 hq => ?_) fun _ _ e => e
      obtain ⟨x2, φ2, H2, rx2, I3, un, g2, S3, R3⟩ := hq
      have k1 := un.keep _ _ gI n1 (nF _ (Nat.le_refl _)) (by simp)
      have k2 := un.keep _ _ gS n2 (nF _ (Nat.le_succ _)) (by simp)
      have k3 : s2.heap.get? f = s.heap.get? f := by
        rw [hof] at hf ⊢
        exact un.keep _ _ hf n3 L.nofr (by simp)
      refine ⟨⟨φ2, H2, I3, g.trans g2, S3, un.free _ _ gI n1 (by simp), un.free _ _ gS n2 (by simp), un.free _ _ (hf.trans hof) n3 (by simp), k3, by rw [List.length_append, h1]; rfl, by rw [List.length_append, h2]; rfl, fun i k hk => ?_, fun i w hw => ?_⟩, k1, k2⟩
      · by_cases hi : i < kv.length
        · rw [List.getElem?_append_left hi] at hk
          obtain ⟨d', q1, q2⟩ := h3 i k hk
          exact ⟨d', q1, q2.mono g2⟩
        · have hi2 : i = kv.length := by
            have := (List.getElem?_eq_some_iff.mp hk).1
            rw [List.length_append, List.length_singleton] at this
            omega
          subst hi2
          rw [List.getElem?_append_right (Nat.le_refl _), Nat.sub_self] at hk
          cases hk
          exact ⟨kd, by rw [h1]; exact hkd, x2, rx2, R3⟩
      · by_cases hi : i < ws.length
        · rw [List.getElem?_append_left hi] at hw
          obtain ⟨d', q1, q2⟩ := h4 i w hw
          exact ⟨d', q1, q2.mono g2⟩
        · have hi2 : i = ws.length := by
            have := (List.getElem?_eq_some_iff.mp hw).1
            rw [List.length_append, List.length_singleton] at this
            omega
          subst hi2
          rw [List.getElem?_append_right (Nat.le_refl _), Nat.sub_self] at hw
          cases hw
          exact ⟨d, by rw [h2]; exact hdj, Rk.mono g2 ⟨xs'[j], ru, dj⟩⟩
  have hkl' : ks.length = ds.length := hkl
  have ez : ks.zip ds = (ks.getD 0 .none, ds.getD 0 .none) :: (ks.zip ds).drop 1 := by
    have hz0 : 0 < (ks.zip ds).length := by rw [List.length_zip]; omega
    have := List.drop_eq_getElem_cons hz0
    rw [List.drop_zero, List.getElem_zip] at this
    rw [this]
    simp [List.getD_eq_getElem?_getD, show 0 < ks.length by omega, show 0 < ds.length by omega]
  have ep : p0 = (ks.getD 0 .none, ds.getD 0 .none) ∧ ps = (ks.zip ds).drop 1 := by
    rw [ez] at hz
    injection hz with z1 z2
    exact ⟨z1.symm, z2.symm⟩
  have hdn : ds.length = its.length := by omega
  have fin : ∀ (bt : Nat → Nat → Bool), (∀ i j, bt i j = betD mx (ks.getD i .none) (ks.getD j .none)) → ∀ kv ws s1 v, ws[PySem.W.pickI bt (its.length - 1) 1 0]? = some v → J its.length kv ws s1 → EP X pins σ Q v s1 := fun bt hbt kv ws s1 v hv ⟨φ', H', I', g, S', n1, n2, n3, hf, h1, h2, h3, h4⟩ => by
    obtain ⟨d, hd1, x, rx, dx⟩ := h4 _ _ hv
    obtain ⟨a1, a2⟩ := pick_place (betD mx) ks ds hkl' (its.length - 1) 1 0 (by omega) (by omega)
    rw [pickI_congr hbt] at hd1
    refine ⟨x, H', I', rx, q φ' H' x g S' ?_⟩
    have e : (pickD mx p0 ps).2 = d := by
      rw [ep.1, ep.2]
      unfold pickD
      rw [a2]
      simp only
      rw [List.getD_eq_getElem?_getD, hd1]
      rfl
    rw [e]
    exact dx
  have hh : X.A.handled = none := I.ok.hd hc
  cases mx with
  | false => exact PySem.W.kx_min (J := J) hh pl.isList rfl hne hJ h0 mv hal turn fun ks1 ws s1 v h1 h2 => fin _ (fun i j => rfl) ks1 ws s1 v h1 h2
  | true => exact PySem.W.kx_max (J := J) hh pl.isList rfl hne hJ h0 mv hal turn fun ks1 ws s1 v h1 h2 => fin _ (fun i j => rfl) ks1 ws s1 v h1 h2
end
end Ev

set_option Elab.async false
set_option linter.all false
set_option maxRecDepth 100000
set_option maxHeartbeats 1000000
/-! d.items() walked (the dict is locked), d.values(), d.get(k, x). -/
namespace Ev
open PySem PySem.Spec PyProof.Rows L2 LamX

/-- the pairs of a locked dict, each a new tuple -/
def Itp (d : Addr) (o : Obj) (u : HO) (ps : List (V × V)) : It :=
  ⟨fun i H => H d = some (.frz o u) ∧ i < ps.length, fun i H x H' => ∃ T ot k v, ps[i]? = some (k, v) ∧ x = .ref T ∧ H T = none ∧ ot.dict = none ∧ H' = upd H T (.frz ot (.tup [k, v])), fun i H => H d = some (.frz o u) ∧ ps.length ≤ i⟩
theorem turn_itemsF {P : Program} {w : World} {K : PySem.W.Frag} {d : Addr} {o : Obj} {es : Array DictEntry} {ep : Nat} {kvs : List (Key × V)} {elts : List Expr} {kk : Nat} {tpos : Pos} (it : Addr) (hod : o.data = .dict es ep) :
    Turn P w K (.Tuple elts kk tpos) (Itp d o (.dK kvs) (kvs.map fun p => (kV p.1, p.2))) [it] it (fun i h => ∃ ok ov, IsItemIter h it d i kvs.length ep ok ov) where
  mem := by simp
  obj := fun i h st b hb => by
    have e : b = it := by simpa using hb
    subst e
    obtain ⟨ok, ov, e⟩ := st
    exact ⟨_, e, fun v z => nomatch z⟩
  keep := fun i h h' st k => let ⟨ok, ov, e⟩ := st; ⟨ok, ov, k it (by simp) _ e⟩
  item := by
    intro X hP hw hK hc i pins s σ H E I hf st hg
    subst hP hw hK
    obtain ⟨hd, hi⟩ := hg
    rw [List.length_map] at hi
    obtain ⟨hs, hgd, hx, es', ep', vs, hdt, hsz, kv, hm⟩ := I.frzK hd
    obtain ⟨rfl, rfl⟩ := dict_ep hod hdt
    obtain ⟨⟨k, v⟩, hkv⟩ : ∃ p, kvs[i]? = some p := ⟨kvs[i], List.getElem?_eq_getElem hi⟩
    obtain ⟨u, hu, ru⟩ := kv_get kv hkv
    have hl : kvs.length = vs.length := Paired.length kv
    obtain ⟨ok, ov, he⟩ := st
    rw [hl] at he
    have hlt : it < s.heap.objs.size := Heap.lt_size he
    refine wpAny_pyNext_items_item he hm hu fun key h' hkey ho hT hz hk => ?_
    refine ⟨_, rfl, wpAny_letOwnedTupleGo_items (s := { s with heap := h' }) ho fun h'' he' sb => ?_⟩
    have hT2 : h''.get? s.heap.objs.size = some { cls := .type "tuple", data := .seq #[key, u] } := (sb.2 _ (Nat.ne_of_gt hlt)).trans hT
    have new : ObjOk X.prog X.w (upd H s.heap.objs.size (.frz { cls := .type "tuple", data := .seq #[key, u] } (.tup [kV k, v]))) h'' s.heap.objs.size (.frz { cls := .type "tuple", data := .seq #[key, u] } (.tup [kV k, v])) :=
      ⟨hT2, by show 2 ≤ sizeLine; decide, [key, u], .cons (relV_key (show keyIs k key = true from hkey)) (.cons ru .nil), ⟨_, hT2, rfl, _, rfl⟩⟩
    have I1 : Inv X pins σ (upd H s.heap.objs.size (.frz { cls := .type "tuple", data := .seq #[key, u] } (.tup [kV k, v]))) { s with heap := h'' } :=
      I.turnedNew (t' := s.toks) (ch := [it]) (fun b ob hb e => (sb.2 b (by simpa using hb)).trans (hk b ob (by simpa using hb) e)) hf (Nat.le_refl _) new
    refine ⟨.ref s.heap.objs.size, _, I1, rfl, ⟨_, _, kV k, v, ?_, rfl, I.hok.fresh (Nat.le_refl _), rfl, rfl⟩, ⟨key, u, ?_⟩, fun b hb => ?_⟩
    · rw [List.getElem?_map, hkv]; rfl
    · rw [hl]; exact he'
    · have e : b = it := by simpa using hb
      rw [e, upd_ne (Nat.ne_of_lt hlt)]
      exact (hf it (by simp)).1
  done := by
    intro X hP hw hK hc i pins s σ H E I hf st hg
    subst hP hw hK
    obtain ⟨hd, hi⟩ := hg
    rw [List.length_map] at hi
    obtain ⟨f0, f1, f2, f3, f4, f5⟩ := hf it (by simp)
    obtain ⟨hs, hgd, hx, es', ep', vs, hdt, hsz, kv, hm⟩ := I.frzK hd
    obtain ⟨rfl, rfl⟩ := dict_ep hod hdt
    have hl : kvs.length = vs.length := Paired.length kv
    obtain ⟨ok, ov, he⟩ := st
    rw [hl] at he
    exact wpAny_pyNext_items_end (I.ok.hd hc) he hm (List.getElem?_eq_none (by omega)) fun h' eb => ⟨rfl, I.turned (t' := s.toks) (fun b ob hb e => eb b ob hb e) f0 f1 f3 f4 f5⟩
  self := fun A i s Q E st h => let ⟨_, _, e⟩ := st; PySem.W.kcp_self e h
theorem turn_itemsX {P : Program} {w : World} {K : PySem.W.Frag} {d : Addr} {o : Obj} {ea : Array DictEntry} {ep : Nat} {P0 : Program} {w0 : World} {es : List (NestedKey × Addr × V)} {elts : List Expr} {kk : Nat} {tpos : Pos} (it : Addr) (hod : o.data = .dict ea ep) (hsz0 : ea.size = es.length) :
    Turn P w K (.Tuple elts kk tpos) (Itp d o (.ext (XD P0 w0 d es)) (es.map fun p => (.ref p.2.1, p.2.2))) [it] it (fun i h => ∃ ok ov, IsItemIter h it d i ea.size ep ok ov) where
  mem := by simp
  obj := fun i h st b hb => by
    have e : b = it := by simpa using hb
    subst e
    obtain ⟨ok, ov, e⟩ := st
    exact ⟨_, e, fun v z => nomatch z⟩
  keep := fun i h h' st k => let ⟨ok, ov, e⟩ := st; ⟨ok, ov, k it (by simp) _ e⟩
  item := by
    intro X hP hw hK hc i pins s σ H E I hf st hg
    subst hP hw hK
    obtain ⟨hd, hi⟩ := hg
    rw [List.length_map] at hi
    obtain ⟨hs, hgd, hx, es', ep', hdt, hsz, ent⟩ := frzX I hd
    obtain ⟨rfl, rfl⟩ := dict_ep hod hdt
    obtain ⟨p, hkv⟩ : ∃ p, es[i]? = some p := ⟨es[i], List.getElem?_eq_getElem hi⟩
    obtain ⟨en, hen, hkey, hq⟩ := ent i p hkv
    obtain ⟨ok, ov, he⟩ := st
    have hlt : it < s.heap.objs.size := Heap.lt_size he
    have hie : i < es'.size := by omega
    have hen' : es'[i] = en := by
      have := Array.getElem?_eq_getElem hie
      rw [hen] at this
      exact (Option.some.inj this).symm
    refine PySem.wpAny_pyNext_items_item_raw he ⟨o, hgd, hx, hdt⟩ hie fun h' ho hT hz hk => ?_
    rw [hen'] at ho hT
    refine ⟨_, rfl, wpAny_letOwnedTupleGo_items (s := { s with heap := h' }) ho fun h'' he' sb => ?_⟩
    have hT2 : h''.get? s.heap.objs.size = some { cls := .type "tuple", data := .seq #[en.key, en.val] } := (sb.2 _ (Nat.ne_of_gt hlt)).trans hT
    have new : ObjOk X.prog X.w (upd H s.heap.objs.size (.frz { cls := .type "tuple", data := .seq #[en.key, en.val] } (.tup [.ref p.2.1, p.2.2]))) h'' s.heap.objs.size (.frz { cls := .type "tuple", data := .seq #[en.key, en.val] } (.tup [.ref p.2.1, p.2.2])) :=
      ⟨hT2, by show 2 ≤ sizeLine; decide, [en.key, en.val], .cons hkey (.cons hq .nil), ⟨_, hT2, rfl, _, rfl⟩⟩
    have I1 : Inv X pins σ (upd H s.heap.objs.size (.frz { cls := .type "tuple", data := .seq #[en.key, en.val] } (.tup [.ref p.2.1, p.2.2]))) { s with heap := h'' } :=
      I.turnedNew (t' := s.toks) (ch := [it]) (fun b ob hb e => (sb.2 b (by simpa using hb)).trans (hk b ob (by simpa using hb) e)) hf (Nat.le_refl _) new
    refine ⟨.ref s.heap.objs.size, _, I1, rfl, ⟨_, _, .ref p.2.1, p.2.2, ?_, rfl, I.hok.fresh (Nat.le_refl _), rfl, rfl⟩, ⟨en.key, en.val, he'⟩, fun b hb => ?_⟩
    · rw [List.getElem?_map, hkv]; rfl
    · have e : b = it := by simpa using hb
      rw [e, upd_ne (Nat.ne_of_lt hlt)]
      exact (hf it (by simp)).1
  done := by
    intro X hP hw hK hc i pins s σ H E I hf st hg
    subst hP hw hK
    obtain ⟨hd, hi⟩ := hg
    rw [List.length_map] at hi
    obtain ⟨f0, f1, f2, f3, f4, f5⟩ := hf it (by simp)
    obtain ⟨hs, hgd, hx, es', ep', hdt, hsz, ent⟩ := frzX I hd
    obtain ⟨rfl, rfl⟩ := dict_ep hod hdt
    obtain ⟨ok, ov, he⟩ := st
    exact PySem.wpAny_pyNext_items_end_raw (I.ok.hd hc) he ⟨o, hgd, hx, hdt⟩ (by omega) fun h' eb => ⟨rfl, I.turned (t' := s.toks) (fun b ob hb e => eb b ob hb e) f0 f1 f3 f4 f5⟩
  self := fun A i s Q E st h => let ⟨_, _, e⟩ := st; PySem.W.kcp_self e h
def pairD (p : D × D) : D := .tuple [p.1, p.2]
/-- the pairs of a dict, one after the other -/
def itItems (f : EF) : IF := fun env m => (f env m).bind fun x => match x.1 with
  | .ref k => match x.2[k]? with
    | some (.dct _ true kvs) => iL (kvs.map pairD) x.2
    | _ => none
  | _ => none
theorem jok_p {K : PySem.W.Frag} {φ : Ad} {H : Hp} {d : Addr} {o : Obj} {u : HO} {ps : List (V × V)} {kvs : List (D × D)} (h : H d = some (.frz o u)) (n : Paired (fun p q => Dp K (off φ H) p.1 q.1 ∧ Dp K (off φ H) p.2 q.2) ps kvs) : JOk ζ K (Itp d o u ps) φ H (srcL (kvs.map pairD)) where
  stop := fun φ' H' m i g S e => ⟨g.frz _ _ _ h, by
    have e' := List.getElem?_eq_none_iff.mp (Option.some.inj e)
    rw [List.length_map, ← Paired.len n] at e'
    exact e'⟩
  go := fun φ' H' m i d g S e => ⟨g.frz _ _ _ h, by
    have e' := (List.getElem?_eq_some_iff.mp (Option.some.inj e)).1
    rw [List.length_map, ← Paired.len n] at e'
    exact e'⟩
  yld := fun φ' H' m i d x H'' g S e y => by
    have e' : (kvs.map pairD)[i]? = some d := Option.some.inj e
    rw [List.getElem?_map] at e'
    obtain ⟨q, e1, e2⟩ := Option.map_eq_some_iff.mp e'
    subst e2
    obtain ⟨T, ot, k, v, h1, rfl, hT, ho, rfl⟩ := y
    obtain ⟨q', h2, h3, h4⟩ := paired_at n h1
    rw [e1] at h2
    cases h2
    exact ⟨gr_alloc hT, S.alloc hT ho, rr_newT S hT (.cons (dp_mono g.same h3) (.cons (dp_mono g.same h4) .nil))⟩
theorem kok_p {K : PySem.W.Frag} {φ : Ad} {H : Hp} {ks : List (Key × V)} {kvs : List (D × D)} (n : KOk K (off φ H) ks kvs) : Paired (fun p q => Dp K (off φ H) p.1 q.1 ∧ Dp K (off φ H) p.2 q.2) (ks.map fun p => (kV p.1, p.2)) kvs := by
  induction n with
  | nil => exact .nil
  | @cons p q ps qs h t ih =>
    obtain ⟨k0, v0⟩ := p
    refine .cons ⟨?_, h.2⟩ ih
    show Dp K _ (kV k0) q.1
    have h3 := h.1
    generalize q.1 = d at h3
    cases d with
    | int i => cases h3; exact .int i
    | str x => cases h3; exact .str x
    | _ => cases h3
theorem nok_p {K : PySem.W.Frag} {φ : Ad} {H : Hp} {es : List (NestedKey × Addr × V)} {kvs : List (D × D)} (n : NOk K (off φ H) es kvs) : Paired (fun p q => Dp K (off φ H) p.1 q.1 ∧ Dp K (off φ H) p.2 q.2) (es.map fun p => (V.ref p.2.1, p.2.2)) kvs := by
  induction n with
  | nil => exact .nil
  | @cons p q ps qs h t ih => exact .cons ⟨h.2.1, h.2.2⟩ ih
section
variable {X : Cx} {e : Expr} {f : EF} {apos cpos : Pos} {elts : List Expr} {kk : Nat} {tpos : Pos}
theorem i_items (he : PE X e (tE ζ X.K f)) (hbase : attributeBase e "items" X.env (eval e X.env) = eval e X.env := by rfl) (hline : (apos.endLine == cpos.line) = true := by rfl) :
    PI X (.Tuple elts kk tpos) (.Call (.Attribute e "items" apos) [] [] cpos) (tI ζ X.K (itItems f)) := ⟨fun pins s σ H R I q => by
  obtain ⟨φ, env, m, src, n, m', S, E, hf, k⟩ := q
  obtain ⟨⟨r, m1⟩, h1, hf⟩ := bind_some_iff hf
  have q1 : tE ζ X.K f σ H (fun v H' => ∃ φ', Gr φ H φ' H' ∧ SR ζ X.K φ' H' m1 ∧ RR X.K φ' H' v r) := ⟨φ, env, m, r, m1, S, E, h1, fun φ1 H1 v g1 S1 R1 => ⟨φ1, g1, S1, R1⟩⟩
  cases r with
  | tp j => cases hf
  | val d => cases hf
  | ref j =>
    simp only at hf
    split at hf
    · rename_i t kvs hm
      cases hf
      refine wpAny_Call_method (T := "dict") (id := "dict.items") hbase rfl hline F.plainAttrs_dict F.slot_dict_items F.type_dict_items (thn (he.run pins s σ H _ I q1) fun u s1 ⟨x, H1, I1, rx, φ1, g1, S1, R1⟩ => ?_)
      obtain ⟨a, rfl, ha⟩ := R1
      obtain rfl : u = Value.ref a := rx
      have I2 : Inv X pins σ H1 { s1 with heap := s1.heap.push { cls := .type "dict_items", data := .fields #[.ref a] } } := I1.kept (t' := s1.toks) fun b ob q => Heap.get?_push_of_some _ q
      match t, S1.obj j _ a hm ha with
      | false, ⟨ks, ⟨o, hd⟩, n⟩ =>
        obtain ⟨hs, hgd, hx, es, ep, vs, hdt, hsz, kv, hmm⟩ := I1.frzK hd
        have hl : ks.length = vs.length := Paired.length kv
        refine ⟨hmm.dictOf.typeIs, hmm.dictOf.mapOf.noDict, ?_⟩
        have fin : wpAny (model X.prog X.w) X.A (pyIter (.ref s1.heap.objs.size)) (PIE X pins σ (.Tuple elts kk tpos) R) X.xe { s1 with heap := s1.heap.push { cls := .type "dict_items", data := .fields #[.ref a] } } := by
          refine wpAny_pyIter_items (d := a) (knd := mixKind X.prog X.w) ⟨_, Heap.get?_push_size _ rfl, rfl, rfl⟩ (hmm.push _) (pi_one (tk := s1.toks) I2 _ (turn_itemsF _ hdt) ⟨.none, .none, ?_⟩ (k φ1 H1 _ g1 S1 (jok_p hd (kok_p n))))
          rw [hl]
          exact Heap.get?_push_size _ rfl
        show wpAny _ _ (callWith cpos (.builtin "dict.items") [.ref a] [] []) _ X.xe s1
        exact method_meetsIn F.slot_dict_items F.entry_dict_items rfl (PySem.evalArgs_none ⟨rfl, hmm.dictOf.typeIs, F.args_dict_items_1 _, _, meets_dict_items (mixKind X.prog X.w) a hs, ⟨vs, hmm.dictOf⟩, fin⟩)
      | true, ⟨P0, w0, es, ⟨o, hd⟩, n⟩ =>
        obtain ⟨hs, hgd, hx, ea, ep, hdt, hsz, ent⟩ := frzX I1 hd
        have hr : s1.heap.DictRaw a ea ep := ⟨o, hgd, hx, hdt⟩
        have hr2 : (s1.heap.push { cls := .type "dict_items", data := .fields #[.ref a] }).DictRaw a ea ep := ⟨o, Heap.get?_push_of_some _ hgd, hx, hdt⟩
        refine ⟨hr.typeIs, fun _ ee => by cases ee; exact ⟨o, hgd, hx.2.1⟩, ?_⟩
        have fin : wpAny (model X.prog X.w) X.A (pyIter (.ref s1.heap.objs.size)) (PIE X pins σ (.Tuple elts kk tpos) R) X.xe { s1 with heap := s1.heap.push { cls := .type "dict_items", data := .fields #[.ref a] } } := by
          refine wpAny_pyIter_items_raw (d := a) ⟨_, Heap.get?_push_size _ rfl, rfl, rfl⟩ hr2 (pi_one (tk := s1.toks) I2 _ (turn_itemsX _ hdt hsz) ⟨.none, .none, ?_⟩ (k φ1 H1 _ g1 S1 (jok_p hd (nok_p n))))
          exact Heap.get?_push_size _ rfl
        show wpAny _ _ (callWith cpos (.builtin "dict.items") [.ref a] [] []) _ X.xe s1
        exact method_meetsIn F.slot_dict_items F.entry_dict_items rfl (PySem.evalArgs_none ⟨rfl, hr.typeIs, F.args_dict_items_1 _, _, meets_dict_items_raw a hs, ⟨_, _, hr⟩, fin⟩)
    · cases hf⟩
end

/-! ### d.get(k, x) -/
def isDct (r : R) (m : M) : Bool := match r with
  | .ref k => match m[k]? with
    | some (.dct _ _ _) => true
    | _ => false
  | _ => false
def pDGet2 (a b c : R) (m : M) : Option (R × M) := match a, b with
  | .ref k, .val d => (m[k]?).bind fun ob => match ob with
    | .dct t _ kvs => if keyOk t d = true then (match lookD t kvs d with
      | some x => some (.val x, m)
      | none => some (c, m)) else none
    | _ => none
  | _, _ => none
def eDGet2 (f g h : EF) : EF := fun env m => (f env m).bind fun x => if isDct x.1 x.2 = true then (g env x.2).bind fun y => (h env y.2).bind fun z => pDGet2 x.1 y.1 z.1 z.2 else none
section
variable {X : Cx} {k : Nat} {o e e2 : Expr} {f g h : EF} {apos cpos : Pos}
theorem dct_at {pins : List (Addr × Obj)} {σ : L2.St} {φ : Ad} {H : Hp} {m : M} {s : Shared} {r : R} {v : V} {u : Value} (I : Inv X pins σ H s) (S : SR ζ X.K φ H m) (R : RR X.K φ H v r) (ru : RelV v u) (hd : isDct r m = true) :
    s.TypeIs u "dict" ∧ (∀ b, u = .ref b → ∃ ob, s.heap.get? b = some ob ∧ ob.dict = none) := by
  unfold isDct at hd
  split at hd
  · split at hd
    · rename_i k0 _ t lk kvs hm
      obtain ⟨a, rfl, ha⟩ := R
      obtain rfl : u = Value.ref a := ru
      match t, S.obj k0 _ a hm ha with
      | false, ⟨ks, h1, h2⟩ =>
        obtain ⟨z, hd, vs, rel, dd⟩ := dk_rd I.hok (lkd_rd h1)
        exact ⟨dd.typeIs, dd.mapOf.noDict⟩
      | true, ⟨P, w, es, h1, h2⟩ =>
        obtain ⟨z, hd, xs, rel, dd⟩ := xd_rd I (lkd_rd h1) h2.off
        obtain ⟨ob, ea, ep, g1, g2, _⟩ := id dd
        exact ⟨dd.typeIs, fun b eb => by cases eb; exact ⟨ob, g1, g2.2.1⟩⟩
    · cases hd
  · cases hd
theorem x_dget2 (hr : Room k X.A) (ho : PE X o (tE ζ X.K f)) (he : PE X e (tE ζ X.K g)) (hx : PE X e2 (tE ζ X.K h)) (m : M2 X o "get" apos e e2 cpos) : PE X (.Call (.Attribute o "get" apos) [e, e2] [] cpos) (tE ζ X.K (eDGet2 f g h)) := ⟨fun pins s σ H Q I q => by
  obtain ⟨φ, env, m0, r, m', S, E, hf, kq⟩ := q
  obtain ⟨⟨r1, m1⟩, h1, hf⟩ := bind_some_iff hf
  simp only at hf
  split at hf
  case isFalse => cases hf
  rename_i hd
  obtain ⟨⟨r2, m2⟩, h2, hf⟩ := bind_some_iff hf
  obtain ⟨⟨r3, m3⟩, h3, hf⟩ := bind_some_iff hf
  have q1 : tE ζ X.K f σ H (fun v H' => ∃ φ', Gr φ H φ' H' ∧ SR ζ X.K φ' H' m1 ∧ RR X.K φ' H' v r1) := ⟨φ, env, m0, r1, m1, S, E, h1, fun φ1 H1 v g1 S1 R1 => ⟨φ1, g1, S1, R1⟩⟩
  refine wpAny_Call_method (T := "dict") (id := "dict.get") m.base m.few m.line PySem.F.plainAttrs_dict PySem.F.slot_dict_get PySem.F.type_dict_get (thn (ho.run pins s σ H _ I q1) fun u s1 ⟨x, H1, I1, rx, φ1, g1, S1, R1⟩ => ?_)
  obtain ⟨t1, t2⟩ := dct_at I1 S1 R1 rx hd
  refine ⟨t1, t2, ?_⟩
  rw [m.trees]
  have q2 : tE ζ X.K g σ H1 (fun v H' => ∃ φ', Gr φ1 H1 φ' H' ∧ SR ζ X.K φ' H' m2 ∧ RR X.K φ' H' v r2) := ⟨φ1, env, m1, r2, m2, S1, E.mono g1, h2, fun φ2 H2 v g2 S2 R2 => ⟨φ2, g2, S2, R2⟩⟩
  refine Calls.callWith_builtin rfl (Calls.evalArgs_plain (Calls.spliced_cons (thn (he.run pins s1 σ H1 _ I1 q2) fun iv s2 ⟨y, H2, I2, ry, φ2, g2, S2, R2⟩ => ?_)))
  have q3 : tE ζ X.K h σ H2 (fun v H' => ∃ φ', Gr φ2 H2 φ' H' ∧ SR ζ X.K φ' H' m3 ∧ RR X.K φ' H' v r3) := ⟨φ2, env, m2, r3, m3, S2, E.mono (g1.trans g2), h3, fun φ3 H3 v g3 S3 R3 => ⟨φ3, g3, S3, R3⟩⟩
  refine Calls.spliced_cons (thn (hx.run pins s2 σ H2 _ I2 q3) fun fv s3 ⟨z, H3, I3, rz, φ3, g3, S3, R3⟩ => Calls.spliced_nil ?_)
  have R1' := R1.mono (g2.trans g3)
  have R2' := R2.mono g3
  have gg := g1.trans (g2.trans g3)
  replace hf : pDGet2 r1 r2 r3 m3 = some (r, m') := hf
  unfold pDGet2 at hf
  cases r1 with
  | val d => cases hf
  | tp j => cases hf
  | ref k0 =>
    cases r2 with
    | ref j => cases hf
    | tp j => cases hf
    | val d =>
    simp only at hf
    obtain ⟨ob, hob, hf⟩ := bind_some_iff hf
    split at hf
    · rename_i t lk kvs
      split at hf
      · rename_i hk
        obtain ⟨a, rfl, ha⟩ := R1'
        obtain rfl : u = Value.ref a := rx
        have O := S3.obj k0 _ a hob ha
        match t, O with
        | false, ⟨ks, h4, h5⟩ =>
          obtain ⟨kk0, e0⟩ := Option.isSome_iff_exists.mp (show (keyK d).isSome = true from hk)
          obtain rfl := keyK_V e0 R2'
          have g : DGet H3 a (kV kk0) (valV ks kk0) := .inl ⟨ks, kk0, lkd_rd h4, rfl, rfl⟩
          refine d_get2 (by have := hr.un; omega) I3 g ry rz fun w' s4 I4 rw' => ?_
          rcases h5.find e0 with ⟨e1, e2⟩ | ⟨y', v, e1, e2, e3⟩
          · rw [e2] at rw'
            rw [e1] at hf
            cases hf
            exact ⟨z, H3, I4, rw', kq φ3 H3 z gg S3 R3⟩
          · rw [e2] at rw'
            rw [e1] at hf
            cases hf
            exact ⟨v, H3, I4, rw', kq φ3 H3 v gg S3 e3⟩
        | true, ⟨P, w, es, h4, h5⟩ =>
          obtain ⟨kn, e0, e4, e5⟩ := keyOk_N hk
          obtain ⟨zz, hds, xs, rel, dd⟩ := xd_rd I3 (lkd_rd h4) h5.off
          obtain ⟨b, rfl⟩ := key_ref R2' e5
          obtain rfl : iv = Value.ref b := ry
          have nk := nested_of I3 e0 (dp_mono off_same R2') (show RelV (.ref b) (.ref b) from rfl)
          have rm : (nestedKind X.prog X.w).room X.A.in1 := show X.A.units + 1 + 8 < cLine by have := hr.un; omega
          refine call_meetsIn PySem.F.slot_dict_get dd.typeIs PySem.F.entry_dict_get (PySem.F.args_dict_get_3 _ _ _) (meetsH_dict_get_default (nestedKind X.prog X.w) a b hds fv) ⟨rm, kn, xs, ⟨nk, e4⟩, dd, ?_⟩
          have rr := rel.val kn
          rcases h5.find e0 with ⟨e1, e2⟩ | ⟨y', v, e1, e2, e3⟩
          · rw [e2] at rr
            rw [e1] at hf
            cases hf
            have : ((atKey xs kn).map (·.2)) = none := by
              cases hz : (atKey xs kn).map (·.2) with
              | none => rfl
              | some p => rw [hz] at rr; exact rr.elim
            rw [this]
            exact ⟨z, H3, I3.tok _, rz, kq φ3 H3 z gg S3 R3⟩
          · rw [e2] at rr
            rw [e1] at hf
            cases hf
            obtain ⟨w', hw, rw'⟩ := RelO.some_of rr
            rw [hw]
            exact ⟨v, H3, I3.tok _, rw', kq φ3 H3 v gg S3 e3⟩
      · cases hf
    · cases hf⟩
end
end Ev

set_option Elab.async false
set_option linter.all false
set_option maxRecDepth 100000
set_option maxHeartbeats 1000000
/-! dict(list of pairs), by int or text keys. -/
namespace Ev
open PySem PySem.Spec PyProof.Rows L2 LamX
def prsD : List D → Option (List (D × D))
  | [] => some []
  | .tuple [k, v] :: ds => if (keyK k).isSome = true then (prsD ds).map ((k, v) :: ·) else none
  | _ => none
def pDictP := p1 fun r m => (asL r m).bind fun ds => (prsD ds).bind fun ps => some (.ref m.length, m ++ [.dct false false (ps.foldl (fun a p => putD false a p.1 p.2) [])])
theorem prsD_cons {d : D} {ds : List D} {ps : List (D × D)} (h : prsD (d :: ds) = some ps) : ∃ k v qs kk, d = .tuple [k, v] ∧ keyK k = some kk ∧ prsD ds = some qs ∧ ps = (k, v) :: qs := by
  unfold prsD at h
  split at h
  · rename_i e; cases e
  · rename_i k v ds' e
    cases e
    split at h
    · rename_i hk
      obtain ⟨kk, e⟩ := Option.isSome_iff_exists.mp hk
      obtain ⟨qs, h1, rfl⟩ := Option.map_eq_some_iff.mp h
      exact ⟨k, v, qs, kk, rfl, e, h1, rfl⟩
    · cases h
  · cases h
section
variable {K : PySem.W.Frag} {φ : Ad} {H : Hp}
theorem prsD_ok : ∀ {ds : List D} {xs : List V} {ps : List (D × D)}, DpAll K (off φ H) xs ds → prsD ds = some ps → ∃ (as : List Addr) (kvs : List (Key × V)), xs = as.map V.ref ∧ Paired (fun p kv => SqT K H p [kV kv.1, kv.2]) as kvs ∧ KOk K (off φ H) kvs ps
  | [], _, _, .nil, h => by
    cases h
    exact ⟨[], [], rfl, .nil, .nil⟩
  | d :: ds, x :: xs, ps, .cons h1 h2, h => by
    obtain ⟨k, v, qs, kk, rfl, hk, hq, rfl⟩ := prsD_cons h
    obtain ⟨as, kvs, rfl, p1, p2⟩ := prsD_ok h2 hq
    obtain ⟨a, ys, rfl, hs, hd⟩ := seqT_of (show RR K φ H x (.val (.tuple [k, v])) from h1)
    cases hd with
    | cons d1 dt =>
      cases dt with
      | cons d2 dn =>
        cases dn
        obtain rfl := keyK_V hk (show RR K φ H _ (.val k) from d1)
        exact ⟨a :: as, (kk, _) :: kvs, rfl, .cons hs p1, .cons ⟨hk, d2⟩ p2⟩
theorem merge_ok : ∀ {kvs es : List (Key × V)} {ps as : List (D × D)}, KOk K H kvs ps → KOk K H es as → KOk K H (mergeK es kvs) (ps.foldl (fun a p => putD false a p.1 p.2) as)
  | [], _, [], _, .nil, h => h
  | (k, v) :: kvs, es, (d, x) :: ps, as, .cons h1 h2, h => by
    show KOk K H (mergeK (putK es k v) kvs) (ps.foldl (fun a p => putD false a p.1 p.2) (putD false as d x))
    exact merge_ok h2 (h.put h1.1 h1.2)
end
theorem c_dictP {X : Cx} (hc : X.calm = true) : CallR X (.type "dict") (rsP ζ X.K pDictP) := c_one fun pins s σ H v us Q φ m a r m' I rx S ra hf kk => by
  obtain ⟨ds, h1, hf⟩ := bind_some_iff hf
  obtain ⟨ps, h2, hf⟩ := bind_some_iff hf
  cases hf
  obtain ⟨p, xs, rfl, hs, hd⟩ := seqL_of S ra h1
  obtain ⟨as, kvs, rfl, q1, q2⟩ := prsD_ok hd h2
  refine call_dictP hc pins s σ H _ us Q I rx ⟨p, as, kvs, rfl, hs, q1, fun q hq => ?_⟩
  have o0 : OR X.K (off φ H) (upd H q (.dK (mergeK [] kvs))) q (.dct false false (ps.foldl (fun a p => putD false a p.1 p.2) [])) := ⟨_, upd_same, merge_ok q2 .nil⟩
  have S2 := S.enterO hq o0
  refine kk (φ.add q) _ _ (gr_enter hq) S2 ?_
  refine ⟨q, rfl, ?_⟩
  show (φ.s ++ [q])[m.length]? = some q
  rw [← S.len, List.getElem?_append_right (Nat.le_refl _), Nat.sub_self]
  rfl
theorem bt_dict : bootBuiltins "dict" = some (.type "dict") := by decide +kernel
end Ev

set_option Elab.async false
set_option linter.all false
set_option maxRecDepth 100000
set_option maxHeartbeats 1000000
/-! max(xs, key=lambda p: ..), min(..) of a list. -/
namespace Ev
open PySem PySem.Spec PyProof.Rows L2 LamX
theorem bt_maxK : bootBuiltins "max" = some (.builtin "max") := by decide +kernel
theorem bt_minK : bootBuiltins "min" = some (.builtin "min") := by decide +kernel
noncomputable def eBestK (mx : Bool) (bs : List Bool) (fb : EF) (fa : AF) : EF := fun env m => (lst1 fa env m).bind fun x => (asL x.1 x.2).bind fun ds => bestKF mx (keyF fb bs env) ds x.2
section
variable {X : Cx} {k : Nat} {bs : List Bool} {fb fe : EF} {p : Str} {e body : Expr} {params : Arguments} {scope : Scope} {c P : Addr} {p0 pos lpos kpos : Pos}
theorem bestK_run {fa : AF} {mx : Bool} {nm : Str} (hnm : bootBuiltins nm = some (.builtin (if mx = true then "max" else "min"))) (L : LamOk ζ X k bs fb p params body scope c P) (hc : X.calm = true) (hr : Room (k + 2) X.A) (hg : Gl X nm) (hm : X.mg nm = none) (hn : nm ≠ Str.ofString "__name__") (hdb : (nm == Str.ofString "__debug__") = false) (ha : PA X [e] (tA ζ X.K fa))
    (h1 : backTo pos (starEach [e] X.env) = (false, eval e X.env) :: backTo pos (starEach [] X.env) := by rfl) (h2 : (backTo pos (starEach [e] X.env)).any (·.1) = false := by rfl) :
    PE X (.Call (.Name nm p0) [e] [⟨some "key", .Lambda params body scope lpos, kpos⟩] pos) (tE ζ X.K (eBestK mx bs fb fa)) := by
  refine ⟨fun pins s σ H Q I h => ?_⟩
  obtain ⟨φ, env, m, r, m', S, E, hf, q⟩ := h
  obtain ⟨⟨r1, m1⟩, h3, hf⟩ := bind_some_iff hf
  obtain ⟨ds, h4, hf⟩ := bind_some_iff hf
  obtain ⟨⟨rs, m2⟩, h5, h3⟩ := bind_some_iff h3
  simp only at h3
  split at h3
  · rename_i r0
    cases h3
    refine wpAny_Call_Name_kw (ld_blt (hn := hn) (hd := hdb) I hg hm hnm ?_)
    refine callWith_kw (thn (ha.run pos pins s σ H (fun vs H1 => ∃ φ1, Gr φ H φ1 H1 ∧ SR ζ X.K φ1 H1 m1 ∧ RRs X.K φ1 H1 vs [r1]) I ⟨φ, env, m, [r1], m1, S, E, h5, fun φ1 H1 vs g1 S1 R1 => ⟨φ1, g1, S1, R1⟩⟩) fun us s1 ⟨vs, H1, I1, rvs, φ1, g1, S1, R1⟩ => ?_) h1 h2
    cases R1 with
    | cons R1 R0 =>
      cases R0
      obtain ⟨u, rfl, rv⟩ := one_val rvs
      show wpAny _ _ (evalAll ((do let v ← eval (.Lambda params body scope lpos) X.env; standAt pos; pure v) :: (backToKw pos (keywordEach [] X.env)).map (·.2))) _ _ s1
      refine wpAny_evalAll_cons (wpAny_bind (lam_make L I1 S1 fun f H2 s2 I2 g2 S2 LA => wpAny_bind (wpAny_standAt (wpAny_pure (wpAny_evalAll_nil ?_)))))
      exact bestK_core hc I2 hr S2 (E.mono (g1.trans g2)) LA hf (R1.mono g2) rv h4 fun φ2 H3 v2 g3 S3 R3 => q φ2 H3 v2 (g1.trans (g2.trans g3)) S3 R3
  · cases h3
theorem x_maxK {fa : AF} (L : LamOk ζ X k bs fb p params body scope c P) (hc : X.calm = true) (hr : Room (k + 2) X.A) (hg : Gl X "max") (hm : X.mg "max" = none) (ha : PA X [e] (tA ζ X.K fa))
    (h1 : backTo pos (starEach [e] X.env) = (false, eval e X.env) :: backTo pos (starEach [] X.env) := by rfl) (h2 : (backTo pos (starEach [e] X.env)).any (·.1) = false := by rfl) :
    PE X (.Call (.Name "max" p0) [e] [⟨some "key", .Lambda params body scope lpos, kpos⟩] pos) (tE ζ X.K (eBestK true bs fb fa)) := bestK_run (mx := true) bt_maxK L hc hr hg hm (by decide) (by decide) ha h1 h2
theorem x_minK {fa : AF} (L : LamOk ζ X k bs fb p params body scope c P) (hc : X.calm = true) (hr : Room (k + 2) X.A) (hg : Gl X "min") (hm : X.mg "min" = none) (ha : PA X [e] (tA ζ X.K fa))
    (h1 : backTo pos (starEach [e] X.env) = (false, eval e X.env) :: backTo pos (starEach [] X.env) := by rfl) (h2 : (backTo pos (starEach [e] X.env)).any (·.1) = false := by rfl) :
    PE X (.Call (.Name "min" p0) [e] [⟨some "key", .Lambda params body scope lpos, kpos⟩] pos) (tE ζ X.K (eBestK false bs fb fa)) := bestK_run (mx := false) bt_minK L hc hr hg hm (by decide) (by decide) ha h1 h2
end
end Ev

/-! the longest-unused rule is the best, in plain Lean -/
set_option linter.all false
namespace Be
variable {c : Nat} {far : List Nat → List Nat → Nat}
/-- how many brings the rule needs, from the wheel W -/
def bel (c : Nat) (far : List Nat → List Nat → Nat) : List Nat → List Nat → Nat
  | [], _ => 0
  | x :: r, W => if x ∈ W then bel c far r W else bel c far r ((if W.length = c then W.erase (far r W) else W) ++ [x]) + 1
def Far (far : List Nat → List Nat → Nat) : Prop := ∀ r W, W ≠ [] → far r W ∈ W ∧ ∀ e ∈ W, r.idxOf e ≤ r.idxOf (far r W)
def PA (c : Nat) (far : List Nat → List Nat → Nat) (r : List Nat) : Prop := ∀ W W' : List Nat, W.Nodup → W.Perm W' → W.length ≤ c → bel c far r W = bel c far r W'
def PY (c : Nat) (far : List Nat → List Nat → Nat) (r : List Nat) : Prop := ∀ (Z : List Nat) (p q : Nat), (q :: p :: Z).Nodup → Z.length + 1 = c → r.idxOf q ≤ r.idxOf p → bel c far r (q :: Z) ≤ bel c far r (p :: Z)
def PX (c : Nat) (far : List Nat → List Nat → Nat) (r : List Nat) : Prop := ∀ (Z : List Nat) (p q : Nat), (q :: p :: Z).Nodup → Z.length + 1 = c → bel c far r (q :: Z) ≤ bel c far r (p :: Z) + 1
theorem snoc_perm (l : List Nat) (x : Nat) : (l ++ [x]).Perm (x :: l) := List.perm_append_singleton x l
theorem nodup_snoc {l : List Nat} {x : Nat} (h : l.Nodup) (hx : x ∉ l) : (l ++ [x]).Nodup := (snoc_perm l x).nodup_iff.mpr (List.nodup_cons.mpr ⟨hx, h⟩)
theorem er_nodup {l : List Nat} {e : Nat} (h : l.Nodup) : (l.erase e).Nodup := h.erase e
theorem er_mem {l : List Nat} {e x : Nat} (h : l.Nodup) : x ∈ l.erase e ↔ x ≠ e ∧ x ∈ l := h.mem_erase_iff
theorem er_len {l : List Nat} {e : Nat} (h : e ∈ l) : (l.erase e).length + 1 = l.length := by
  have := List.length_erase_of_mem h
  have : 0 < l.length := List.length_pos_of_mem h
  omega
/-- any other choice is no better -/
theorem evict {r W : List Nat} {b e x : Nat} (A : PA c far r) (Y : PY c far r) (hW : W.Nodup) (hx : x ∉ W) (hl : W.length = c) (hb : b ∈ W) (he : e ∈ W) (hm : r.idxOf e ≤ r.idxOf b) :
    bel c far r (W.erase b ++ [x]) ≤ bel c far r (W.erase e ++ [x]) := by
  by_cases heb : e = b
  · subst heb; exact Nat.le_refl _
  have e1 : e ∈ W.erase b := (er_mem hW).mpr ⟨heb, he⟩
  have b1 : b ∈ W.erase e := (er_mem hW).mpr ⟨fun z => heb z.symm, hb⟩
  have p1 : (W.erase b ++ [x]).Perm (e :: (x :: (W.erase b).erase e)) := by
    refine (snoc_perm _ _).trans (((List.perm_cons_erase e1).cons x).trans (List.Perm.swap _ _ _))
  have p2 : (W.erase e ++ [x]).Perm (b :: (x :: (W.erase b).erase e)) := by
    refine (snoc_perm _ _).trans (((List.perm_cons_erase b1).cons x).trans ?_)
    rw [List.erase_comm]
    exact List.Perm.swap _ _ _
  have l1 := er_len hb
  have l2 := er_len he
  have l3 := er_len e1
  have nx : ∀ y, x ∉ W.erase y := fun y z => hx (List.mem_of_mem_erase z)
  rw [A _ _ (nodup_snoc (er_nodup hW) (nx b)) p1 (by rw [List.length_append, List.length_singleton]; omega), A _ _ (nodup_snoc (er_nodup hW) (nx e)) p2 (by rw [List.length_append, List.length_singleton]; omega)]
  refine Y _ _ _ ?_ (by rw [List.length_cons]; omega) hm
  have n1 : (b :: x :: (W.erase b).erase e).Nodup := p2.nodup_iff.mp (nodup_snoc (er_nodup hW) (nx e))
  have n2 : (e :: x :: (W.erase b).erase e).Nodup := p1.nodup_iff.mp (nodup_snoc (er_nodup hW) (nx b))
  rw [List.nodup_cons] at n1 n2 ⊢
  refine ⟨fun z => ?_, List.nodup_cons.mpr n1⟩
  rcases List.mem_cons.mp z with z | z
  · exact heb z
  · exact n2.1 z
theorem stS {r W : List Nat} {e x : Nat} (hf : Far far) (A : PA c far r) (Y : PY c far r) (hW : W.Nodup) (hx : x ∉ W) (hl : W.length = c) (he : e ∈ W) :
    bel c far r (W.erase (far r W) ++ [x]) ≤ bel c far r (W.erase e ++ [x]) := by
  have hne : W ≠ [] := fun z => by rw [z] at he; cases he
  obtain ⟨h1, h2⟩ := hf r W hne
  exact evict A Y hW hx hl h1 he (h2 e he)
theorem bel_hit {r W : List Nat} {x : Nat} (h : x ∈ W) : bel c far (x :: r) W = bel c far r W := by
  conv => lhs; unfold bel
  rw [if_pos h]
theorem bel_add {r W : List Nat} {x : Nat} (h : x ∉ W) (hl : W.length ≠ c) : bel c far (x :: r) W = bel c far r (W ++ [x]) + 1 := by
  conv => lhs; unfold bel
  rw [if_neg h, if_neg hl]
theorem bel_ev {r W : List Nat} {x : Nat} (h : x ∉ W) (hl : W.length = c) : bel c far (x :: r) W = bel c far r (W.erase (far r W) ++ [x]) + 1 := by
  conv => lhs; unfold bel
  rw [if_neg h, if_pos hl]
theorem idx_hd {x : Nat} {r : List Nat} : (x :: r).idxOf x = 0 := by simp
theorem idx_tl {x p : Nat} {r : List Nat} (h : x ≠ p) : (x :: r).idxOf p = r.idxOf p + 1 := by
  rw [List.idxOf_cons]
  have : (x == p) = false := by simp [h]
  rw [this]
  rfl
theorem all (hf : Far far) (hc : 1 ≤ c) : ∀ r, PA c far r ∧ PY c far r ∧ PX c far r
  | [] => ⟨fun _ _ _ _ _ => rfl, fun _ _ _ _ _ _ => Nat.le_refl _, fun _ _ _ _ _ => Nat.le_succ _⟩
  | x :: r => by
    obtain ⟨A, Y, X⟩ := all hf hc r
    -- the second wheel brings x, and gives up some e
    have two : ∀ (Z : List Nat) (p q : Nat), (q :: p :: Z).Nodup → Z.length + 1 = c → x ≠ p → x ∉ Z → x = q → bel c far r (q :: Z) ≤ bel c far r ((p :: Z).erase (far r (p :: Z)) ++ [x]) + 1 := fun Z p q nd hl hp hz hq => by
      subst hq
      obtain ⟨h1, h2⟩ := hf r (p :: Z) (by simp)
      rw [List.nodup_cons, List.nodup_cons] at nd
      obtain ⟨n0, n1, n2⟩ := nd
      by_cases he : far r (p :: Z) = p
      · rw [he, List.erase_cons_head]
        rw [A (x :: Z) (Z ++ [x]) (List.nodup_cons.mpr ⟨hz, n2⟩) (snoc_perm _ _).symm (by simp; omega)]
        exact Nat.le_succ _
      · generalize far r (p :: Z) = z at h1 h2 he
        have hzZ : z ∈ Z := by
          rcases List.mem_cons.mp h1 with q | q
          · exact absurd q he
          · exact q
        have ez : (p :: Z).erase z = p :: Z.erase z := by rw [List.erase_cons_tail (by simpa using fun q => he q.symm)]
        rw [ez]
        have l1 := er_len hzZ
        have pz : p ∉ Z.erase z := fun q => n1 (List.mem_of_mem_erase q)
        have xz : x ∉ Z.erase z := fun q => hz (List.mem_of_mem_erase q)
        have zz : z ∉ Z.erase z := fun q => ((er_mem n2).mp q).1 rfl
        have nz : (Z.erase z).Nodup := er_nodup n2
        have xnz : x ≠ z := fun q => hz (q ▸ hzZ)
        have pnz : p ≠ z := fun q => he q.symm
        have a1 := A (x :: Z) (z :: (x :: Z.erase z)) (List.nodup_cons.mpr ⟨hz, n2⟩) (((List.perm_cons_erase hzZ).cons x).trans (List.Perm.swap _ _ _)) (by simp; omega)
        have a2 := A (p :: Z.erase z ++ [x]) (p :: (x :: Z.erase z)) (by
          refine nodup_snoc (List.nodup_cons.mpr ⟨pz, nz⟩) fun q => ?_
          rcases List.mem_cons.mp q with q | q
          · exact hp q
          · exact xz q) ((snoc_perm (Z.erase z) x).cons p) (by simp; omega)
        rw [a1]
        have a3 := X (x :: Z.erase z) p z (by
          simp only [List.nodup_cons, List.mem_cons, not_or]
          exact ⟨⟨fun q => pnz q.symm, fun q => xnz q.symm, zz⟩, ⟨fun q => hp q.symm, pz⟩, xz, nz⟩) (by simp; omega)
        rw [← a2] at a3
        exact a3
    -- both bring x
    have both : ∀ (Z : List Nat) (p q : Nat) (k : Nat), (q :: p :: Z).Nodup → Z.length + 1 = c → x ≠ p → x ∉ Z → x ≠ q → (∀ Z', (q :: p :: Z').Nodup → Z'.length + 1 = c → bel c far r (q :: Z') ≤ bel c far r (p :: Z') + k) →
        bel c far r ((q :: Z).erase (far r (q :: Z)) ++ [x]) ≤ bel c far r ((p :: Z).erase (far r (p :: Z)) ++ [x]) + k := fun Z p q k nd hl hp hz hq ih => by
      rw [List.nodup_cons, List.nodup_cons] at nd
      obtain ⟨n0, n1, n2⟩ := nd
      have nq : (q :: Z).Nodup := List.nodup_cons.mpr ⟨fun w => n0 (List.mem_cons_of_mem _ w), n2⟩
      have xq : x ∉ q :: Z := fun w => by
        rcases List.mem_cons.mp w with w | w
        · exact hq w
        · exact hz w
      obtain ⟨h1, h2⟩ := hf r (p :: Z) (by simp)
      by_cases he : far r (p :: Z) = p
      · have s := stS (e := q) hf A Y nq xq (by simp; omega) List.mem_cons_self
        rw [List.erase_cons_head] at s
        rw [he, List.erase_cons_head]
        omega
      · generalize far r (p :: Z) = z at h1 h2 he
        have hzZ : z ∈ Z := by
          rcases List.mem_cons.mp h1 with q | q
          · exact absurd q he
          · exact q
        have s := stS (e := z) hf A Y nq xq (by simp; omega) (List.mem_cons_of_mem _ hzZ)
        have qz : q ≠ z := fun w => n0 (List.mem_cons_of_mem _ (w ▸ hzZ))
        have ez : (p :: Z).erase z = p :: Z.erase z := by rw [List.erase_cons_tail (by simpa using fun q => he q.symm)]
        have ez2 : (q :: Z).erase z = q :: Z.erase z := by rw [List.erase_cons_tail (by simpa using qz)]
        rw [ez2] at s
        rw [ez]
        have l1 := er_len hzZ
        have xz : x ∉ Z.erase z := fun q => hz (List.mem_of_mem_erase q)
        have nz : (Z.erase z).Nodup := er_nodup n2
        have i := ih (Z.erase z ++ [x]) (by
          have e1 : q ∉ Z.erase z := fun w => n0 (List.mem_cons_of_mem _ (List.mem_of_mem_erase w))
          have e2 : p ∉ Z.erase z := fun w => n1 (List.mem_of_mem_erase w)
          have e3 : q ≠ p := fun w => n0 (w ▸ List.mem_cons_self)
          simp only [List.nodup_cons, List.mem_cons, List.mem_append, not_or]
          refine ⟨⟨e3, e1, fun w => hq w.symm, by simp⟩, ⟨e2, fun w => hp w.symm, by simp⟩, nodup_snoc nz xz⟩) (by simp; omega)
        exact Nat.le_trans s i
    refine ⟨fun W W' nd pm hl => ?_, fun Z p q nd hl hi => ?_, fun Z p q nd hl => ?_⟩
    · have nd' : W'.Nodup := pm.nodup_iff.mp nd
      have ll := pm.length_eq
      by_cases hx : x ∈ W
      · rw [bel_hit hx, bel_hit (pm.mem_iff.mp hx)]
        exact A _ _ nd pm hl
      · have hx' : x ∉ W' := fun z => hx (pm.mem_iff.mpr z)
        by_cases hc2 : W.length = c
        · rw [bel_ev hx hc2, bel_ev hx' (by omega)]
          have hne : W ≠ [] := fun z => by rw [z, List.length_nil] at hc2; omega
          have hne' : W' ≠ [] := fun z => by rw [z, List.length_nil] at ll; omega
          have b1 := (hf r W hne).1
          have b2 := (hf r W' hne').1
          have s1 := stS hf A Y nd hx hc2 (pm.mem_iff.mpr b2)
          have s2 := stS hf A Y nd' hx' (by omega) (pm.mem_iff.mp b1)
          have lr : ∀ e ∈ W, bel c far r (W.erase e ++ [x]) = bel c far r (W'.erase e ++ [x]) := fun e he => A _ _ (nodup_snoc (er_nodup nd) fun z => hx (List.mem_of_mem_erase z)) ((pm.erase e).append_right [x]) (by
            have := er_len he
            simp; omega)
          rw [lr _ (pm.mem_iff.mpr b2)] at s1
          rw [← lr _ b1] at s2
          omega
        · rw [bel_add hx hc2, bel_add hx' (by omega), A _ _ (nodup_snoc nd hx) (pm.append_right [x]) (by simp; omega)]
    · have nd0 := nd
      rw [List.nodup_cons, List.nodup_cons] at nd
      obtain ⟨n0, n1, n2⟩ := nd
      by_cases hz : x ∈ Z
      · rw [bel_hit (List.mem_cons_of_mem _ hz), bel_hit (List.mem_cons_of_mem _ hz)]
        have xp : x ≠ p := fun w => n1 (w ▸ hz)
        have xq : x ≠ q := fun w => n0 (List.mem_cons_of_mem _ (w ▸ hz))
        rw [idx_tl xp, idx_tl xq] at hi
        exact Y Z p q nd0 hl (by omega)
      by_cases hp : x = p
      · subst hp
        rw [idx_hd] at hi
        by_cases hq : x = q
        · exact absurd (hq ▸ List.mem_cons_self) n0
        · rw [idx_tl hq] at hi
          omega
      have xp : x ∉ p :: Z := fun w => by
        rcases List.mem_cons.mp w with w | w
        · exact hp w
        · exact hz w
      by_cases hq : x = q
      · rw [bel_hit (r := r) (by rw [hq]; exact List.mem_cons_self), bel_ev xp (by simp; omega)]
        exact two Z p q nd0 hl hp hz hq
      · have xq : x ∉ q :: Z := fun w => by
          rcases List.mem_cons.mp w with w | w
          · exact hq w
          · exact hz w
        rw [bel_ev xp (by simp; omega), bel_ev xq (by simp; omega)]
        rw [idx_tl hp, idx_tl hq] at hi
        have := both Z p q 0 nd0 hl hp hz hq fun Z' n' l' => Y Z' p q n' l' (by omega)
        omega
    · have nd0 := nd
      rw [List.nodup_cons, List.nodup_cons] at nd
      obtain ⟨n0, n1, n2⟩ := nd
      by_cases hz : x ∈ Z
      · rw [bel_hit (List.mem_cons_of_mem _ hz), bel_hit (List.mem_cons_of_mem _ hz)]
        exact X Z p q nd0 hl
      have nq : (q :: Z).Nodup := List.nodup_cons.mpr ⟨fun w => n0 (List.mem_cons_of_mem _ w), n2⟩
      by_cases hq : x = q
      · have hp : x ≠ p := fun w => n0 (hq ▸ w ▸ List.mem_cons_self)
        have xp : x ∉ p :: Z := fun w => by
          rcases List.mem_cons.mp w with w | w
          · exact hp w
          · exact hz w
        rw [bel_hit (r := r) (by rw [hq]; exact List.mem_cons_self), bel_ev xp (by simp; omega)]
        have := two Z p q nd0 hl hp hz hq
        omega
      have xq : x ∉ q :: Z := fun w => by
        rcases List.mem_cons.mp w with w | w
        · exact hq w
        · exact hz w
      by_cases hp : x = p
      · rw [bel_ev xq (by simp; omega), bel_hit (W := p :: Z) (by rw [hp]; exact List.mem_cons_self)]
        have s := stS (e := q) hf A Y nq xq (by simp; omega) List.mem_cons_self
        rw [List.erase_cons_head] at s
        have a := A (Z ++ [x]) (p :: Z) (nodup_snoc n2 hz) (by rw [hp]; exact snoc_perm _ _) (by simp; omega)
        omega
      · have xp : x ∉ p :: Z := fun w => by
          rcases List.mem_cons.mp w with w | w
          · exact hp w
          · exact hz w
        rw [bel_ev xp (by simp; omega), bel_ev xq (by simp; omega)]
        have := both Z p q 1 nd0 hl hp hz hq fun Z' n' l' => X Z' p q n' l'
        omega
/-- what one way costs -/
theorem bell (hf : Far far) (hc : 1 ≤ c) {r W W' : List Nat} {x : Nat} (hW : W.Nodup) (hl : W.length ≤ c) (hx : x ∉ W)
    (h : (W.length < c ∧ W'.Perm (W ++ [x])) ∨ (W.length = c ∧ ∃ e ∈ W, W'.Perm (W.erase e ++ [x]))) : bel c far (x :: r) W ≤ bel c far r W' + 1 := by
  obtain ⟨A, Y, X⟩ := all hf hc r
  rcases h with ⟨h1, h2⟩ | ⟨h1, e, he, h2⟩
  · rw [bel_add hx (by omega), A _ _ (nodup_snoc hW hx) h2.symm (by simp; omega)]
    exact Nat.le_refl _
  · rw [bel_ev hx h1]
    have := stS hf A Y hW hx h1 he
    rw [A _ _ (nodup_snoc (er_nodup hW) fun z => hx (List.mem_of_mem_erase z)) h2.symm (by have := er_len he; simp; omega)] at this
    omega
end Be

set_option linter.all false
set_option Elab.async false
set_option maxHeartbeats 1000000
/-! the marking rule, in plain Lean -/
namespace Mk
open Ev Be
abbrev Wm := List Nat × List Nat
abbrev Lv := List (Wm × Rat)
/-- x put to a list without twins -/
def dd (M : List Nat) (x : Nat) : List Nat := if x ∈ M then M else M ++ [x]
def kpt (c : Nat) (M : List Nat) : List Nat := if M.length = c then [] else M
def ways (c x : Nat) (s : Wm) : List Wm × Bool :=
  if x ∈ s.1 then ([(s.1, srt (dd s.2 x))], false)
  else if s.1.length < c then ([(srt (s.1 ++ [x]), srt (s.2 ++ [x]))], true)
  else ((s.1.filter (fun o => decide (o ∉ kpt c s.2))).map fun o => (srt (s.1.filter (fun y => decide (y ≠ o)) ++ [x]), srt (kpt c s.2 ++ [x])), true)
def addS : Lv → Wm → Rat → Lv
  | [], s, q => [(s, q)]
  | (t, v) :: l, s, q => if t = s then (t, v + q) :: l else (t, v) :: addS l s q
def addW (q : Rat) (ss : List Wm) (m : Lv) : Lv := ss.foldl (fun m s => addS m s q) m
def stE (c x : Nat) (a : Rat × Lv) (e : Wm × Rat) : Rat × Lv :=
  ((if (ways c x e.1).2 = true then a.1 + e.2 else a.1), addW (e.2 * (1 / (((ways c x e.1).1.length : Nat) : Rat))) (ways c x e.1).1 a.2)
def stL (c : Nat) (a : Rat × Lv) (x : Nat) : Rat × Lv := a.2.foldl (stE c x) (a.1, [])
def mean (c : Nat) (calls : List Nat) : Rat := (calls.foldl (stL c) (0, [(([], []), 1)])).1
/-! sums -/
def ws (f : Wm → Rat) : Lv → Rat
  | [] => 0
  | e :: l => e.2 * f e.1 + ws f l
def gs (f : Wm → Rat) : List Wm → Rat
  | [] => 0
  | s :: l => f s + gs f l
theorem ws_add (f : Wm → Rat) (s : Wm) (q : Rat) : ∀ l, ws f (addS l s q) = ws f l + q * f s
  | [] => by simp only [addS, ws]; grind
  | (t, v) :: l => by
    unfold addS
    split
    · rename_i h
      subst h
      simp only [ws]
      grind
    · simp only [ws, ws_add f s q l]
      grind
theorem ws_addW (f : Wm → Rat) (q : Rat) : ∀ (ss : List Wm) (m : Lv), ws f (addW q ss m) = ws f m + q * gs f ss
  | [], m => by simp only [addW, List.foldl_nil, gs]; grind
  | s :: ss, m => by
    show ws f (addW q ss (addS m s q)) = _
    rw [ws_addW f q ss, ws_add]
    simp only [gs]
    grind
theorem gs_ge {f : Wm → Rat} {k : Rat} : ∀ {ss : List Wm}, (∀ s ∈ ss, k ≤ f s) → ((ss.length : Nat) : Rat) * k ≤ gs f ss
  | [], _ => by simp [gs]
  | s :: ss, h => by
    have h1 := gs_ge (ss := ss) fun t ht => h t (List.mem_cons_of_mem _ ht)
    have h2 := h s List.mem_cons_self
    simp only [gs, List.length_cons]
    push_cast
    grind
theorem gs_one : ∀ {ss : List Wm}, gs (fun _ => 1) ss = ((ss.length : Nat) : Rat)
  | [] => by simp [gs]
  | s :: ss => by
    simp only [gs, List.length_cons, gs_one (ss := ss)]
    push_cast
    grind
theorem len_pos {n : Nat} (h : n ≠ 0) : (0 : Rat) < ((n : Nat) : Rat) := Rat.natCast_pos.mpr (by omega)
theorem share {n : Nat} (h : n ≠ 0) (q : Rat) : q * (1 / ((n : Nat) : Rat)) * ((n : Nat) : Rat) = q := by
  have := len_pos h
  have h2 : ((n : Nat) : Rat) ≠ 0 := by grind
  grind
theorem share_nn {n : Nat} {q : Rat} (h : n ≠ 0) (hq : 0 ≤ q) : 0 ≤ q * (1 / ((n : Nat) : Rat)) := by
  have := len_pos h
  have h2 : (0 : Rat) ≤ 1 / ((n : Nat) : Rat) := by
    have e1 := share h (1 : Rat)
    generalize (1 / ((n : Nat) : Rat)) = u at e1 ⊢
    generalize ((n : Nat) : Rat) = k at e1 this
    by_cases hu : 0 ≤ u
    · exact hu
    · have h1 : 0 ≤ -u := by grind
      have h2 := Rat.mul_nonneg h1 (show 0 ≤ k by grind)
      grind
  exact Rat.mul_nonneg hq h2
/-- one entry -/
theorem stE_ge {c x : Nat} {f g : Wm → Rat} {a : Rat × Lv} {e : Wm × Rat} (hn : (ways c x e.1).1 ≠ []) (hq : 0 ≤ e.2) (h : ∀ s ∈ (ways c x e.1).1, f e.1 ≤ (if (ways c x e.1).2 = true then 1 else 0) + g s) :
    a.1 + ws g a.2 + e.2 * f e.1 ≤ (stE c x a e).1 + ws g (stE c x a e).2 := by
  unfold stE
  rw [ws_addW]
  simp only
  have hl : (ways c x e.1).1.length ≠ 0 := fun z => hn (List.eq_nil_of_length_eq_zero z)
  generalize hb : (if (ways c x e.1).2 = true then (1 : Rat) else 0) = b at h
  have e1 : (if (ways c x e.1).2 = true then a.1 + e.2 else a.1) = a.1 + e.2 * b := by
    rw [← hb]
    split <;> grind
  rw [e1]
  have h1 := gs_ge (k := f e.1 - b) (ss := (ways c x e.1).1) (f := g) fun s hs => by have := h s hs; grind
  have h2 := Rat.mul_le_mul_of_nonneg_left h1 (share_nn hl hq)
  have h3 := share hl e.2
  generalize (1 / (((ways c x e.1).1.length : Nat) : Rat)) = u at h2 h3 ⊢
  generalize (((ways c x e.1).1.length : Nat) : Rat) = l at h2 h3 ⊢
  have h4 : e.2 * u * (l * (f e.1 - b)) = e.2 * (f e.1 - b) := by
    have : e.2 * u * (l * (f e.1 - b)) = (e.2 * u * l) * (f e.1 - b) := by grind
    rw [this, h3]
  rw [h4] at h2
  grind
theorem stE_one {c x : Nat} {a : Rat × Lv} {e : Wm × Rat} (hn : (ways c x e.1).1 ≠ []) : ws (fun _ => 1) (stE c x a e).2 = ws (fun _ => 1) a.2 + e.2 := by
  unfold stE
  simp only
  rw [ws_addW, gs_one, share fun z => hn (List.eq_nil_of_length_eq_zero z)]
theorem folds {c x : Nat} {f g : Wm → Rat} : ∀ {L : Lv} {a : Rat × Lv}, (∀ e ∈ L, (ways c x e.1).1 ≠ [] ∧ 0 ≤ e.2 ∧ ∀ s ∈ (ways c x e.1).1, f e.1 ≤ (if (ways c x e.1).2 = true then 1 else 0) + g s) →
    a.1 + ws g a.2 + ws f L ≤ (L.foldl (stE c x) a).1 + ws g (L.foldl (stE c x) a).2
  | [], a, _ => by simp only [List.foldl_nil, ws]; grind
  | e :: L, a, h => by
    rw [List.foldl_cons]
    have h1 := folds (L := L) (a := stE c x a e) (f := f) (g := g) fun e he => h e (List.mem_cons_of_mem _ he)
    obtain ⟨b1, b2, b3⟩ := h e List.mem_cons_self
    have h2 := stE_ge (a := a) b1 b2 b3
    simp only [ws]
    grind
theorem folds_one {c x : Nat} : ∀ {L : Lv} {a : Rat × Lv}, (∀ e ∈ L, (ways c x e.1).1 ≠ []) → ws (fun _ => 1) (L.foldl (stE c x) a).2 = ws (fun _ => 1) a.2 + ws (fun _ => 1) L
  | [], a, _ => by simp only [List.foldl_nil, ws]; grind
  | e :: L, a, h => by
    rw [List.foldl_cons, folds_one fun e he => h e (List.mem_cons_of_mem _ he), stE_one (h e List.mem_cons_self)]
    simp only [ws]
    grind
/-- how much the total grows -/
theorem folds_up {c x : Nat} : ∀ {L : Lv} {a : Rat × Lv}, (∀ e ∈ L, 0 ≤ e.2) → (L.foldl (stE c x) a).1 ≤ a.1 + ws (fun _ => 1) L ∧ a.1 ≤ (L.foldl (stE c x) a).1
  | [], a, _ => by simp only [List.foldl_nil, ws]; grind
  | e :: L, a, h => by
    rw [List.foldl_cons]
    have h1 := folds_up (c := c) (x := x) (L := L) (a := stE c x a e) fun e he => h e (List.mem_cons_of_mem _ he)
    have h2 := h e List.mem_cons_self
    have e1 : (stE c x a e).1 = (if (ways c x e.1).2 = true then a.1 + e.2 else a.1) := rfl
    simp only [ws]
    rw [e1] at h1
    split at h1 <;> grind
theorem folds_no {c x : Nat} : ∀ {L : Lv} {a : Rat × Lv}, (∀ e ∈ L, (ways c x e.1).2 = false) → (L.foldl (stE c x) a).1 = a.1
  | [], a, _ => rfl
  | e :: L, a, h => by
    rw [List.foldl_cons, folds_no fun e he => h e (List.mem_cons_of_mem _ he)]
    show (if (ways c x e.1).2 = true then a.1 + e.2 else a.1) = _
    rw [h e List.mem_cons_self]
    rfl
/-- what every entry of the new level has -/
theorem addS_all {P : Wm → Rat → Prop} {s : Wm} {q : Rat} (h0 : P s q) (h1 : ∀ v, P s v → P s (v + q)) : ∀ {l : Lv}, (∀ e ∈ l, P e.1 e.2) → ∀ e ∈ addS l s q, P e.1 e.2
  | [], h, e, he => by
    rw [List.mem_singleton.mp he]
    exact h0
  | (t, v) :: l, h, e, he => by
    unfold addS at he
    split at he
    · rename_i ht
      subst ht
      rcases List.mem_cons.mp he with z | z
      · rw [z]; exact h1 _ (h _ List.mem_cons_self)
      · exact h e (List.mem_cons_of_mem _ z)
    · rcases List.mem_cons.mp he with z | z
      · rw [z]; exact h _ List.mem_cons_self
      · exact addS_all h0 h1 (fun e he => h e (List.mem_cons_of_mem _ he)) e z
theorem addW_all {P : Wm → Rat → Prop} {q : Rat} : ∀ {ss : List Wm} {m : Lv}, (∀ s ∈ ss, P s q ∧ ∀ v, P s v → P s (v + q)) → (∀ e ∈ m, P e.1 e.2) → ∀ e ∈ addW q ss m, P e.1 e.2
  | [], m, _, h => h
  | s :: ss, m, hs, h => by
    show ∀ e ∈ addW q ss (addS m s q), P e.1 e.2
    exact addW_all (fun t ht => hs t (List.mem_cons_of_mem _ ht)) (addS_all (hs s List.mem_cons_self).1 (hs s List.mem_cons_self).2 h)
theorem folds_all {c x : Nat} {P : Wm → Rat → Prop} : ∀ {L : Lv} {a : Rat × Lv}, (∀ e ∈ L, ∀ s ∈ (ways c x e.1).1, P s (e.2 * (1 / (((ways c x e.1).1.length : Nat) : Rat))) ∧ ∀ v, P s v → P s (v + e.2 * (1 / (((ways c x e.1).1.length : Nat) : Rat)))) →
    (∀ e ∈ a.2, P e.1 e.2) → ∀ e ∈ (L.foldl (stE c x) a).2, P e.1 e.2
  | [], a, _, h => h
  | e :: L, a, h, ha => by
    rw [List.foldl_cons]
    exact folds_all (fun e he => h e (List.mem_cons_of_mem _ he)) (addW_all (h e List.mem_cons_self) ha)
end Mk

set_option linter.all false
set_option Elab.async false
set_option maxHeartbeats 1000000
/-! the marking rule: what its levels have -/
namespace Mk
open Ev Be
theorem mem_srt {l : List Nat} {x : Nat} : x ∈ srt l ↔ x ∈ l := (srt_perm l).mem_iff
theorem nd_srt {l : List Nat} : (srt l).Nodup ↔ l.Nodup := (srt_perm l).nodup_iff
theorem srt_srt (l : List Nat) : srt (srt l) = srt l := List.mergeSort_of_pairwise (by
  have := srt_sorted l
  exact this.imp fun {a b} h => by simpa using h)
theorem srt_one (x : Nat) : srt [x] = [x] := by simp [srt]
structure Ok (c : Nat) (M : List Nat) (s : Wm) : Prop where
  mks : s.2 = M
  nd : s.1.Nodup
  le : s.1.length ≤ c
  sub : ∀ y ∈ M, y ∈ s.1
def nxt (c : Nat) (M : List Nat) (x : Nat) : List Nat := if x ∈ M then M else if M.length = c then [x] else srt (M ++ [x])
theorem full {M w : List Nat} (hM : M.Nodup) (hs : ∀ y ∈ M, y ∈ w) (hl : w.length ≤ M.length) : ∀ y ∈ w, y ∈ M := fun y hy => by
  by_cases h : y ∈ M
  · exact h
  · have n : (y :: M).Nodup := List.nodup_cons.mpr ⟨h, hM⟩
    have := n.length_le_of_subset (l₂ := w) fun z hz => by
      rcases List.mem_cons.mp hz with q | q
      · rw [q]; exact hy
      · exact hs z q
    rw [List.length_cons] at this
    omega
theorem sub_len {M w : List Nat} (hM : M.Nodup) (hs : ∀ y ∈ M, y ∈ w) : M.length ≤ w.length := hM.length_le_of_subset hs
/-- the way from one wheel to the next -/
def Way (c x : Nat) (W W' : List Nat) : Prop := (x ∈ W ∧ W' = W) ∨ (x ∉ W ∧ ((W.length < c ∧ W'.Perm (W ++ [x])) ∨ (W.length = c ∧ ∃ e ∈ W, W'.Perm (W.erase e ++ [x]))))
theorem ways_ok {c x : Nat} {M : List Nat} {s : Wm} (hc : 1 ≤ c) (O : Ok c M s) (hM : M.Nodup) (hs : srt M = M) :
    (ways c x s).1 ≠ [] ∧ (ways c x s).1.length ≤ c ∧ (ways c x s).2 = decide (x ∉ s.1) ∧ ∀ s' ∈ (ways c x s).1, Ok c (nxt c M x) s' ∧ Way c x s.1 s'.1 := by
  obtain ⟨w, mk⟩ := s
  obtain ⟨h1, h2, h3, h4⟩ := O
  simp only at h1 h2 h3 h4
  subst h1
  by_cases hx : x ∈ w
  · unfold ways
    simp only [hx, if_true]
    refine ⟨by simp, by simpa using hc, by simp, fun s' hs' => ?_⟩
    rw [List.mem_singleton.mp hs']
    refine ⟨⟨?_, h2, h3, fun y hy => ?_⟩, .inl ⟨hx, rfl⟩⟩
    · show srt (dd mk x) = nxt c mk x
      unfold dd nxt
      by_cases hm : x ∈ mk
      · rw [if_pos hm, if_pos hm, hs]
      · rw [if_neg hm, if_neg hm, if_neg fun z => hm (full hM h4 (by omega) x hx)]
    · unfold nxt at hy
      split at hy
      · exact h4 y hy
      · split at hy
        · rw [List.mem_singleton.mp hy]; exact hx
        · rcases List.mem_append.mp (mem_srt.mp hy) with q | q
          · exact h4 y q
          · rw [List.mem_singleton.mp q]; exact hx
  · have hm : x ∉ mk := fun z => hx (h4 x z)
    have hml := sub_len hM h4
    by_cases hl : w.length < c
    · unfold ways
      simp only [hx, if_false, hl, if_true]
      refine ⟨by simp, by simpa using hc, by simp, fun s' hs' => ?_⟩
      rw [List.mem_singleton.mp hs']
      refine ⟨⟨?_, nd_srt.mpr (nodup_snoc h2 hx), ?_, fun y hy => ?_⟩, .inr ⟨hx, .inl ⟨hl, srt_perm _⟩⟩⟩
      · show srt (mk ++ [x]) = nxt c mk x
        unfold nxt
        rw [if_neg hm, if_neg (by omega)]
      · rw [srt_len, List.length_append, List.length_singleton]; omega
      · unfold nxt at hy
        rw [if_neg hm, if_neg (by omega)] at hy
        rcases List.mem_append.mp (mem_srt.mp hy) with q | q
        · exact mem_srt.mpr (List.mem_append_left _ (h4 y q))
        · exact mem_srt.mpr (List.mem_append_right _ q)
    · have hlc : w.length = c := by omega
      unfold ways
      simp only [hx, if_false, hl]
      have kk : ∀ y ∈ kpt c mk, y ∈ mk := fun y hy => by
        unfold kpt at hy
        split at hy
        · cases hy
        · exact hy
      have kl : (kpt c mk).length < c := by
        unfold kpt
        split
        · simp; omega
        · omega
      have knd : (kpt c mk).Nodup := by
        unfold kpt
        split
        · exact List.nodup_nil
        · exact hM
      obtain ⟨o, ho1, ho2⟩ : ∃ o, o ∈ w ∧ o ∉ kpt c mk := by
        apply Classical.byContradiction
        intro hn
        have : ∀ y ∈ w, y ∈ kpt c mk := fun y hy => Classical.byContradiction fun z => hn ⟨y, hy, z⟩
        have := sub_len h2 this
        omega
      refine ⟨?_, ?_, by simp, fun s' hs' => ?_⟩
      · intro z
        have : o ∈ w.filter (fun o => decide (o ∉ kpt c mk)) := List.mem_filter.mpr ⟨ho1, by simpa using ho2⟩
        rw [List.map_eq_nil_iff.mp z] at this
        cases this
      · rw [List.length_map, ← hlc]
        exact List.length_filter_le _ _
      · obtain ⟨e, he, rfl⟩ := List.mem_map.mp hs'
        obtain ⟨e1, e2⟩ := List.mem_filter.mp he
        have e2' : e ∉ kpt c mk := by simpa using e2
        have er : w.filter (fun y => decide (y ≠ e)) = w.erase e := by
          rw [h2.erase_eq_filter]
          congr 1
          funext y
          by_cases q : y = e <;> simp [q]
        have ll := er_len e1
        have nx : x ∉ w.erase e := fun z => hx (List.mem_of_mem_erase z)
        refine ⟨⟨?_, ?_, ?_, fun y hy => ?_⟩, .inr ⟨hx, .inr ⟨hlc, e, e1, ?_⟩⟩⟩
        · show srt (kpt c mk ++ [x]) = nxt c mk x
          unfold nxt kpt
          rw [if_neg hm]
          split
          · exact srt_one x
          · rfl
        · show (srt _).Nodup
          rw [er]
          exact nd_srt.mpr (nodup_snoc (er_nodup h2) nx)
        · show (srt _).length ≤ c
          rw [er, srt_len, List.length_append, List.length_singleton]
          omega
        · show y ∈ srt _
          rw [er]
          have hy2 : y ∈ kpt c mk ∨ y = x := by
            unfold nxt at hy
            unfold kpt
            rw [if_neg hm] at hy
            split at hy
            · exact .inr (List.mem_singleton.mp hy)
            · rename_i q
              rw [if_neg q]
              rcases List.mem_append.mp (mem_srt.mp hy) with q | q
              · exact .inl q
              · exact .inr (List.mem_singleton.mp q)
          rcases hy2 with q | q
          · have : y ∈ w.erase e := (er_mem h2).mpr ⟨fun z => e2' (z ▸ q), h4 y (kk y q)⟩
            exact mem_srt.mpr (List.mem_append_left _ this)
          · exact mem_srt.mpr (List.mem_append_right _ (by simp [q]))
        · show (srt _).Perm _
          rw [er]
          exact srt_perm _
theorem nxt_nd {c x : Nat} {M : List Nat} (hM : M.Nodup) : (nxt c M x).Nodup := by
  unfold nxt
  split
  · exact hM
  · split
    · simp
    · rename_i h _
      exact nd_srt.mpr (nodup_snoc hM h)
theorem nxt_srt {c x : Nat} {M : List Nat} (hs : srt M = M) : srt (nxt c M x) = nxt c M x := by
  unfold nxt
  split
  · exact hs
  · split
    · exact srt_one x
    · exact srt_srt _
theorem nxt_len {c x : Nat} {M : List Nat} (hc : 1 ≤ c) (h : M.length ≤ c) : (nxt c M x).length ≤ c := by
  unfold nxt
  split
  · exact h
  · split
    · simpa using hc
    · rw [srt_len, List.length_append, List.length_singleton]; omega
/-- a level -/
structure LInv (c t : Nat) (M : List Nat) (tot : Rat) (L : Lv) : Prop where
  nd : M.Nodup
  so : srt M = M
  le : M.length ≤ c
  ok : ∀ e ∈ L, Ok c M e.1
  pos : ∀ e ∈ L, 0 ≤ e.2
  inn : ∀ e ∈ L, Qa.In (6 ^ t) e.2
  one : ws (fun _ => 1) L = 1
  tin : Qa.In (6 ^ t) tot
  t0 : 0 ≤ tot
  tt : tot ≤ ((t : Nat) : Rat)
  keys : (L.map (·.1)).Nodup
theorem addS_keys {s : Wm} {q : Rat} : ∀ {l : Lv}, (l.map (·.1)).Nodup → ((addS l s q).map (·.1)).Nodup ∧ ∀ k, k ∈ (addS l s q).map (·.1) ↔ k = s ∨ k ∈ l.map (·.1)
  | [], _ => by simp [addS]
  | (t, v) :: l, h => by
    rw [List.map_cons, List.nodup_cons] at h
    obtain ⟨i1, i2⟩ := addS_keys (s := s) (q := q) h.2
    unfold addS
    split
    · rename_i ht
      subst ht
      refine ⟨by rw [List.map_cons, List.nodup_cons]; exact h, fun k => by simp⟩
    · rename_i ht
      refine ⟨?_, fun k => ?_⟩
      · rw [List.map_cons, List.nodup_cons]
        refine ⟨fun z => ?_, i1⟩
        rcases (i2 t).mp z with z | z
        · exact ht z
        · exact h.1 z
      · rw [List.map_cons, List.mem_cons, i2 k, List.map_cons, List.mem_cons]
        constructor
        · rintro (z | z | z)
          · exact .inr (.inl z)
          · exact .inl z
          · exact .inr (.inr z)
        · rintro (z | z | z)
          · exact .inr (.inl z)
          · exact .inl z
          · exact .inr (.inr z)
theorem addW_keys {q : Rat} : ∀ {ss : List Wm} {m : Lv}, (m.map (·.1)).Nodup → ((addW q ss m).map (·.1)).Nodup
  | [], m, h => h
  | s :: ss, m, h => addW_keys (ss := ss) (m := addS m s q) (addS_keys h).1
theorem folds_keys {c x : Nat} : ∀ {L : Lv} {a : Rat × Lv}, (a.2.map (·.1)).Nodup → ((L.foldl (stE c x) a).2.map (·.1)).Nodup
  | [], a, h => h
  | e :: L, a, h => folds_keys (L := L) (a := stE c x a e) (addW_keys h)
theorem share_in {t n : Nat} {q : Rat} (h : Qa.In (6 ^ t) q) (h0 : n ≠ 0) (h3 : n ≤ 3) : Qa.In (6 ^ (t + 1)) (q * (1 / ((n : Nat) : Rat))) := by
  have hd : n ∣ 6 := by
    have : n = 1 ∨ n = 2 ∨ n = 3 := by omega
    rcases this with rfl | rfl | rfl <;> decide
  have h1 := (Qa.In.inv (N := n) (by omega)).dvd hd
  have := h.mul h1
  rw [Nat.pow_succ]
  exact this
theorem In_up {t : Nat} {q : Rat} (h : Qa.In (6 ^ t) q) : Qa.In (6 ^ (t + 1)) q := h.dvd ⟨6, Nat.pow_succ ..⟩
theorem folds_tin {c x N : Nat} : ∀ {L : Lv} {a : Rat × Lv}, (∀ e ∈ L, Qa.In N e.2) → Qa.In N a.1 → Qa.In N (L.foldl (stE c x) a).1
  | [], a, _, h => h
  | e :: L, a, h, ha => by
    rw [List.foldl_cons]
    refine folds_tin (fun e he => h e (List.mem_cons_of_mem _ he)) ?_
    show Qa.In N (if (ways c x e.1).2 = true then a.1 + e.2 else a.1)
    split
    · exact ha.add (h e List.mem_cons_self)
    · exact ha
theorem LInv.step {c t x : Nat} {M : List Nat} {tot : Rat} {L : Lv} (hc : 1 ≤ c) (hc3 : c ≤ 3) (I : LInv c t M tot L) : LInv c (t + 1) (nxt c M x) (stL c (tot, L) x).1 (stL c (tot, L) x).2 := by
  have wo := fun (e : Wm × Rat) (he : e ∈ L) => ways_ok (x := x) hc (I.ok e he) I.nd I.so
  have hn := fun (e : Wm × Rat) (he : e ∈ L) => (wo e he).1
  have hl0 := fun (e : Wm × Rat) (he : e ∈ L) => (fun z => hn e he (List.eq_nil_of_length_eq_zero z) : (ways c x e.1).1.length ≠ 0)
  have up := folds_up (c := c) (x := x) (L := L) (a := (tot, [])) I.pos
  have one := folds_one (c := c) (x := x) (L := L) (a := (tot, [])) hn
  refine ⟨nxt_nd I.nd, nxt_srt I.so, nxt_len hc I.le, ?_, ?_, ?_, ?_, ?_, ?_, ?_, folds_keys (by simp)⟩
  · exact folds_all (P := fun s _ => Ok c (nxt c M x) s) (fun e he s hs => ⟨((wo e he).2.2.2 s hs).1, fun _ h => h⟩) (fun e he => by cases he)
  · exact folds_all (P := fun _ v => 0 ≤ v) (fun e he s hs => ⟨share_nn (hl0 e he) (I.pos e he), fun v hv => by have := share_nn (hl0 e he) (I.pos e he); grind⟩) (fun e he => by cases he)
  · exact folds_all (P := fun _ v => Qa.In (6 ^ (t + 1)) v) (fun e he s hs => by
      have := share_in (I.inn e he) (hl0 e he) (Nat.le_trans (wo e he).2.1 hc3)
      exact ⟨this, fun v hv => hv.add this⟩) (fun e he => by cases he)
  · show ws _ (L.foldl (stE c x) (tot, [])).2 = 1
    rw [one, I.one]
    simp only [ws]
    grind
  · exact folds_tin (fun e he => In_up (I.inn e he)) (In_up I.tin)
  · exact Rat.le_trans I.t0 up.2
  · have h1 := up.1
    rw [I.one] at h1
    have := I.tt
    have e : ((t + 1 : Nat) : Rat) = (t : Rat) + 1 := by push_cast; rfl
    rw [e]
    show (L.foldl (stE c x) (tot, [])).1 ≤ _
    simp only at h1
    grind
theorem LInv.start {c : Nat} : LInv c 0 [] 0 [(([], []), 1)] := by
  refine ⟨List.nodup_nil, by simp [srt], Nat.zero_le _, ?_, ?_, ?_, ?_, ?_, ?_, ?_, by simp⟩
  · intro e he
    rw [List.mem_singleton.mp he]
    exact ⟨rfl, List.nodup_nil, Nat.zero_le _, fun y hy => by cases hy⟩
  · intro e he
    rw [List.mem_singleton.mp he]
    show (0 : Rat) ≤ 1
    decide
  · intro e he
    rw [List.mem_singleton.mp he]
    exact Qa.In.nat 1
  · simp only [ws]; grind
  · exact Qa.In.nat 0
  · decide
  · decide
/-- every chance is at most one -/
theorem ws_le {L : Lv} (hp : ∀ e ∈ L, 0 ≤ e.2) : 0 ≤ ws (fun _ => 1) L ∧ ∀ e ∈ L, e.2 ≤ ws (fun _ => 1) L := by
  induction L with
  | nil => exact ⟨by simp only [ws]; decide, fun e he => by cases he⟩
  | cons a L ih =>
    obtain ⟨i1, i2⟩ := ih fun e he => hp e (List.mem_cons_of_mem _ he)
    have h := hp a List.mem_cons_self
    simp only [ws]
    refine ⟨by grind, fun e he => ?_⟩
    rcases List.mem_cons.mp he with q | q
    · rw [q]; grind
    · have := i2 e q; grind
end Mk

set_option linter.all false
set_option Elab.async false
set_option maxHeartbeats 1000000
/-! the marking rule against the best one -/
namespace Mk
open Ev Be
variable {c : Nat} {far : List Nat → List Nat → Nat}
theorem way_le (hf : Far far) (hc : 1 ≤ c) {x : Nat} {r W W' : List Nat} (hW : W.Nodup) (hl : W.length ≤ c) (h : Way c x W W') : ((bel c far (x :: r) W : Nat) : Rat) ≤ (if decide (x ∉ W) = true then 1 else 0) + ((bel c far r W' : Nat) : Rat) := by
  rcases h with ⟨h1, h2⟩ | ⟨h1, h2⟩
  · rw [bel_hit h1, h2]
    simp [h1]
    grind
  · have := bell (r := r) (W' := W') hf hc hW hl h1 h2
    simp only [h1, not_false_eq_true, decide_true, if_true]
    have e : ((bel c far (x :: r) W : Nat) : Rat) ≤ ((bel c far r W' + 1 : Nat) : Rat) := Rat.natCast_le_natCast.mpr this
    push_cast at e
    grind
theorem ws_zero : ∀ L : Lv, ws (fun _ => ((0 : Nat) : Rat)) L = 0
  | [] => rfl
  | e :: L => by
    simp only [ws, ws_zero L]
    grind
theorem lower (hf : Far far) (hc : 1 ≤ c) (hc3 : c ≤ 3) : ∀ (rest : List Nat) {t : Nat} {M : List Nat} {tot : Rat} {L : Lv}, LInv c t M tot L → tot + ws (fun s => ((bel c far rest s.1 : Nat) : Rat)) L ≤ (rest.foldl (stL c) (tot, L)).1
  | [], t, M, tot, L, I => by
    simp only [bel, List.foldl_nil, ws_zero]
    grind
  | x :: r, t, M, tot, L, I => by
    rw [List.foldl_cons]
    have h1 := lower hf hc hc3 r (I.step (x := x) hc hc3)
    have h2 := folds (c := c) (x := x) (L := L) (a := (tot, [])) (f := fun s => ((bel c far (x :: r) s.1 : Nat) : Rat)) (g := fun s => ((bel c far r s.1 : Nat) : Rat)) fun e he => by
      obtain ⟨w1, w2, w3, w4⟩ := ways_ok (x := x) hc (I.ok e he) I.nd I.so
      refine ⟨w1, I.pos e he, fun s hs => ?_⟩
      rw [w3]
      exact way_le hf hc (I.ok e he).nd (I.ok e he).le (w4 s hs).2
    have e0 : ws (fun s => ((bel c far r s.1 : Nat) : Rat)) [] = 0 := rfl
    simp only [e0] at h2
    have e1 : L.foldl (stE c x) (tot, []) = stL c (tot, L) x := rfl
    rw [e1] at h2
    generalize stL c (tot, L) x = o at h1 h2 ⊢
    obtain ⟨o1, o2⟩ := o
    grind
theorem upper (hf : Far far) (hc : 1 ≤ c) (hc3 : c ≤ 3) : ∀ (rest : List Nat) {t : Nat} {M : List Nat} {tot : Rat} {L : Lv} {R n : Nat} {B : List Nat}, LInv c t M tot L → tot ≤ ((c * R + M.length : Nat) : Rat) → ((∀ y ∈ M, y ∈ B) ∧ R ≤ n) ∨ R + 1 ≤ n → B.Nodup → B.length ≤ c →
    (rest.foldl (stL c) (tot, L)).1 ≤ ((c * (n + bel c far rest B) + c : Nat) : Rat)
  | [], t, M, tot, L, R, n, B, I, h, hR, hB, hl => by
    show tot ≤ _
    refine Rat.le_trans h (Rat.natCast_le_natCast.mpr ?_)
    have : R ≤ n := by omega
    have h1 : c * R ≤ c * (n + bel c far [] B) := Nat.mul_le_mul_left _ (by unfold bel; omega)
    have := I.le
    omega
  | x :: r, t, M, tot, L, R, n, B, I, h, hR, hB, hl => by
    rw [List.foldl_cons]
    have I2 := I.step (x := x) hc hc3
    have up := (folds_up (c := c) (x := x) (L := L) (a := (tot, [])) I.pos).1
    rw [I.one] at up
    have up2 : (stL c (tot, L) x).1 ≤ tot + 1 := up
    clear up
    have no : x ∈ M → (stL c (tot, L) x).1 = tot := fun hx => folds_no (a := (tot, [])) fun e he => by
      obtain ⟨w1, w2, w3, w4⟩ := ways_ok (x := x) hc (I.ok e he) I.nd I.so
      rw [w3]
      have := (I.ok e he).sub x hx
      simp [this]
    -- the run of the best rule
    obtain ⟨B', n', hn, hB', hl', hx', hk, hs⟩ : ∃ B' n', n' + bel c far r B' = n + bel c far (x :: r) B ∧ B'.Nodup ∧ B'.length ≤ c ∧ x ∈ B' ∧ n ≤ n' ∧ ((x ∈ B ∧ B' = B) ∨ (x ∉ B ∧ n' = n + 1)) := by
      by_cases hx : x ∈ B
      · exact ⟨B, n, by rw [bel_hit hx], hB, hl, hx, Nat.le_refl _, .inl ⟨hx, rfl⟩⟩
      · by_cases hc2 : B.length = c
        · have hne : B ≠ [] := fun z => by rw [z, List.length_nil] at hc2; omega
          have b1 := (hf r B hne).1
          have := er_len b1
          exact ⟨B.erase (far r B) ++ [x], n + 1, by rw [bel_ev hx hc2]; omega, nodup_snoc (er_nodup hB) (fun z => hx (List.mem_of_mem_erase z)), by simp; omega, by simp, Nat.le_succ _, .inr ⟨hx, rfl⟩⟩
        · exact ⟨B ++ [x], n + 1, by rw [bel_add hx hc2]; omega, nodup_snoc hB hx, by simp; omega, by simp, Nat.le_succ _, .inr ⟨hx, rfl⟩⟩
    rw [← hn]
    generalize hst : stL c (tot, L) x = o at I2 up2 no ⊢
    obtain ⟨o1, o2⟩ := o
    simp only at I2 up2 no
    by_cases hm : x ∈ M
    · have e : nxt c M x = M := by unfold nxt; rw [if_pos hm]
      rw [e] at I2
      refine upper hf hc hc3 r I2 (R := R) (by rw [no hm]; exact h) ?_ hB' hl'
      rcases hR with ⟨h1, h2⟩ | h1
      · rcases hs with ⟨s1, s2⟩ | ⟨s1, s2⟩
        · left; rw [s2]; exact ⟨h1, by omega⟩
        · right; omega
      · right; omega
    · by_cases hML : M.length = c
      · have e : nxt c M x = [x] := by unfold nxt; rw [if_neg hm, if_pos hML]
        rw [e] at I2
        refine upper hf hc hc3 r I2 (R := R + 1) ?_ ?_ hB' hl'
        · refine Rat.le_trans up2 ?_
          have e2 : ((c * (R + 1) + [x].length : Nat) : Rat) = ((c * R + M.length : Nat) : Rat) + 1 := by
            rw [hML, List.length_singleton, Nat.mul_succ]
            push_cast
            grind
          rw [e2]
          grind
        · left
          refine ⟨fun y hy => by rw [List.mem_singleton.mp hy]; exact hx', ?_⟩
          rcases hR with ⟨h1, h2⟩ | h1
          · rcases hs with ⟨s1, s2⟩ | ⟨s1, s2⟩
            · exact absurd (full I.nd h1 (by omega) x s1) hm
            · omega
          · omega
      · have e : nxt c M x = srt (M ++ [x]) := by unfold nxt; rw [if_neg hm, if_neg hML]
        rw [e] at I2
        refine upper hf hc hc3 r I2 (R := R) ?_ ?_ hB' hl'
        · refine Rat.le_trans up2 ?_
          have e2 : ((c * R + (srt (M ++ [x])).length : Nat) : Rat) = ((c * R + M.length : Nat) : Rat) + 1 := by
            rw [srt_len, List.length_append, List.length_singleton]
            push_cast
            grind
          rw [e2]
          grind
        · rcases hR with ⟨h1, h2⟩ | h1
          · rcases hs with ⟨s1, s2⟩ | ⟨s1, s2⟩
            · left
              refine ⟨fun y hy => ?_, by omega⟩
              rw [s2]
              rcases List.mem_append.mp (mem_srt.mp hy) with q | q
              · exact h1 y q
              · rw [List.mem_singleton.mp q]; exact s1
            · right; omega
          · right; omega
theorem mean_ge (hf : Far far) (hc : 1 ≤ c) (hc3 : c ≤ 3) (calls : List Nat) : ((bel c far calls [] : Nat) : Rat) ≤ mean c calls := by
  have := lower hf hc hc3 calls (LInv.start (c := c))
  have e : ws (fun s => ((bel c far calls s.1 : Nat) : Rat)) [(([], []), 1)] = ((bel c far calls [] : Nat) : Rat) := by
    simp only [ws]
    grind
  rw [e] at this
  unfold mean
  grind
theorem mean_le (hf : Far far) (hc : 1 ≤ c) (hc3 : c ≤ 3) (calls : List Nat) : mean c calls ≤ ((c * bel c far calls [] + c : Nat) : Rat) := by
  have := upper hf hc hc3 calls (LInv.start (c := c)) (R := 0) (n := 0) (B := []) (by simp) (.inl ⟨fun y hy => (by cases hy), Nat.le_refl _⟩) List.nodup_nil (Nat.zero_le _)
  rw [Nat.zero_add] at this
  exact this
/-! few plates -/
theorem srt_perm_eq {l l' : List Nat} (h : l.Perm l') : srt l = srt l' :=
  ((srt_perm l).trans (h.trans (srt_perm l').symm)).eq_of_pairwise (le := (· ≤ ·)) (fun a b _ _ h1 h2 => Nat.le_antisymm h1 h2) (srt_sorted l) (srt_sorted l')
theorem dd_nd {D : List Nat} {x : Nat} (h : D.Nodup) : (dd D x).Nodup := by
  unfold dd
  split
  · exact h
  · rename_i hx; exact nodup_snoc h hx
theorem few (hc : 1 ≤ c) : ∀ (rest D : List Nat), (∀ x ∈ rest, x < c) → (∀ x ∈ D, x < c) → D.Nodup →
    (rest.foldl (stL c) (((D.length : Nat) : Rat), [((srt D, srt D), 1)])).1 = (((rest.foldl dd D).length : Nat) : Rat)
  | [], D, _, _, _ => rfl
  | x :: r, D, h1, h2, nd => by
    rw [List.foldl_cons, List.foldl_cons]
    have e : stL c (((D.length : Nat) : Rat), [((srt D, srt D), 1)]) x = ((((dd D x).length : Nat) : Rat), [((srt (dd D x), srt (dd D x)), 1)]) := by
      have one : (1 : Rat) * (1 / ((1 : Nat) : Rat)) = 1 := by push_cast; grind
      by_cases hx : x ∈ D
      · have hx' : x ∈ srt D := mem_srt.mpr hx
        have w : ways c x (srt D, srt D) = ([(srt D, srt D)], false) := by
          unfold ways
          simp only [hx', if_true]
          unfold dd
          rw [if_pos hx', srt_srt]
        have d : dd D x = D := by unfold dd; rw [if_pos hx]
        rw [d]
        simp only [stL, List.foldl_cons, List.foldl_nil, stE, w, addW, List.length_singleton, addS, one]
        rfl
      · have hx' : x ∉ srt D := fun z => hx (mem_srt.mp z)
        have d : dd D x = D ++ [x] := by unfold dd; rw [if_neg hx]
        have hl : D.length + 1 ≤ c := by
          have n : (x :: D).Nodup := List.nodup_cons.mpr ⟨hx, nd⟩
          have := n.length_le_of_subset (l₂ := List.range c) fun y hy => by
            rw [List.mem_range]
            rcases List.mem_cons.mp hy with q | q
            · rw [q]; exact h1 x List.mem_cons_self
            · exact h2 y q
          rw [List.length_cons, List.length_range] at this
          exact this
        have es : srt (srt D ++ [x]) = srt (D ++ [x]) := srt_perm_eq ((srt_perm D).append_right [x])
        have w : ways c x (srt D, srt D) = ([(srt (D ++ [x]), srt (D ++ [x]))], true) := by
          unfold ways
          have hl2 : (srt D).length < c := by rw [srt_len]; omega
          simp only [hx', if_false, hl2, if_true, es]
        rw [d]
        simp only [stL, List.foldl_cons, List.foldl_nil, stE, w, addW, List.length_singleton, addS, one, if_true, List.length_append]
        push_cast
        rfl
    rw [e]
    exact few hc r (dd D x) (fun y hy => h1 y (List.mem_cons_of_mem _ hy)) (fun y hy => by
      unfold dd at hy
      split at hy
      · exact h2 y hy
      · rcases List.mem_append.mp hy with q | q
        · exact h2 y q
        · rw [List.mem_singleton.mp q]; exact h1 x List.mem_cons_self) (dd_nd nd)
theorem mean_few (hc : 1 ≤ c) {few' : List Nat} (h : ∀ x ∈ few', x < c) : mean c few' = (((few'.foldl dd []).length : Nat) : Rat) := by
  have := few hc few' [] h (fun x hx => by cases hx) List.nodup_nil
  have e : srt [] = [] := by simp [srt]
  rw [e] at this
  exact this
end Mk

set_option Elab.async false
set_option linter.all false
set_option maxRecDepth 100000
set_option maxHeartbeats 0
namespace L38
noncomputable section
open PySem PySem.Spec PyProof.Rows L2 Ev
def top (i : Nat) : Stmt := PySem.Challenge.pw_allnights_k38_whole_marks.main.body.getD i (.Pass ⟨0, 0, 0, 0⟩)
def fuel : Nat := 1000000
abbrev s__law_cell : Stmt := top 23
abbrev s__law_stream : Stmt := top 24
abbrev s_is_integer : Stmt := top 5
abbrev s_is_between : Stmt := top 6
abbrev s_check_calls : Stmt := top 16
abbrev s_after_call : Stmt := top 20
abbrev s_common : Stmt := top 7
abbrev s_fraction : Stmt := top 8
abbrev s_plus : Stmt := top 10
abbrev s_times : Stmt := top 11
abbrev s_mean_brings : Stmt := top 21
abbrev s_fewest_brings : Stmt := top 17
abbrev s__law_lowest : Stmt := top 27
abbrev s__law_plus : Stmt := top 28
abbrev s__law_draw : Stmt := top 25
abbrev s__law_times : Stmt := top 29
abbrev s__law_more : Stmt := top 30
abbrev s__law_mean : Stmt := top 31
abbrev s_law : Stmt := top 32
/-- the code objects of the defs that make lambdas, and their tables -/
structure Cd where
  (c_fewest_brings P_fewest_brings : Addr)
def lq (x : Str) : Str := x ++ ".<locals>." ++ "<lambda>"
def zt (C : Cd) : Tbs := [(C.P_fewest_brings, lq "fewest_brings")]
def cst (C : Cd) : List (Addr × Addr × Str) := [(C.c_fewest_brings, C.P_fewest_brings, lq "fewest_brings")]
structure Tb (base : Heap) (mg : Str → Option Value) (C : Cd) : Prop where
  b_fewest_brings : LamX.TabB base mg C.c_fewest_brings C.P_fewest_brings
structure Txt (K : PySem.W.Frag) (mg : Str → Option Value) (C : Cd) : Prop where
  d__law_cell : HasDef K mg "_law_cell" "_law_cell" s__law_cell ["script", "k"]
  d__law_stream : HasDef K mg "_law_stream" "_law_stream" s__law_stream ["script", "k"]
  d_is_integer : HasDef K mg "is_integer" "is_integer" s_is_integer ["thing"]
  d_is_between : HasDef K mg "is_between" "is_between" s_is_between ["thing", "low", "high"]
  d_check_calls : HasDef K mg "check_calls" "check_calls" s_check_calls ["c", "calls"]
  d_after_call : HasDef K mg "after_call" "after_call" s_after_call ["c", "wheel", "marked", "plate"]
  d_common : HasDef K mg "common" "common" s_common ["one", "other"]
  d_fraction : HasDef K mg "fraction" "fraction" s_fraction ["n", "d"]
  d_plus : HasDef K mg "plus" "plus" s_plus ["one", "other"]
  d_times : HasDef K mg "times" "times" s_times ["one", "other"]
  d_mean_brings : HasDef K mg "mean_brings" "mean_brings" s_mean_brings ["c", "calls"]
  d_fewest_brings : HasCode K mg "fewest_brings" "fewest_brings" s_fewest_brings ["c", "calls"] C.c_fewest_brings
  mem_fewest_brings : (C.P_fewest_brings, lq "fewest_brings") ∈ zt C
  uniq_fewest_brings : ∀ p ∈ zt C, p.1 = C.P_fewest_brings → p.2 = lq "fewest_brings"
  d__law_lowest : HasDef K mg "_law_lowest" "_law_lowest" s__law_lowest ["n", "d"]
  d__law_plus : HasDef K mg "_law_plus" "_law_plus" s__law_plus ["one", "two"]
  d__law_draw : HasDef K mg "_law_draw" "_law_draw" s__law_draw ["box", "many"]
  d__law_times : HasDef K mg "_law_times" "_law_times" s__law_times ["one", "two"]
  d__law_more : HasDef K mg "_law_more" "_law_more" s__law_more ["one", "two"]
  d__law_mean : HasDef K mg "_law_mean" "_law_mean" s__law_mean ["c", "calls"]
  d_law : HasDef K mg "law" "law" s_law ["script"]
  c_MOST_CALLS : ∃ t, mg "MOST_CALLS" = some (.int 30 t)
  c_MOST_MARKED : ∃ t, mg "MOST_MARKED" = some (.int 12 t)
  c_MOST_PLACES : ∃ t, mg "MOST_PLACES" = some (.int 6 t)
  c_MOST_PLATE : ∃ t, mg "MOST_PLATE" = some (.int 9 t)
  z_abs : mg "abs" = none
  z_all : mg "all" = none
  z_bool : mg "bool" = none
  z_dict : mg "dict" = none
  z_enumerate : mg "enumerate" = none
  z_int : mg "int" = none
  z_isinstance : mg "isinstance" = none
  z_len : mg "len" = none
  z_max : mg "max" = none
  z_range : mg "range" = none
  z_repr : mg "repr" = none
  z_sorted : mg "sorted" = none
  z_tuple : mg "tuple" = none
section
variable {P : Program} {w : World} {K : PySem.W.Frag} {mg : Str → Option Value} {base : Heap} {C : Cd}
/-! _law_cell(script, k): slots script 0, k 1 -/
def b__law_cell : SF := (sRet (eIf (tOf (eBin pLt (eVar 1) (eAp pLen (aCons (eVar 0) aNil)))) (eAp pInt (aCons (eBin pIdx (eVar 0) (eVar 1)) aNil)) (eC (.int 0))))
def m__law_cell : Fn := bodyF 2 b__law_cell
theorem sc__law_cell : FnScope ["script", "k"] ["script", "k"] (defScope s__law_cell) := ⟨rfl, rfl, rfl, by decide +kernel, rfl, by decide +kernel, by decide +kernel⟩
theorem ok__law_cell (T : Txt K mg C) (B : Tb base mg C) : Okd (zt C) P w K mg base 1 "_law_cell" ["script", "k"] m__law_cell := by
  refine okd (k := 0) T.d__law_cell sc__law_cell rfl fun f cdv A outer s H E hgd hr => ?_
  exact (z_one (s_ret (x_if (y_cmp o_lt (x_var (pv 1)) (x_callB c_len rfl T.z_len bt_len (x_cons (x_var (pv 0)) x_nil)) (nomark _)) (x_callTy c_int rfl T.z_int bt_int (x_cons (x_ix (x_var (pv 0)) (x_var (pv 1))) x_nil)) x_int)))
/-! _law_stream(script, k): slots script 0, k 1 -/
def b__law_stream : SF := (sRet (eNew (nLst (aCons (eAp pAbs (aCons (eAp m__law_cell (aCons (eVar 0) (aCons (eVar 1) aNil))) aNil)) (aCons (eBin pPlus (eBin pMod (eAp pAbs (aCons (eAp m__law_cell (aCons (eVar 0) (aCons (eVar 1) aNil))) aNil)) (eC (.int 1000003))) (eC (.int 7))) aNil)))))
def m__law_stream : Fn := bodyK 2 b__law_stream
theorem sc__law_stream : FnScope ["script", "k"] ["script", "k"] (defScope s__law_stream) := ⟨rfl, rfl, rfl, by decide +kernel, rfl, by decide +kernel, by decide +kernel⟩
theorem ok__law_stream (T : Txt K mg C) (B : Tb base mg C) : Okd (zt C) P w K mg base 2 "_law_stream" ["script", "k"] m__law_stream := by
  refine okdK (k := 1) T.d__law_stream sc__law_stream rfl fun f cdv A outer s H E hgd hr => ?_
  exact (z_one (s_ret (x_new (n_lst (x_cons (x_callB c_abs rfl T.z_abs bt_abs (x_cons (x_callO (ok__law_cell T B) (hr.mono (by decide)) hgd rfl (x_cons (x_var (pv 0)) (x_cons (x_var (pv 1)) x_nil)) (la_cons (la_cons la_nil))) x_nil)) (x_cons (x_bin o_plus (x_bin o_mod (x_callB c_abs rfl T.z_abs bt_abs (x_cons (x_callO (ok__law_cell T B) (hr.mono (by decide)) hgd rfl (x_cons (x_var (pv 0)) (x_cons (x_var (pv 1)) x_nil)) (la_cons (la_cons la_nil))) x_nil)) x_int) x_int) x_nil))))))
/-! is_integer(thing): slots thing 0 -/
def b_is_integer : SF := (sRet (eOf (tAndF (tOf (eIsA .int (eVar 0))) (tNotF (tOf (eIsA .bool (eVar 0)))))))
def m_is_integer : Fn := bodyF 1 b_is_integer
theorem sc_is_integer : FnScope ["thing"] ["thing"] (defScope s_is_integer) := ⟨rfl, rfl, rfl, by decide +kernel, rfl, by decide +kernel, by decide +kernel⟩
theorem ok_is_integer (T : Txt K mg C) (B : Tb base mg C) : Okd (zt C) P w K mg base 1 "is_integer" ["thing"] m_is_integer := by
  refine okd (k := 0) T.d_is_integer sc_is_integer rfl fun f cdv A outer s H E hgd hr => ?_
  exact (z_one (s_ret (x_and (x_eOf (x_isa .int rfl (x_var (pv 0)) rfl T.z_isinstance rfl T.z_int bt_int)) (x_and1 (x_not (x_eOf (x_isa .bool rfl (x_var (pv 0)) rfl T.z_isinstance rfl T.z_bool bt_bool)))))))
/-! is_between(thing, low, high): slots thing 0, low 1, high 2 -/
def b_is_between : SF := (sRet (eOf (tAndF (tOf (eAp m_is_integer (aCons (eVar 0) aNil))) (tOf (eChain pLe pLe (eVar 1) (eVar 0) (eVar 2))))))
def m_is_between : Fn := bodyF 3 b_is_between
theorem sc_is_between : FnScope ["thing", "low", "high"] ["thing", "low", "high"] (defScope s_is_between) := ⟨rfl, rfl, rfl, by decide +kernel, rfl, by decide +kernel, by decide +kernel⟩
theorem ok_is_between (T : Txt K mg C) (B : Tb base mg C) : Okd (zt C) P w K mg base 2 "is_between" ["thing", "low", "high"] m_is_between := by
  refine okd (k := 1) T.d_is_between sc_is_between rfl fun f cdv A outer s H E hgd hr => ?_
  exact (z_one (s_ret (x_and (x_eOf (x_callO (ok_is_integer T B) (hr.mono (by decide)) hgd rfl (x_cons (x_var (pv 0)) x_nil) (la_cons la_nil))) (x_and1 (x_eOf (x_chain o_le o_le (x_var (pv 1)) (x_var (pv 0)) (x_var (pv 2))))))))
/-! check_calls(c, calls): slots c 0, calls 1, plate 2 -/
def e_check_calls1 : EF := (eAp m_is_between (aCons (eVar 2) (aCons (eC (.int 0)) (aCons (eC (.int 9)) aNil))))
def b_check_calls : SF := (sSeq (sIf (tNotF (tOf (eAp m_is_between (aCons (eVar 0) (aCons (eC (.int 1)) (aCons (eC (.int 6)) aNil)))))) sNever sNext) (sSeq (sIf (tOrF (tNotF (tOf (eIsA .tuple (eVar 1)))) (tOf (eBin pGt (eAp pLen (aCons (eVar 1) aNil)) (eC (.int 30))))) sNever sNext) (sIf (tNotF (tOf (eAp pAll (aCons (eL (nComp (itAny (eVar 1)) (.nm 2) [2] tTrue e_check_calls1)) aNil)))) sNever sNext)))
def m_check_calls : Fn := bodyF 3 b_check_calls
theorem sc_check_calls : FnScope ["c", "calls", "plate"] ["c", "calls"] (defScope s_check_calls) := ⟨rfl, rfl, rfl, by decide +kernel, rfl, by decide +kernel, by decide +kernel⟩
theorem ok_check_calls (T : Txt K mg C) (B : Tb base mg C) : Okd (zt C) P w K mg base 3 "check_calls" ["c", "calls"] m_check_calls := by
  refine okd (k := 2) T.d_check_calls sc_check_calls rfl fun f cdv A outer s H E hgd hr => ?_
  exact (z_cons (s_if (y_not (y_val (x_callO (ok_is_between T B) (hr.mono (by decide)) hgd rfl (x_cons (x_var (pv 0)) (x_cons x_int (x_cons (x_globI rfl T.c_MOST_PLACES) x_nil))) (la_cons (la_cons (la_cons la_nil)))))) (z_one s_never) z_nil)
    (z_cons (s_if (PW.pt (w_or (y_not (y_val (x_isa .tuple rfl (x_var (pv 1)) rfl T.z_isinstance rfl T.z_tuple bt_tuple))) (w_or1 (y_cmp o_gt (x_callB c_len rfl T.z_len bt_len (x_cons (x_var (pv 1)) x_nil)) (x_globI rfl T.c_MOST_CALLS) (nomark _))))) (z_one s_never) z_nil)
    (z_one (s_if (y_not (y_val (x_callB (c_all rfl) rfl T.z_all bt_all (x_cons (x_ofN (n_comp (own := [("plate", 2)]) rfl sc_check_calls.nd (i_any (x_var (pv 1))) (blkOk_by (N := ["c", "calls", "plate"]) (sc := defScope s_check_calls) (by decide +kernel)) rfl (fun _ _ _ _ _ => (p_name (i := 2) sc_check_calls.nd rfl (.inl rfl))) (fun _ _ _ _ _ => ts_nil) (fun _ _ _ _ _ => (x_callO (ok_is_between T B) (hr.mono (by decide)) hgd rfl (x_cons (x_var (pv 2)) (x_cons x_int (x_cons (x_globI rfl T.c_MOST_PLATE) x_nil))) (la_cons (la_cons (la_cons la_nil))))))) x_nil)))) (z_one s_never) z_nil))))
/-! after_call(c, wheel, marked, plate): slots c 0, wheel 1, marked 2, plate 3, found 4, out 5, kept 6, one 7 -/
def e_after_call1 : EF := (eVar 7)
def e_after_call2 : EF := (eC (.bool true))
def e_after_call3 : EF := (eVar 7)
def t_after_call4 : TF := (tOf (eBin pNe (eVar 7) (eVar 5)))
def l_after_call5 : SF := (sIf (tOf (eBin pNin (eVar 5) (eVar 2))) (sSeq (sAsg (eAp pTupleOf (aCons (eL (nComp (itAny (eVar 1)) (.nm 7) [7] t_after_call4 e_after_call3)) aNil)) (gNm 6)) (sExpr (eBM pAppend (eVar 4) (aCons (eAp pTup (aCons (eAp pTupleOf (aCons (eAp pSortedA (aCons (eBin pPlus (eVar 6) (eAp pTup (aCons (eVar 3) aNil))) aNil)) aNil)) (aCons (eAp pTupleOf (aCons (eAp pSortedA (aCons (eBin pPlus (eVar 2) (eAp pTup (aCons (eVar 3) aNil))) aNil)) aNil)) aNil))) aNil)))) sNext)
def b_after_call : SF := (sSeq (sIf (tOf (eBin pIn (eVar 3) (eVar 1))) (sRet (eAp pTup (aCons (eL (nLst (aCons (eAp pTup (aCons (eVar 1) (aCons (eAp pTupleOf (aCons (eAp pSortedA (aCons (eDc (itAny (eBin pPlus (eVar 2) (eAp pTup (aCons (eVar 3) aNil)))) (.nm 7) [7] tTrue e_after_call1 e_after_call2) aNil)) aNil)) aNil))) aNil))) (aCons (eC (.bool false)) aNil)))) sNext) (sSeq (sIf (tOf (eBin pLt (eAp pLen (aCons (eVar 1) aNil)) (eVar 0))) (sRet (eAp pTup (aCons (eL (nLst (aCons (eAp pTup (aCons (eAp pTupleOf (aCons (eAp pSortedA (aCons (eBin pPlus (eVar 1) (eAp pTup (aCons (eVar 3) aNil))) aNil)) aNil)) (aCons (eAp pTupleOf (aCons (eAp pSortedA (aCons (eBin pPlus (eVar 2) (eAp pTup (aCons (eVar 3) aNil))) aNil)) aNil)) aNil))) aNil))) (aCons (eC (.bool true)) aNil)))) sNext) (sSeq (sAsg (eIf (tOf (eBin pEq (eAp pLen (aCons (eVar 2) aNil)) (eVar 0))) (eAp pTup aNil) (eVar 2)) (gNm 2)) (sSeq (sAsg (eNew (nLst aNil)) (gNm 4)) (sSeq (sFor (itAny (eVar 1)) (gNm 5) l_after_call5) (sRet (eAp pTupR (aCons (eVar 4) (aCons (eC (.bool true)) aNil)))))))))
def m_after_call : Fn := bodyF 8 b_after_call
theorem sc_after_call : FnScope ["c", "wheel", "marked", "plate", "found", "out", "kept", "one"] ["c", "wheel", "marked", "plate"] (defScope s_after_call) := ⟨rfl, rfl, rfl, by decide +kernel, rfl, by decide +kernel, by decide +kernel⟩
theorem ok_after_call (T : Txt K mg C) (B : Tb base mg C) : Okd (zt C) P w K mg base 1 "after_call" ["c", "wheel", "marked", "plate"] m_after_call := by
  refine okd (k := 0) T.d_after_call sc_after_call rfl fun f cdv A outer s H E hgd hr => ?_
  exact (z_cons (s_if (y_cmp (o_in hr) (x_var (pv 3)) (x_var (pv 1)) (by with_unfolding_all rfl)) (z_one (s_ret (x_tup (x_cons (x_ofN (n_lst (x_cons (x_tup (x_cons (x_var (pv 1)) (x_cons (x_callTy c_tuple rfl T.z_tuple bt_tuple (x_cons (x_callB (c_sortedA hr rfl) rfl T.z_sorted bt_sorted (x_cons (x_dc (own := [("one", 7)]) rfl sc_after_call.nd (i_any (x_bin o_plus (x_var (pv 2)) (x_tup (x_cons (x_var (pv 3)) x_nil)))) (blkOk_by (N := ["c", "wheel", "marked", "plate", "found", "out", "kept", "one"]) (sc := defScope s_after_call) (by decide +kernel)) rfl (fun _ _ _ _ _ => (p_name (i := 7) sc_after_call.nd rfl (.inl rfl))) (fun _ _ _ _ _ => ts_nil) (fun _ _ _ _ _ => (x_var (pv 7))) (fun _ _ _ _ _ => x_bl)) x_nil)) x_nil)) x_nil))) x_nil))) (x_cons x_bl x_nil))))) z_nil)
    (z_cons (s_if (y_cmp o_lt (x_callB c_len rfl T.z_len bt_len (x_cons (x_var (pv 1)) x_nil)) (x_var (pv 0)) (nomark _)) (z_one (s_ret (x_tup (x_cons (x_ofN (n_lst (x_cons (x_tup (x_cons (x_callTy c_tuple rfl T.z_tuple bt_tuple (x_cons (x_callB (c_sortedA hr rfl) rfl T.z_sorted bt_sorted (x_cons (x_bin o_plus (x_var (pv 1)) (x_tup (x_cons (x_var (pv 3)) x_nil))) x_nil)) x_nil)) (x_cons (x_callTy c_tuple rfl T.z_tuple bt_tuple (x_cons (x_callB (c_sortedA hr rfl) rfl T.z_sorted bt_sorted (x_cons (x_bin o_plus (x_var (pv 2)) (x_tup (x_cons (x_var (pv 3)) x_nil))) x_nil)) x_nil)) x_nil))) x_nil))) (x_cons x_bl x_nil))))) z_nil)
    (z_cons (s_set (i := 2) sc_after_call.nd rfl (.inl rfl) (x_if (y_cmp (o_eq hr) (x_callB c_len rfl T.z_len bt_len (x_cons (x_var (pv 2)) x_nil)) (x_var (pv 0)) (nomark _)) (x_tup x_nil) (x_var (pv 2))))
    (z_cons (s_set (i := 4) sc_after_call.nd rfl (.inl rfl) (x_new (n_lst x_nil)))
    (z_cons (s_for PassesOwn.never rfl (i_any (x_var (pv 1))) (g_name (i := 5) sc_after_call.nd rfl (.inr rfl))
      (z_one (s_if (y_cmp (o_nin hr) (x_var (pv 5)) (x_var (pv 2)) (by with_unfolding_all rfl)) (z_cons (s_set (i := 6) sc_after_call.nd rfl (.inl rfl) (x_callTy c_tuple rfl T.z_tuple bt_tuple (x_cons (x_ofN (n_comp (own := [("one", 7)]) rfl sc_after_call.nd (i_any (x_var (pv 1))) (blkOk_by (N := ["c", "wheel", "marked", "plate", "found", "out", "kept", "one"]) (sc := defScope s_after_call) (by decide +kernel)) rfl (fun _ _ _ _ _ => (p_name (i := 7) sc_after_call.nd rfl (.inl rfl))) (fun _ _ _ _ _ => (ts_one (y_cmp (o_ne hr) (x_var (pv 7)) (x_var (pv 5)) (nomark _)))) (fun _ _ _ _ _ => (x_var (pv 7))))) x_nil)))
        (z_one (s_expr (x_bm PySem.F.slot_list_append PySem.F.type_list_append m_append (x_var (pv 4)) (x_cons (x_tup (x_cons (x_callTy c_tuple rfl T.z_tuple bt_tuple (x_cons (x_callB (c_sortedA hr rfl) rfl T.z_sorted bt_sorted (x_cons (x_bin o_plus (x_var (pv 6)) (x_tup (x_cons (x_var (pv 3)) x_nil))) x_nil)) x_nil)) (x_cons (x_callTy c_tuple rfl T.z_tuple bt_tuple (x_cons (x_callB (c_sortedA hr rfl) rfl T.z_sorted bt_sorted (x_cons (x_bin o_plus (x_var (pv 2)) (x_tup (x_cons (x_var (pv 3)) x_nil))) x_nil)) x_nil)) x_nil))) x_nil))))) z_nil)))
    (z_one (s_ret (x_tupR (x_cons (x_var (pv 4)) (x_cons x_bl x_nil))))))))))
/-! common(one, other): slots one 0, other 1 -/
def w_common1 : SF := (sPar 0 1 (aCons (eVar 1) (aCons (eBin pMod (eVar 0) (eVar 1)) aNil)))
def c_common2 : TF := (tOf (eBin pGt (eVar 1) (eC (.int 0))))
def b_common : SF := (sSeq (wloop c_common2 w_common1 fuel) (sRet (eVar 0)))
def m_common : Fn := bodyF 2 b_common
theorem sc_common : FnScope ["one", "other"] ["one", "other"] (defScope s_common) := ⟨rfl, rfl, rfl, by decide +kernel, rfl, by decide +kernel, by decide +kernel⟩
theorem ok_common (T : Txt K mg C) (B : Tb base mg C) : Okd (zt C) P w K mg base 1 "common" ["one", "other"] m_common := by
  refine okd (k := 0) T.d_common sc_common rfl fun f cdv A outer s H E hgd hr => ?_
  exact (z_cons (s_while (n := fuel) PassesOwn.never (y_cmp o_gt (x_var (pv 1)) x_int (nomark _))
      (z_one (s_par (i := 0) (j := 1) rfl sc_common.nd rfl rfl (by decide) rfl rfl (x_cons (x_var (pv 1)) (x_cons (x_bin o_mod (x_var (pv 0)) (x_var (pv 1))) x_nil)) rfl)))
    (z_one (s_ret (x_var (pv 0)))))
/-! fraction(n, d): slots n 0, d 1, both 2 -/
def b_fraction : SF := (sSeq (sAsg (eAp m_common (aCons (eVar 0) (aCons (eVar 1) aNil))) (gNm 2)) (sRet (eAp pTup (aCons (eBin pDiv (eVar 0) (eVar 2)) (aCons (eBin pDiv (eVar 1) (eVar 2)) aNil)))))
def m_fraction : Fn := bodyF 3 b_fraction
theorem sc_fraction : FnScope ["n", "d", "both"] ["n", "d"] (defScope s_fraction) := ⟨rfl, rfl, rfl, by decide +kernel, rfl, by decide +kernel, by decide +kernel⟩
theorem ok_fraction (T : Txt K mg C) (B : Tb base mg C) : Okd (zt C) P w K mg base 2 "fraction" ["n", "d"] m_fraction := by
  refine okd (k := 1) T.d_fraction sc_fraction rfl fun f cdv A outer s H E hgd hr => ?_
  exact (z_cons (s_set (i := 2) sc_fraction.nd rfl (.inl rfl) (x_callO (ok_common T B) (hr.mono (by decide)) hgd rfl (x_cons (x_var (pv 0)) (x_cons (x_var (pv 1)) x_nil)) (la_cons (la_cons la_nil))))
    (z_one (s_ret (x_tup (x_cons (x_bin o_div (x_var (pv 0)) (x_var (pv 2))) (x_cons (x_bin o_div (x_var (pv 1)) (x_var (pv 2))) x_nil))))))
/-! plus(one, other): slots one 0, other 1 -/
def b_plus : SF := (sRet (eAp m_fraction (aCons (eBin pPlus (eBin pMul (eBin pIdx (eVar 0) (eC (.int 0))) (eBin pIdx (eVar 1) (eC (.int 1)))) (eBin pMul (eBin pIdx (eVar 1) (eC (.int 0))) (eBin pIdx (eVar 0) (eC (.int 1))))) (aCons (eBin pMul (eBin pIdx (eVar 0) (eC (.int 1))) (eBin pIdx (eVar 1) (eC (.int 1)))) aNil))))
def m_plus : Fn := bodyF 2 b_plus
theorem sc_plus : FnScope ["one", "other"] ["one", "other"] (defScope s_plus) := ⟨rfl, rfl, rfl, by decide +kernel, rfl, by decide +kernel, by decide +kernel⟩
theorem ok_plus (T : Txt K mg C) (B : Tb base mg C) : Okd (zt C) P w K mg base 3 "plus" ["one", "other"] m_plus := by
  refine okd (k := 2) T.d_plus sc_plus rfl fun f cdv A outer s H E hgd hr => ?_
  exact (z_one (s_ret (x_callO (ok_fraction T B) (hr.mono (by decide)) hgd rfl (x_cons (x_bin o_plus (x_bin o_mul (x_ix (x_var (pv 0)) x_int) (x_ix (x_var (pv 1)) x_int)) (x_bin o_mul (x_ix (x_var (pv 1)) x_int) (x_ix (x_var (pv 0)) x_int))) (x_cons (x_bin o_mul (x_ix (x_var (pv 0)) x_int) (x_ix (x_var (pv 1)) x_int)) x_nil)) (la_cons (la_cons la_nil)))))
/-! times(one, other): slots one 0, other 1 -/
def b_times : SF := (sRet (eAp m_fraction (aCons (eBin pMul (eBin pIdx (eVar 0) (eC (.int 0))) (eBin pIdx (eVar 1) (eC (.int 0)))) (aCons (eBin pMul (eBin pIdx (eVar 0) (eC (.int 1))) (eBin pIdx (eVar 1) (eC (.int 1)))) aNil))))
def m_times : Fn := bodyF 2 b_times
theorem sc_times : FnScope ["one", "other"] ["one", "other"] (defScope s_times) := ⟨rfl, rfl, rfl, by decide +kernel, rfl, by decide +kernel, by decide +kernel⟩
theorem ok_times (T : Txt K mg C) (B : Tb base mg C) : Okd (zt C) P w K mg base 3 "times" ["one", "other"] m_times := by
  refine okd (k := 2) T.d_times sc_times rfl fun f cdv A outer s H E hgd hr => ?_
  exact (z_one (s_ret (x_callO (ok_fraction T B) (hr.mono (by decide)) hgd rfl (x_cons (x_bin o_mul (x_ix (x_var (pv 0)) x_int) (x_ix (x_var (pv 1)) x_int)) (x_cons (x_bin o_mul (x_ix (x_var (pv 0)) x_int) (x_ix (x_var (pv 1)) x_int)) x_nil)) (la_cons (la_cons la_nil)))))
/-! mean_brings(c, calls): slots c 0, calls 1, level 2, total 3, plate 4, more 5, wheel 6, marked 7, chance 8, ways 9, is_bring 10, way 11, part 12 -/
def l_mean_brings1 : SF := (sSeq (sAsg (eAp m_times (aCons (eVar 8) (aCons (eAp m_fraction (aCons (eC (.int 1)) (aCons (eAp pLen (aCons (eVar 9) aNil)) aNil))) aNil))) (gNm 12)) (sAsg (eAp m_plus (aCons (eDGet2 (eVar 5) (eVar 11) (eAp pTup (aCons (eC (.int 0)) (aCons (eC (.int 1)) aNil)))) (aCons (eVar 12) aNil))) (gSubF pDSet (eVar 5) (eVar 11))))
def l_mean_brings2 : SF := (sSeq (sAsg (eAp m_after_call (aCons (eVar 0) (aCons (eVar 6) (aCons (eVar 7) (aCons (eVar 4) aNil))))) (gTp 2 (gsCons (gNm 9) (gsCons (gNm 10) gsNil)))) (sSeq (sAsg (eIf (tOf (eVar 10)) (eAp m_plus (aCons (eVar 3) (aCons (eVar 8) aNil))) (eVar 3)) (gNm 3)) (sFor (itAny (eVar 9)) (gNm 11) l_mean_brings1)))
def l_mean_brings3 : SF := (sSeq (sAsg (eDNew true) (gNm 5)) (sSeq (sLockF 2 (sFor (itItems (eVar 2)) (gP (.tp (.cons (.tp (.cons (.nm 6) (.cons (.nm 7) .nil))) (.cons (.nm 8) .nil)))) l_mean_brings2)) (sAsg (eVar 5) (gNm 2))))
def b_mean_brings : SF := (sSeq (sExpr (eAp m_check_calls (aCons (eVar 0) (aCons (eVar 1) aNil)))) (sSeq (sIf (tOf (eBin pGt (eAp pLen (aCons (eVar 1) aNil)) (eC (.int 12)))) sNever sNext) (sSeq (sPar 2 3 (aCons (eDisp1 true (eAp pTup (aCons (eAp pTup aNil) (aCons (eAp pTup aNil) aNil))) (eAp pTup (aCons (eC (.int 1)) (aCons (eC (.int 1)) aNil)))) (aCons (eAp pTup (aCons (eC (.int 0)) (aCons (eC (.int 1)) aNil))) aNil))) (sSeq (sFor (itAny (eVar 1)) (gNm 4) l_mean_brings3) (sRet (eVar 3))))))
def m_mean_brings : Fn := bodyF 13 b_mean_brings
theorem sc_mean_brings : FnScope ["c", "calls", "level", "total", "plate", "more", "wheel", "marked", "chance", "ways", "is_bring", "way", "part"] ["c", "calls"] (defScope s_mean_brings) := ⟨rfl, rfl, rfl, by decide +kernel, rfl, by decide +kernel, by decide +kernel⟩
theorem ok_mean_brings (T : Txt K mg C) (B : Tb base mg C) : Okd (zt C) P w K mg base 4 "mean_brings" ["c", "calls"] m_mean_brings := by
  refine okd (k := 3) T.d_mean_brings sc_mean_brings rfl fun f cdv A outer s H E hgd hr => ?_
  exact (z_cons (s_expr (x_callO (ok_check_calls T B) (hr.mono (by decide)) hgd rfl (x_cons (x_var (pv 0)) (x_cons (x_var (pv 1)) x_nil)) (la_cons (la_cons la_nil))))
    (z_cons (s_if (y_cmp o_gt (x_callB c_len rfl T.z_len bt_len (x_cons (x_var (pv 1)) x_nil)) (x_globI rfl T.c_MOST_MARKED) (nomark _)) (z_one s_never) z_nil)
    (z_cons (s_par (i := 2) (j := 3) rfl sc_mean_brings.nd rfl rfl (by decide) rfl rfl (x_cons (x_disp1T hr (x_tup (x_cons (x_tup x_nil) (x_cons (x_tup x_nil) x_nil))) (x_tup (x_cons x_int (x_cons x_int x_nil)))) (x_cons (x_tup (x_cons x_int (x_cons x_int x_nil))) x_nil)) rfl)
    (z_cons (s_for PassesOwn.never rfl (i_any (x_var (pv 1))) (g_name (i := 4) sc_mean_brings.nd rfl (.inl rfl))
      (z_cons (s_set (i := 5) sc_mean_brings.nd rfl (.inl rfl) x_dnewT)
      (z_cons (s_lock (i := 2) (s_for PassesOwn.never rfl (i_items (x_var (pv 2))) (gp_ok (p_tup rfl (p_cons (p_tup rfl (p_cons (p_name (i := 6) sc_mean_brings.nd rfl (.inl rfl)) (p_cons (p_name (i := 7) sc_mean_brings.nd rfl (.inl rfl)) p_nil))) (p_cons (p_name (i := 8) sc_mean_brings.nd rfl (.inl rfl)) p_nil))) ⟨[6, 7, 8], by decide⟩)
        (z_cons (s_asg (x_callO (ok_after_call T B) (hr.mono (by decide)) hgd rfl (x_cons (x_var (pv 0)) (x_cons (x_var (pv 6)) (x_cons (x_var (pv 7)) (x_cons (x_var (pv 4)) x_nil)))) (la_cons (la_cons (la_cons (la_cons la_nil))))) (g_tup rfl (g_cons (g_name (i := 9) sc_mean_brings.nd rfl (.inl rfl)) (g_cons (g_name (i := 10) sc_mean_brings.nd rfl (.inl rfl)) g_nil))))
        (z_cons (s_set (i := 3) sc_mean_brings.nd rfl (.inl rfl) (x_if (y_val (x_var (pv 10))) (x_callO (ok_plus T B) (hr.mono (by decide)) hgd rfl (x_cons (x_var (pv 3)) (x_cons (x_var (pv 8)) x_nil)) (la_cons (la_cons la_nil))) (x_var (pv 3))))
        (z_one (s_for PassesOwn.never rfl (i_any (x_var (pv 9))) (g_name (i := 11) sc_mean_brings.nd rfl (.inl rfl))
          (z_cons (s_set (i := 12) sc_mean_brings.nd rfl (.inl rfl) (x_callO (ok_times T B) (hr.mono (by decide)) hgd rfl (x_cons (x_var (pv 8)) (x_cons (x_callO (ok_fraction T B) (hr.mono (by decide)) hgd rfl (x_cons x_int (x_cons (x_callB c_len rfl T.z_len bt_len (x_cons (x_var (pv 9)) x_nil)) x_nil)) (la_cons (la_cons la_nil))) x_nil)) (la_cons (la_cons la_nil))))
          (z_one (s_asg (x_callO (ok_plus T B) (hr.mono (by decide)) hgd rfl (x_cons (x_dget2 hr (x_var (pv 5)) (x_var (pv 11)) (x_tup (x_cons x_int (x_cons x_int x_nil))) ⟨rfl, rfl, rfl, rfl⟩) (x_cons (x_var (pv 12)) x_nil)) (la_cons (la_cons la_nil))) (g_sub (x_var (pv 5)) (x_var (pv 11)) (dset_ok hr)))))))))))
      (z_one (s_set (i := 2) sc_mean_brings.nd rfl (.inl rfl) (x_var (pv 5)))))))
    (z_one (s_ret (x_var (pv 3))))))))
/-! fewest_brings(c, calls): slots c 0, calls 1, wheel 2, many 3, at 4, plate 5, rest 6 -/
def k_fewest_brings1 : EF := (eIf (tOf (eBin pIn (eVar 0) (eVar 7))) (eBMT pIndexT (eVar 7) (aCons (eVar 0) aNil)) (eAp pLen (aCons (eVar 2) aNil)))
def l_fewest_brings2 : SF := (sIf (tOf (eBin pNin (eVar 5) (eVar 2))) (sSeq (sAugF pAddI 3 (eC (.int 1))) (sSeq (sIf (tOf (eBin pEq (eAp pLen (aCons (eVar 2) aNil)) (eVar 0))) (sSeq (sAsg (eSl (eVar 1) (oSome (eBin pPlus (eVar 4) (eC (.int 1)))) oNone) (gNm 6)) (sExpr (eBM pRemove (eVar 2) (aCons (eBestK true [] k_fewest_brings1 (aCons (eVar 2) aNil)) aNil)))) sNext) (sExpr (eBM pAppend (eVar 2) (aCons (eVar 5) aNil))))) sNext)
def b_fewest_brings : SF := (sSeq (sExpr (eAp m_check_calls (aCons (eVar 0) (aCons (eVar 1) aNil)))) (sSeq (sPar 2 3 (aCons (eNew (nLst aNil)) (aCons (eC (.int 0)) aNil))) (sSeq (sFor (itEnum (aCons (eVar 1) aNil)) (gP (.tp (.cons (.nm 4) (.cons (.nm 5) .nil)))) l_fewest_brings2) (sRet (eVar 3)))))
def m_fewest_brings : Fn := bodyF 7 b_fewest_brings
theorem sc_fewest_brings : FnScope ["c", "calls", "wheel", "many", "at", "plate", "rest"] ["c", "calls"] (defScope s_fewest_brings) := ⟨rfl, rfl, rfl, by decide +kernel, rfl, by decide +kernel, by decide +kernel⟩
theorem ok_fewest_brings (T : Txt K mg C) (B : Tb base mg C) : Okd (zt C) P w K mg base 8 "fewest_brings" ["c", "calls"] m_fewest_brings := by
  refine okdC (k := 7) T.d_fewest_brings sc_fewest_brings rfl fun f A outer s H E hgd hr => ?_
  exact (z_cons (s_expr (x_callO (ok_check_calls T B) (hr.mono (by decide)) hgd rfl (x_cons (x_var (pv 0)) (x_cons (x_var (pv 1)) x_nil)) (la_cons (la_cons la_nil))))
    (z_cons (s_par (i := 2) (j := 3) rfl sc_fewest_brings.nd rfl rfl (by decide) rfl rfl (x_cons (x_new (n_lst x_nil)) (x_cons x_int x_nil)) rfl)
    (z_cons (s_for PassesOwn.never rfl (i_enum rfl T.z_enumerate (x_cons (x_var (pv 1)) x_nil)) (gp_ok (p_tup rfl (p_cons (p_name (i := 4) sc_fewest_brings.nd rfl (.inl rfl)) (p_cons (p_name (i := 5) sc_fewest_brings.nd rfl (.inl rfl)) p_nil))) ⟨[4, 5], by decide⟩)
      (z_one (s_if (y_cmp (o_nin hr) (x_var (pv 5)) (x_var (pv 2)) (by with_unfolding_all rfl)) (z_cons (s_aug (n := 3) sc_fewest_brings.nd rfl (.inl rfl) x_int oi_add)
        (z_cons (s_if (y_cmp (o_eq hr) (x_callB c_len rfl T.z_len bt_len (x_cons (x_var (pv 2)) x_nil)) (x_var (pv 0)) (nomark _)) (z_cons (s_set (i := 6) sc_fewest_brings.nd rfl (.inr rfl) (x_sl (x_var (pv 1)) (po_s (x_bin o_plus (x_var (pv 4)) x_int)) po_n))
          (z_one (s_expr (x_bm PySem.F.slot_list_remove PySem.F.type_list_remove m_remove (x_var (pv 2)) (x_cons (x_maxK (k := 4) (bs := []) (fb := k_fewest_brings1) (p := "one") (c := C.c_fewest_brings) (P := C.P_fewest_brings) ⟨B.b_fewest_brings, rfl, T.mem_fewest_brings, T.uniq_fewest_brings, lamP_by (by kernel_rfl), rfl, fun _ _ _ _ _ _ => rfl, (msk_no (N := ["c", "calls", "wheel", "many", "at", "plate", "rest"]) (p := "one") (by decide +kernel)), fun A s H f c' hr => (x_if (y_cmp (o_in hr) (x_var (pv 0)) (x_var (pv 7)) (by with_unfolding_all rfl)) (x_bmT PySem.F.slot_tuple_index PySem.F.type_tuple_index m_indexT (x_var (pv 7)) (x_cons (x_var (pv 0)) x_nil)) (x_callB c_len rfl T.z_len bt_len (x_cons (x_var (pv 2)) x_nil)))⟩ rfl (hr.mono (by decide)) rfl T.z_max (x_cons (x_var (pv 2)) x_nil)) x_nil))))) z_nil)
        (z_one (s_expr (x_bm PySem.F.slot_list_append PySem.F.type_list_append m_append (x_var (pv 2)) (x_cons (x_var (pv 5)) x_nil)))))) z_nil)))
    (z_one (s_ret (x_var (pv 3)))))))
/-! _law_lowest(n, d): slots n 0, d 1, a 2, b 3 -/
def w__law_lowest1 : SF := (sPar 2 3 (aCons (eVar 3) (aCons (eBin pMod (eVar 2) (eVar 3)) aNil)))
def c__law_lowest2 : TF := (tOf (eBin pGt (eVar 3) (eC (.int 0))))
def b__law_lowest : SF := (sSeq (sPar 2 3 (aCons (eAp pAbs (aCons (eVar 0) aNil)) (aCons (eAp pAbs (aCons (eVar 1) aNil)) aNil))) (sSeq (wloop c__law_lowest2 w__law_lowest1 fuel) (sSeq (sAsg (eIf (tOf (eBin pGt (eVar 1) (eC (.int 0)))) (eVar 2) (eBin pSub (eC (.int 0)) (eVar 2))) (gNm 2)) (sRet (eAp pTup (aCons (eBin pDiv (eVar 0) (eVar 2)) (aCons (eBin pDiv (eVar 1) (eVar 2)) aNil)))))))
def m__law_lowest : Fn := bodyF 4 b__law_lowest
theorem sc__law_lowest : FnScope ["n", "d", "a", "b"] ["n", "d"] (defScope s__law_lowest) := ⟨rfl, rfl, rfl, by decide +kernel, rfl, by decide +kernel, by decide +kernel⟩
theorem ok__law_lowest (T : Txt K mg C) (B : Tb base mg C) : Okd (zt C) P w K mg base 1 "_law_lowest" ["n", "d"] m__law_lowest := by
  refine okd (k := 0) T.d__law_lowest sc__law_lowest rfl fun f cdv A outer s H E hgd hr => ?_
  exact (z_cons (s_par (i := 2) (j := 3) rfl sc__law_lowest.nd rfl rfl (by decide) rfl rfl (x_cons (x_callB c_abs rfl T.z_abs bt_abs (x_cons (x_var (pv 0)) x_nil)) (x_cons (x_callB c_abs rfl T.z_abs bt_abs (x_cons (x_var (pv 1)) x_nil)) x_nil)) rfl)
    (z_cons (s_while (n := fuel) PassesOwn.never (y_cmp o_gt (x_var (pv 3)) x_int (nomark _))
      (z_one (s_par (i := 2) (j := 3) rfl sc__law_lowest.nd rfl rfl (by decide) rfl rfl (x_cons (x_var (pv 3)) (x_cons (x_bin o_mod (x_var (pv 2)) (x_var (pv 3))) x_nil)) rfl)))
    (z_cons (s_set (i := 2) sc__law_lowest.nd rfl (.inl rfl) (x_if (y_cmp o_gt (x_var (pv 1)) x_int (nomark _)) (x_var (pv 2)) (x_bin o_sub x_int (x_var (pv 2)))))
    (z_one (s_ret (x_tup (x_cons (x_bin o_div (x_var (pv 0)) (x_var (pv 2))) (x_cons (x_bin o_div (x_var (pv 1)) (x_var (pv 2))) x_nil))))))))
/-! _law_plus(one, two): slots one 0, two 1 -/
def b__law_plus : SF := (sRet (eAp m__law_lowest (aCons (eBin pPlus (eBin pMul (eBin pIdx (eVar 0) (eC (.int 0))) (eBin pIdx (eVar 1) (eC (.int 1)))) (eBin pMul (eBin pIdx (eVar 1) (eC (.int 0))) (eBin pIdx (eVar 0) (eC (.int 1))))) (aCons (eBin pMul (eBin pIdx (eVar 0) (eC (.int 1))) (eBin pIdx (eVar 1) (eC (.int 1)))) aNil))))
def m__law_plus : Fn := bodyF 2 b__law_plus
theorem sc__law_plus : FnScope ["one", "two"] ["one", "two"] (defScope s__law_plus) := ⟨rfl, rfl, rfl, by decide +kernel, rfl, by decide +kernel, by decide +kernel⟩
theorem ok__law_plus (T : Txt K mg C) (B : Tb base mg C) : Okd (zt C) P w K mg base 2 "_law_plus" ["one", "two"] m__law_plus := by
  refine okd (k := 1) T.d__law_plus sc__law_plus rfl fun f cdv A outer s H E hgd hr => ?_
  exact (z_one (s_ret (x_callO (ok__law_lowest T B) (hr.mono (by decide)) hgd rfl (x_cons (x_bin o_plus (x_bin o_mul (x_ix (x_var (pv 0)) x_int) (x_ix (x_var (pv 1)) x_int)) (x_bin o_mul (x_ix (x_var (pv 1)) x_int) (x_ix (x_var (pv 0)) x_int))) (x_cons (x_bin o_mul (x_ix (x_var (pv 0)) x_int) (x_ix (x_var (pv 1)) x_int)) x_nil)) (la_cons (la_cons la_nil)))))
/-! _law_draw(box, many): slots box 0, many 1, told 2 -/
def b__law_draw : SF := (sSeq (sIf (tOf (eBin pGt (eBin pIdx (eVar 0) (eC (.int 0))) (eC (.int 0)))) (sSeq (sAsg (eBin pMod (eBin pIdx (eVar 0) (eC (.int 0))) (eVar 1)) (gNm 2)) (sSeq (sAsg (eBin pDiv (eBin pIdx (eVar 0) (eC (.int 0))) (eVar 1)) (gSubF pSet (eVar 0) (eC (.int 0)))) (sRet (eAp pInt (aCons (eVar 2) aNil))))) sNext) (sSeq (sAsg (eBin pMod (eAp pInt (aCons (eBin pPlus (eBin pMul (eBin pIdx (eVar 0) (eC (.int 1))) (eC (.int 48271))) (eC (.int 12345))) aNil)) (eC (.int 2147483647))) (gSubF pSet (eVar 0) (eC (.int 1)))) (sRet (eBin pMod (eAp pInt (aCons (eBin pDiv (eBin pIdx (eVar 0) (eC (.int 1))) (eC (.int 64))) aNil)) (eVar 1)))))
def m__law_draw : Fn := bodyF 3 b__law_draw
theorem sc__law_draw : FnScope ["box", "many", "told"] ["box", "many"] (defScope s__law_draw) := ⟨rfl, rfl, rfl, by decide +kernel, rfl, by decide +kernel, by decide +kernel⟩
theorem ok__law_draw (T : Txt K mg C) (B : Tb base mg C) : Okd (zt C) P w K mg base 1 "_law_draw" ["box", "many"] m__law_draw := by
  refine okd (k := 0) T.d__law_draw sc__law_draw rfl fun f cdv A outer s H E hgd hr => ?_
  exact (z_cons (s_if (y_cmp o_gt (x_ix (x_var (pv 0)) x_int) x_int (nomark _)) (z_cons (s_set (i := 2) sc__law_draw.nd rfl (.inl rfl) (x_bin o_mod (x_ix (x_var (pv 0)) x_int) (x_var (pv 1))))
      (z_cons (s_asg (x_bin o_div (x_ix (x_var (pv 0)) x_int) (x_var (pv 1))) (g_sub (x_var (pv 0)) x_int set_ok))
      (z_one (s_ret (x_callTy c_int rfl T.z_int bt_int (x_cons (x_var (pv 2)) x_nil)))))) z_nil)
    (z_cons (s_asg (x_bin o_mod (x_callTy c_int rfl T.z_int bt_int (x_cons (x_bin o_plus (x_bin o_mul (x_ix (x_var (pv 0)) x_int) x_int) x_int) x_nil)) x_int) (g_sub (x_var (pv 0)) x_int set_ok))
    (z_one (s_ret (x_bin o_mod (x_callTy c_int rfl T.z_int bt_int (x_cons (x_bin o_div (x_ix (x_var (pv 0)) x_int) x_int) x_nil)) (x_var (pv 1)))))))
/-! _law_times(one, two): slots one 0, two 1 -/
def b__law_times : SF := (sRet (eAp m__law_lowest (aCons (eBin pMul (eBin pIdx (eVar 0) (eC (.int 0))) (eBin pIdx (eVar 1) (eC (.int 0)))) (aCons (eBin pMul (eBin pIdx (eVar 0) (eC (.int 1))) (eBin pIdx (eVar 1) (eC (.int 1)))) aNil))))
def m__law_times : Fn := bodyF 2 b__law_times
theorem sc__law_times : FnScope ["one", "two"] ["one", "two"] (defScope s__law_times) := ⟨rfl, rfl, rfl, by decide +kernel, rfl, by decide +kernel, by decide +kernel⟩
theorem ok__law_times (T : Txt K mg C) (B : Tb base mg C) : Okd (zt C) P w K mg base 2 "_law_times" ["one", "two"] m__law_times := by
  refine okd (k := 1) T.d__law_times sc__law_times rfl fun f cdv A outer s H E hgd hr => ?_
  exact (z_one (s_ret (x_callO (ok__law_lowest T B) (hr.mono (by decide)) hgd rfl (x_cons (x_bin o_mul (x_ix (x_var (pv 0)) x_int) (x_ix (x_var (pv 1)) x_int)) (x_cons (x_bin o_mul (x_ix (x_var (pv 0)) x_int) (x_ix (x_var (pv 1)) x_int)) x_nil)) (la_cons (la_cons la_nil)))))
/-! _law_more(one, two): slots one 0, two 1 -/
def b__law_more : SF := (sRet (eBin pGt (eBin pMul (eBin pIdx (eVar 0) (eC (.int 0))) (eBin pIdx (eVar 1) (eC (.int 1)))) (eBin pMul (eBin pIdx (eVar 1) (eC (.int 0))) (eBin pIdx (eVar 0) (eC (.int 1))))))
def m__law_more : Fn := bodyF 2 b__law_more
theorem sc__law_more : FnScope ["one", "two"] ["one", "two"] (defScope s__law_more) := ⟨rfl, rfl, rfl, by decide +kernel, rfl, by decide +kernel, by decide +kernel⟩
theorem ok__law_more (T : Txt K mg C) (B : Tb base mg C) : Okd (zt C) P w K mg base 1 "_law_more" ["one", "two"] m__law_more := by
  refine okd (k := 0) T.d__law_more sc__law_more rfl fun f cdv A outer s H E hgd hr => ?_
  exact (z_one (s_ret (x_cmp o_gt (x_bin o_mul (x_ix (x_var (pv 0)) x_int) (x_ix (x_var (pv 1)) x_int)) (x_bin o_mul (x_ix (x_var (pv 1)) x_int) (x_ix (x_var (pv 0)) x_int)) (nomark _))))
/-! _law_mean(c, calls): slots c 0, calls 1, now 2, mean 3, x 4, more 5, wheel 6, marks 7, chance 8, ways 9, kept 10, out 11, one 12, share 13, y 14 -/
def e__law_mean1 : EF := (eAp pTup (aCons (eVar 14) (aCons (eC (.bool true)) aNil)))
def e__law_mean2 : EF := (eVar 14)
def t__law_mean3 : TF := (tOf (eBin pNe (eVar 14) (eVar 11)))
def l__law_mean4 : SF := (sIf (tOf (eBin pNin (eVar 11) (eVar 10))) (sExpr (eBM pAppend (eVar 9) (aCons (eAp pTup (aCons (eAp pTupleOf (aCons (eAp pSortedA (aCons (eBin pPlus (eL (nComp (itAny (eVar 6)) (.nm 14) [14] t__law_mean3 e__law_mean2)) (eL (nLst (aCons (eVar 4) aNil)))) aNil)) aNil)) (aCons (eAp pTupleOf (aCons (eAp pSortedA (aCons (eBin pPlus (eVar 10) (eAp pTup (aCons (eVar 4) aNil))) aNil)) aNil)) aNil))) aNil))) sNext)
def l__law_mean5 : SF := (sSeq (sAsg (eAp m__law_times (aCons (eVar 8) (aCons (eAp pTup (aCons (eC (.int 1)) (aCons (eAp pLen (aCons (eVar 9) aNil)) aNil))) aNil))) (gNm 13)) (sAsg (eIf (tOf (eBin pDIn (eVar 12) (eVar 5))) (eAp m__law_plus (aCons (eBin pDGet (eVar 5) (eVar 12)) (aCons (eVar 13) aNil))) (eVar 13)) (gSubF pDSet (eVar 5) (eVar 12))))
def l__law_mean6 : SF := (sSeq (sAsg (eBin pDGet (eVar 2) (eAp pTup (aCons (eVar 6) (aCons (eVar 7) aNil)))) (gNm 8)) (sSeq (sAsg (eNew (nLst aNil)) (gNm 9)) (sSeq (sIf (tOf (eBin pIn (eVar 4) (eVar 6))) (sExpr (eBM pAppend (eVar 9) (aCons (eAp pTup (aCons (eVar 6) (aCons (eAp pTupleOf (aCons (eAp pSortedA (aCons (eAp pDictP (aCons (eL (nComp (itAny (eBin pPlus (eVar 7) (eAp pTup (aCons (eVar 4) aNil)))) (.nm 14) [14] tTrue e__law_mean1)) aNil)) aNil)) aNil)) aNil))) aNil))) (sSeq (sAsg (eAp m__law_plus (aCons (eVar 3) (aCons (eVar 8) aNil))) (gNm 3)) (sIf (tOf (eBin pLt (eAp pLen (aCons (eVar 6) aNil)) (eVar 0))) (sExpr (eBM pAppend (eVar 9) (aCons (eAp pTup (aCons (eAp pTupleOf (aCons (eAp pSortedA (aCons (eBin pPlus (eVar 6) (eAp pTup (aCons (eVar 4) aNil))) aNil)) aNil)) (aCons (eAp pTupleOf (aCons (eAp pSortedA (aCons (eBin pPlus (eVar 7) (eAp pTup (aCons (eVar 4) aNil))) aNil)) aNil)) aNil))) aNil))) (sSeq (sAsg (eIf (tOf (eBin pEq (eAp pLen (aCons (eVar 7) aNil)) (eVar 0))) (eAp pTup aNil) (eVar 7)) (gNm 10)) (sFor (itAny (eVar 6)) (gNm 11) l__law_mean4))))) (sFor (itAny (eVar 9)) (gNm 12) l__law_mean5))))
def l__law_mean7 : SF := (sSeq (sAsg (eDNew true) (gNm 5)) (sSeq (sLockF 2 (sFor (itDict (eVar 2)) (gP (.tp (.cons (.nm 6) (.cons (.nm 7) .nil)))) l__law_mean6)) (sAsg (eVar 5) (gNm 2))))
def b__law_mean : SF := (sSeq (sPar 2 3 (aCons (eDisp1 true (eAp pTup (aCons (eAp pTup aNil) (aCons (eAp pTup aNil) aNil))) (eAp pTup (aCons (eC (.int 1)) (aCons (eC (.int 1)) aNil)))) (aCons (eAp pTup (aCons (eC (.int 0)) (aCons (eC (.int 1)) aNil))) aNil))) (sSeq (sFor (itAny (eVar 1)) (gNm 4) l__law_mean7) (sRet (eVar 3))))
def m__law_mean : Fn := bodyF 15 b__law_mean
theorem sc__law_mean : FnScope ["c", "calls", "now", "mean", "x", "more", "wheel", "marks", "chance", "ways", "kept", "out", "one", "share", "y"] ["c", "calls"] (defScope s__law_mean) := ⟨rfl, rfl, rfl, by decide +kernel, rfl, by decide +kernel, by decide +kernel⟩
theorem ok__law_mean (T : Txt K mg C) (B : Tb base mg C) : Okd (zt C) P w K mg base 3 "_law_mean" ["c", "calls"] m__law_mean := by
  refine okd (k := 2) T.d__law_mean sc__law_mean rfl fun f cdv A outer s H E hgd hr => ?_
  exact (z_cons (s_par (i := 2) (j := 3) rfl sc__law_mean.nd rfl rfl (by decide) rfl rfl (x_cons (x_disp1T hr (x_tup (x_cons (x_tup x_nil) (x_cons (x_tup x_nil) x_nil))) (x_tup (x_cons x_int (x_cons x_int x_nil)))) (x_cons (x_tup (x_cons x_int (x_cons x_int x_nil))) x_nil)) rfl)
    (z_cons (s_for PassesOwn.never rfl (i_any (x_var (pv 1))) (g_name (i := 4) sc__law_mean.nd rfl (.inl rfl))
      (z_cons (s_set (i := 5) sc__law_mean.nd rfl (.inl rfl) x_dnewT)
      (z_cons (s_lock (i := 2) (s_for PassesOwn.never rfl (i_dict (x_var (pv 2))) (gp_ok (p_tup rfl (p_cons (p_name (i := 6) sc__law_mean.nd rfl (.inl rfl)) (p_cons (p_name (i := 7) sc__law_mean.nd rfl (.inl rfl)) p_nil))) ⟨[6, 7], by decide⟩)
        (z_cons (s_set (i := 8) sc__law_mean.nd rfl (.inl rfl) (x_dget hr (x_var (pv 2)) (x_tup (x_cons (x_var (pv 6)) (x_cons (x_var (pv 7)) x_nil)))))
        (z_cons (s_set (i := 9) sc__law_mean.nd rfl (.inl rfl) (x_new (n_lst x_nil)))
        (z_cons (s_if (y_cmp (o_in hr) (x_var (pv 4)) (x_var (pv 6)) (by with_unfolding_all rfl)) (z_one (s_expr (x_bm PySem.F.slot_list_append PySem.F.type_list_append m_append (x_var (pv 9)) (x_cons (x_tup (x_cons (x_var (pv 6)) (x_cons (x_callTy c_tuple rfl T.z_tuple bt_tuple (x_cons (x_callB (c_sortedA hr rfl) rfl T.z_sorted bt_sorted (x_cons (x_callTy (c_dictP rfl) rfl T.z_dict bt_dict (x_cons (x_ofN (n_comp (own := [("y", 14)]) rfl sc__law_mean.nd (i_any (x_bin o_plus (x_var (pv 7)) (x_tup (x_cons (x_var (pv 4)) x_nil)))) (blkOk_by (N := ["c", "calls", "now", "mean", "x", "more", "wheel", "marks", "chance", "ways", "kept", "out", "one", "share", "y"]) (sc := defScope s__law_mean) (by decide +kernel)) rfl (fun _ _ _ _ _ => (p_name (i := 14) sc__law_mean.nd rfl (.inl rfl))) (fun _ _ _ _ _ => ts_nil) (fun _ _ _ _ _ => (x_tup (x_cons (x_var (pv 14)) (x_cons x_bl x_nil)))))) x_nil)) x_nil)) x_nil)) x_nil))) x_nil)))) (z_cons (s_set (i := 3) sc__law_mean.nd rfl (.inl rfl) (x_callO (ok__law_plus T B) (hr.mono (by decide)) hgd rfl (x_cons (x_var (pv 3)) (x_cons (x_var (pv 8)) x_nil)) (la_cons (la_cons la_nil))))
          (z_one (s_if (y_cmp o_lt (x_callB c_len rfl T.z_len bt_len (x_cons (x_var (pv 6)) x_nil)) (x_var (pv 0)) (nomark _)) (z_one (s_expr (x_bm PySem.F.slot_list_append PySem.F.type_list_append m_append (x_var (pv 9)) (x_cons (x_tup (x_cons (x_callTy c_tuple rfl T.z_tuple bt_tuple (x_cons (x_callB (c_sortedA hr rfl) rfl T.z_sorted bt_sorted (x_cons (x_bin o_plus (x_var (pv 6)) (x_tup (x_cons (x_var (pv 4)) x_nil))) x_nil)) x_nil)) (x_cons (x_callTy c_tuple rfl T.z_tuple bt_tuple (x_cons (x_callB (c_sortedA hr rfl) rfl T.z_sorted bt_sorted (x_cons (x_bin o_plus (x_var (pv 7)) (x_tup (x_cons (x_var (pv 4)) x_nil))) x_nil)) x_nil)) x_nil))) x_nil)))) (z_cons (s_set (i := 10) sc__law_mean.nd rfl (.inl rfl) (x_if (y_cmp (o_eq hr) (x_callB c_len rfl T.z_len bt_len (x_cons (x_var (pv 7)) x_nil)) (x_var (pv 0)) (nomark _)) (x_tup x_nil) (x_var (pv 7))))
            (z_one (s_for PassesOwn.never rfl (i_any (x_var (pv 6))) (g_name (i := 11) sc__law_mean.nd rfl (.inr rfl))
              (z_one (s_if (y_cmp (o_nin hr) (x_var (pv 11)) (x_var (pv 10)) (by with_unfolding_all rfl)) (z_one (s_expr (x_bm PySem.F.slot_list_append PySem.F.type_list_append m_append (x_var (pv 9)) (x_cons (x_tup (x_cons (x_callTy c_tuple rfl T.z_tuple bt_tuple (x_cons (x_callB (c_sortedA hr rfl) rfl T.z_sorted bt_sorted (x_cons (x_bin o_plus (x_ofN (n_comp (own := [("y", 14)]) rfl sc__law_mean.nd (i_any (x_var (pv 6))) (blkOk_by (N := ["c", "calls", "now", "mean", "x", "more", "wheel", "marks", "chance", "ways", "kept", "out", "one", "share", "y"]) (sc := defScope s__law_mean) (by decide +kernel)) rfl (fun _ _ _ _ _ => (p_name (i := 14) sc__law_mean.nd rfl (.inl rfl))) (fun _ _ _ _ _ => (ts_one (y_cmp (o_ne hr) (x_var (pv 14)) (x_var (pv 11)) (nomark _)))) (fun _ _ _ _ _ => (x_var (pv 14))))) (x_ofN (n_lst (x_cons (x_var (pv 4)) x_nil)))) x_nil)) x_nil)) (x_cons (x_callTy c_tuple rfl T.z_tuple bt_tuple (x_cons (x_callB (c_sortedA hr rfl) rfl T.z_sorted bt_sorted (x_cons (x_bin o_plus (x_var (pv 10)) (x_tup (x_cons (x_var (pv 4)) x_nil))) x_nil)) x_nil)) x_nil))) x_nil)))) z_nil)))))))))
        (z_one (s_for PassesOwn.never rfl (i_any (x_var (pv 9))) (g_name (i := 12) sc__law_mean.nd rfl (.inl rfl))
          (z_cons (s_set (i := 13) sc__law_mean.nd rfl (.inl rfl) (x_callO (ok__law_times T B) (hr.mono (by decide)) hgd rfl (x_cons (x_var (pv 8)) (x_cons (x_tup (x_cons x_int (x_cons (x_callB c_len rfl T.z_len bt_len (x_cons (x_var (pv 9)) x_nil)) x_nil))) x_nil)) (la_cons (la_cons la_nil))))
          (z_one (s_asg (x_if (y_cmp (o_din hr) (x_var (pv 12)) (x_var (pv 5)) (by with_unfolding_all rfl)) (x_callO (ok__law_plus T B) (hr.mono (by decide)) hgd rfl (x_cons (x_dget hr (x_var (pv 5)) (x_var (pv 12))) (x_cons (x_var (pv 13)) x_nil)) (la_cons (la_cons la_nil))) (x_var (pv 13))) (g_sub (x_var (pv 5)) (x_var (pv 12)) (dset_ok hr))))))))))))
      (z_one (s_set (i := 2) sc__law_mean.nd rfl (.inl rfl) (x_var (pv 5)))))))
    (z_one (s_ret (x_var (pv 3))))))
/-! law(script): slots script 0, box 1, c 2, calls 3, told 4, least 5, parts 6, k 7, bound 8, few 9, i 10, x 11 -/
def e_law1 : EF := (eAp m__law_draw (aCons (eVar 1) (aCons (eBin pPlus (eVar 2) (eC (.int 2))) aNil)))
def l_law2 : SF := (sAsg (eAp m__law_plus (aCons (eVar 6) (aCons (eAp pTup (aCons (eC (.int 1)) (aCons (eVar 7) aNil))) aNil))) (gNm 6))
def e_law3 : EF := (eAp m__law_draw (aCons (eVar 1) (aCons (eVar 2) aNil)))
def e_law4 : EF := (eAp pTup (aCons (eVar 11) (aCons (eC (.bool true)) aNil)))
def q_law_1 : SF := (sAsg (eAp m__law_stream (aCons (eVar 0) (aCons (eC (.int 0)) aNil))) (gNm 1))
def q_law_2 : SF := (sAsg (eBin pPlus (eC (.int 1)) (eAp m__law_draw (aCons (eVar 1) (aCons (eC (.int 3)) aNil)))) (gNm 2))
def q_law_3 : SF := (sAsg (eAp pTupleOf (aCons (eL (nComp (itRng1 (aCons (eAp m__law_draw (aCons (eVar 1) (aCons (eC (.int 9)) aNil))) aNil)) (.nm 10) [10] tTrue e_law1)) aNil)) (gNm 3))
def q_law_4 : SF := (sAsg (eAp m_mean_brings (aCons (eVar 2) (aCons (eVar 3) aNil))) (gNm 4))
def q_law_5 : SF := (sIf (tOf (eBin pNe (eAp pRepr (aCons (eVar 4) aNil)) (eAp pRepr (aCons (eAp m__law_mean (aCons (eVar 2) (aCons (eVar 3) aNil))) aNil)))) (sRet (eC (.bool false))) sNext)
def q_law_6 : SF := (sAsg (eAp m_fewest_brings (aCons (eVar 2) (aCons (eVar 3) aNil))) (gNm 5))
def q_law_7 : SF := (sAsg (eAp pTup (aCons (eC (.int 0)) (aCons (eC (.int 1)) aNil))) (gNm 6))
def q_law_8 : SF := (sFor (itRng2 (aCons (eC (.int 1)) (aCons (eBin pPlus (eVar 2) (eC (.int 1))) aNil))) (gNm 7) l_law2)
def q_law_9 : SF := (sAsg (eAp m__law_plus (aCons (eAp m__law_times (aCons (eAp m__law_times (aCons (eAp pTup (aCons (eC (.int 2)) (aCons (eC (.int 1)) aNil))) (aCons (eVar 6) aNil))) (aCons (eAp pTup (aCons (eVar 5) (aCons (eC (.int 1)) aNil))) aNil))) (aCons (eAp pTup (aCons (eVar 2) (aCons (eC (.int 1)) aNil))) aNil))) (gNm 8))
def q_law_10 : SF := (sIf (tOrF (tOf (eAp m__law_more (aCons (eAp pTup (aCons (eVar 5) (aCons (eC (.int 1)) aNil))) (aCons (eVar 4) aNil)))) (tOf (eAp m__law_more (aCons (eVar 4) (aCons (eVar 8) aNil))))) (sRet (eC (.bool false))) sNext)
def q_law_11 : SF := (sAsg (eAp pTupleOf (aCons (eL (nComp (itRng1 (aCons (eAp m__law_draw (aCons (eVar 1) (aCons (eC (.int 9)) aNil))) aNil)) (.nm 10) [10] tTrue e_law3)) aNil)) (gNm 9))
def q_law_12 : SF := (sRet (eBin pEq (eAp m_mean_brings (aCons (eVar 2) (aCons (eVar 9) aNil))) (eAp pTup (aCons (eCut (eAp pLenD (aCons (eAp pDictP (aCons (eL (nComp (itAny (eVar 9)) (.nm 11) [11] tTrue e_law4)) aNil)) aNil))) (aCons (eC (.int 1)) aNil)))))
def z_law_12 : SF := q_law_12
def z_law_11 : SF := sSeq q_law_11 z_law_12
def z_law_10 : SF := sSeq q_law_10 z_law_11
def z_law_9 : SF := sSeq q_law_9 z_law_10
def z_law_8 : SF := sSeq q_law_8 z_law_9
def z_law_7 : SF := sSeq q_law_7 z_law_8
def z_law_6 : SF := sSeq q_law_6 z_law_7
def z_law_5 : SF := sSeq q_law_5 z_law_6
def z_law_4 : SF := sSeq q_law_4 z_law_5
def z_law_3 : SF := sSeq q_law_3 z_law_4
def z_law_2 : SF := sSeq q_law_2 z_law_3
def z_law_1 : SF := sSeq q_law_1 z_law_2
def b_law : SF := z_law_1
def m_law : Fn := bodyF 12 b_law
theorem sc_law : FnScope ["script", "box", "c", "calls", "told", "least", "parts", "k", "bound", "few", "i", "x"] ["script"] (defScope s_law) := ⟨rfl, rfl, rfl, by decide +kernel, rfl, by decide +kernel, by decide +kernel⟩
theorem ok_law (T : Txt K mg C) (B : Tb base mg C) : Okd (zt C) P w K mg base 9 "law" ["script"] m_law := by
  refine okd (k := 8) T.d_law sc_law rfl fun f cdv A outer s H E hgd hr => ?_
  exact (z_cons (s_set (i := 1) sc_law.nd rfl (.inr rfl) (x_callO (ok__law_stream T B) (hr.mono (by decide)) hgd rfl (x_cons (x_var (pv 0)) (x_cons x_int x_nil)) (la_cons (la_cons la_nil))))
    (z_cons (s_set (i := 2) sc_law.nd rfl (.inr rfl) (x_bin o_plus x_int (x_callO (ok__law_draw T B) (hr.mono (by decide)) hgd rfl (x_cons (x_var (pv 1)) (x_cons x_int x_nil)) (la_cons (la_cons la_nil)))))
    (z_cons (s_set (i := 3) sc_law.nd rfl (.inl rfl) (x_callTy c_tuple rfl T.z_tuple bt_tuple (x_cons (x_ofN (n_comp (own := [("i", 10)]) rfl sc_law.nd (i_range1 rfl T.z_range (x_cons (x_callO (ok__law_draw T B) (hr.mono (by decide)) hgd rfl (x_cons (x_var (pv 1)) (x_cons x_int x_nil)) (la_cons (la_cons la_nil))) x_nil)) (blkOk_by (N := ["script", "box", "c", "calls", "told", "least", "parts", "k", "bound", "few", "i", "x"]) (sc := defScope s_law) (by decide +kernel)) rfl (fun _ _ _ _ _ => (p_name (i := 10) sc_law.nd rfl (.inl rfl))) (fun _ _ _ _ _ => ts_nil) (fun _ _ _ _ _ => (x_callO (ok__law_draw T B) (hr.mono (by decide)) hgd rfl (x_cons (x_var (pv 1)) (x_cons (x_bin o_plus (x_var (pv 2)) x_int) x_nil)) (la_cons (la_cons la_nil)))))) x_nil)))
    (z_cons (s_set (i := 4) sc_law.nd rfl (.inl rfl) (x_callO (ok_mean_brings T B) (hr.mono (by decide)) hgd rfl (x_cons (x_var (pv 2)) (x_cons (x_var (pv 3)) x_nil)) (la_cons (la_cons la_nil))))
    (z_cons (s_if (y_cmp (o_ne hr) (x_callB (c_repr hgd hr) rfl T.z_repr bt_repr (x_cons (x_var (pv 4)) x_nil)) (x_callB (c_repr hgd hr) rfl T.z_repr bt_repr (x_cons (x_callO (ok__law_mean T B) (hr.mono (by decide)) hgd rfl (x_cons (x_var (pv 2)) (x_cons (x_var (pv 3)) x_nil)) (la_cons (la_cons la_nil))) x_nil)) (nomark _)) (z_one (s_ret x_bl)) z_nil)
    (z_cons (s_set (i := 5) sc_law.nd rfl (.inl rfl) (x_callO (ok_fewest_brings T B) (hr.mono (by decide)) hgd rfl (x_cons (x_var (pv 2)) (x_cons (x_var (pv 3)) x_nil)) (la_cons (la_cons la_nil))))
    (z_cons (s_set (i := 6) sc_law.nd rfl (.inl rfl) (x_tup (x_cons x_int (x_cons x_int x_nil))))
    (z_cons (s_for PassesOwn.never rfl (i_range2 rfl T.z_range (x_cons x_int (x_cons (x_bin o_plus (x_var (pv 2)) x_int) x_nil))) (g_name (i := 7) sc_law.nd rfl (.inl rfl))
      (z_one (s_set (i := 6) sc_law.nd rfl (.inl rfl) (x_callO (ok__law_plus T B) (hr.mono (by decide)) hgd rfl (x_cons (x_var (pv 6)) (x_cons (x_tup (x_cons x_int (x_cons (x_var (pv 7)) x_nil))) x_nil)) (la_cons (la_cons la_nil))))))
    (z_cons (s_set (i := 8) sc_law.nd rfl (.inl rfl) (x_callO (ok__law_plus T B) (hr.mono (by decide)) hgd rfl (x_cons (x_callO (ok__law_times T B) (hr.mono (by decide)) hgd rfl (x_cons (x_callO (ok__law_times T B) (hr.mono (by decide)) hgd rfl (x_cons (x_tup (x_cons x_int (x_cons x_int x_nil))) (x_cons (x_var (pv 6)) x_nil)) (la_cons (la_cons la_nil))) (x_cons (x_tup (x_cons (x_var (pv 5)) (x_cons x_int x_nil))) x_nil)) (la_cons (la_cons la_nil))) (x_cons (x_tup (x_cons (x_var (pv 2)) (x_cons x_int x_nil))) x_nil)) (la_cons (la_cons la_nil))))
    (z_cons (s_if (PW.pt (w_or (y_val (x_callO (ok__law_more T B) (hr.mono (by decide)) hgd rfl (x_cons (x_tup (x_cons (x_var (pv 5)) (x_cons x_int x_nil))) (x_cons (x_var (pv 4)) x_nil)) (la_cons (la_cons la_nil)))) (w_or1 (y_val (x_callO (ok__law_more T B) (hr.mono (by decide)) hgd rfl (x_cons (x_var (pv 4)) (x_cons (x_var (pv 8)) x_nil)) (la_cons (la_cons la_nil))))))) (z_one (s_ret x_bl)) z_nil)
    (z_cons (s_set (i := 9) sc_law.nd rfl (.inl rfl) (x_callTy c_tuple rfl T.z_tuple bt_tuple (x_cons (x_ofN (n_comp (own := [("i", 10)]) rfl sc_law.nd (i_range1 rfl T.z_range (x_cons (x_callO (ok__law_draw T B) (hr.mono (by decide)) hgd rfl (x_cons (x_var (pv 1)) (x_cons x_int x_nil)) (la_cons (la_cons la_nil))) x_nil)) (blkOk_by (N := ["script", "box", "c", "calls", "told", "least", "parts", "k", "bound", "few", "i", "x"]) (sc := defScope s_law) (by decide +kernel)) rfl (fun _ _ _ _ _ => (p_name (i := 10) sc_law.nd rfl (.inl rfl))) (fun _ _ _ _ _ => ts_nil) (fun _ _ _ _ _ => (x_callO (ok__law_draw T B) (hr.mono (by decide)) hgd rfl (x_cons (x_var (pv 1)) (x_cons (x_var (pv 2)) x_nil)) (la_cons (la_cons la_nil)))))) x_nil)))
    (z_one (s_ret (x_cmp (o_eq hr) (x_callO (ok_mean_brings T B) (hr.mono (by decide)) hgd rfl (x_cons (x_var (pv 2)) (x_cons (x_var (pv 9)) x_nil)) (la_cons (la_cons la_nil))) (x_tup (x_cons (x_cut (x_callB c_lenD rfl T.z_len bt_len (x_cons (x_callTy (c_dictP rfl) rfl T.z_dict bt_dict (x_cons (x_ofN (n_comp (own := [("x", 11)]) rfl sc_law.nd (i_any (x_var (pv 9))) (blkOk_by (N := ["script", "box", "c", "calls", "told", "least", "parts", "k", "bound", "few", "i", "x"]) (sc := defScope s_law) (by decide +kernel)) rfl (fun _ _ _ _ _ => (p_name (i := 11) sc_law.nd rfl (.inl rfl))) (fun _ _ _ _ _ => ts_nil) (fun _ _ _ _ _ => (x_tup (x_cons (x_var (pv 11)) (x_cons x_bl x_nil)))))) x_nil)) x_nil))) (x_cons x_int x_nil))) (nomark _)))))))))))))))
end
theorem end_ {P : Program} {w : World} {K : PySem.W.Frag} {mg : Str → Option Value} {fa : Addr} {h : Heap} {C : Cd} (X : K.In h) (kt : KT K) (T : Txt K mg C) (TA : TabsAt K h (cst C)) (hmg : mg "law" = some (.ref fa)) :
    ∃ (K : PySem.W.Frag) (fd : FuncData) (cs : List (Addr × Addr × Str)), K.In h ∧ KT K ∧ TabsAt K h cs ∧ (∀ (s : Shared) (u : Value), BindsTo s fd ⟨[u], []⟩ [("script", u)]) ∧ ∀ base : Heap, K.In base → base.Ns mainGlobals mg → (∀ p ∈ cs, LamX.TabB base mg p.1 p.2.1) → FnG P w K mg base 9 fa fd ["script"] (spF (tabT cs) K 1 m_law) :=
  endO X kt T.d_law TA (fun base TB => ok_law (base := base) T ⟨TB (C.c_fewest_brings, C.P_fewest_brings, lq "fewest_brings") (by simp [cst])⟩) hmg
theorem fin {P : Program} {w : World} {K0 : PySem.W.Frag} {mg : Str → Option Value} {fa : Addr} {h : Heap} {c_fewest_brings P_fewest_brings : Addr} {oc_fewest_brings : Value} {od_fewest_brings : Option Addr} {vs_fewest_brings : Array Value} {os_fewest_brings : Array (Option Value)} (X : K0.In h) (kt : tupB K0 = true) (hmg : mg "law" = some (.ref fa))
    (d_fewest_brings : HasCode (cutK K0 [P_fewest_brings]) mg "fewest_brings" "fewest_brings" s_fewest_brings ["c", "calls"] c_fewest_brings) (lc_fewest_brings : K0.lookup c_fewest_brings = some ⟨oc_fewest_brings, od_fewest_brings, .fields vs_fewest_brings, os_fewest_brings⟩) (hp_fewest_brings : (vs_fewest_brings[11]? : Option Value) = some (.ref P_fewest_brings)) (hd_fewest_brings : PySem.W.codeHdIn K0 c_fewest_brings P_fewest_brings = true) (tT_fewest_brings : h.get? P_fewest_brings = some { cls := .none, data := .fields #[] })
    (nd : ([P_fewest_brings] : List Addr).Nodup)
    (d__law_cell : HasDef (cutK K0 [P_fewest_brings]) mg "_law_cell" "_law_cell" s__law_cell ["script", "k"])
    (d__law_stream : HasDef (cutK K0 [P_fewest_brings]) mg "_law_stream" "_law_stream" s__law_stream ["script", "k"])
    (d_is_integer : HasDef (cutK K0 [P_fewest_brings]) mg "is_integer" "is_integer" s_is_integer ["thing"])
    (d_is_between : HasDef (cutK K0 [P_fewest_brings]) mg "is_between" "is_between" s_is_between ["thing", "low", "high"])
    (d_check_calls : HasDef (cutK K0 [P_fewest_brings]) mg "check_calls" "check_calls" s_check_calls ["c", "calls"])
    (d_after_call : HasDef (cutK K0 [P_fewest_brings]) mg "after_call" "after_call" s_after_call ["c", "wheel", "marked", "plate"])
    (d_common : HasDef (cutK K0 [P_fewest_brings]) mg "common" "common" s_common ["one", "other"])
    (d_fraction : HasDef (cutK K0 [P_fewest_brings]) mg "fraction" "fraction" s_fraction ["n", "d"])
    (d_plus : HasDef (cutK K0 [P_fewest_brings]) mg "plus" "plus" s_plus ["one", "other"])
    (d_times : HasDef (cutK K0 [P_fewest_brings]) mg "times" "times" s_times ["one", "other"])
    (d_mean_brings : HasDef (cutK K0 [P_fewest_brings]) mg "mean_brings" "mean_brings" s_mean_brings ["c", "calls"])
    (d__law_lowest : HasDef (cutK K0 [P_fewest_brings]) mg "_law_lowest" "_law_lowest" s__law_lowest ["n", "d"])
    (d__law_plus : HasDef (cutK K0 [P_fewest_brings]) mg "_law_plus" "_law_plus" s__law_plus ["one", "two"])
    (d__law_draw : HasDef (cutK K0 [P_fewest_brings]) mg "_law_draw" "_law_draw" s__law_draw ["box", "many"])
    (d__law_times : HasDef (cutK K0 [P_fewest_brings]) mg "_law_times" "_law_times" s__law_times ["one", "two"])
    (d__law_more : HasDef (cutK K0 [P_fewest_brings]) mg "_law_more" "_law_more" s__law_more ["one", "two"])
    (d__law_mean : HasDef (cutK K0 [P_fewest_brings]) mg "_law_mean" "_law_mean" s__law_mean ["c", "calls"])
    (d_law : HasDef (cutK K0 [P_fewest_brings]) mg "law" "law" s_law ["script"])
    (k_MOST_CALLS : ∃ t, mg "MOST_CALLS" = some (.int 30 t))
    (k_MOST_MARKED : ∃ t, mg "MOST_MARKED" = some (.int 12 t))
    (k_MOST_PLACES : ∃ t, mg "MOST_PLACES" = some (.int 6 t))
    (k_MOST_PLATE : ∃ t, mg "MOST_PLATE" = some (.int 9 t))
    (z_abs : mg "abs" = none)
    (z_all : mg "all" = none)
    (z_bool : mg "bool" = none)
    (z_dict : mg "dict" = none)
    (z_enumerate : mg "enumerate" = none)
    (z_int : mg "int" = none)
    (z_isinstance : mg "isinstance" = none)
    (z_len : mg "len" = none)
    (z_max : mg "max" = none)
    (z_range : mg "range" = none)
    (z_repr : mg "repr" = none)
    (z_sorted : mg "sorted" = none)
    (z_tuple : mg "tuple" = none) :
    ∃ (K : PySem.W.Frag) (fd : FuncData) (cs : List (Addr × Addr × Str)), K.In h ∧ KT K ∧ TabsAt K h cs ∧ (∀ (s : Shared) (u : Value), BindsTo s fd ⟨[u], []⟩ [("script", u)]) ∧ ∀ base : Heap, K.In base → base.Ns mainGlobals mg → (∀ p ∈ cs, LamX.TabB base mg p.1 p.2.1) → FnG P w K mg base 9 fa fd ["script"] (spF (tabT cs) K 1 m_law) := by
  have nd2 : ((cst ⟨c_fewest_brings, P_fewest_brings⟩).map fun p => p.2.1).Nodup := nd
  refine end_ (C := ⟨c_fewest_brings, P_fewest_brings⟩) (cutK_In X) (kt_of (cut_tupB kt)) ⟨d__law_cell, d__law_stream, d_is_integer, d_is_between, d_check_calls, d_after_call, d_common, d_fraction, d_plus, d_times, d_mean_brings, d_fewest_brings, (by simp [zt]), (tab_uniq (zt ⟨c_fewest_brings, P_fewest_brings⟩) nd (by simp [zt])), d__law_lowest, d__law_plus, d__law_draw, d__law_times, d__law_more, d__law_mean, d_law, k_MOST_CALLS, k_MOST_MARKED, k_MOST_PLACES, k_MOST_PLATE, z_abs, z_all, z_bool, z_dict, z_enumerate, z_int, z_isinstance, z_len, z_max, z_range, z_repr, z_sorted, z_tuple⟩ ⟨?_, ?_, ?_, nd2⟩ hmg
  · intro p hp; simp only [cst, List.mem_cons, List.not_mem_nil, or_false] at hp; rcases hp with rfl
    · exact tT_fewest_brings
  · intro p hp; refine cutK_none ?_; simp only [cst, List.mem_cons, List.not_mem_nil, or_false] at hp; rcases hp with rfl <;> simp
  · intro p hp; simp only [cst, List.mem_cons, List.not_mem_nil, or_false] at hp; rcases hp with rfl
    · exact PySem.W.codeHd_of_K X hd_fewest_brings
end
end L38

set_option Elab.async false
set_option linter.all false
set_option maxRecDepth 100000
namespace L38
open PySem PySem.Spec PyProof.Rows L2 Ev Qa
section
variable {m : M} {n d : Int} {x y : Rat}
theorem fuel_ok {k : Nat} (h : 2 * k + 1 ≤ 999999) : 2 * k + 1 ≤ 999999 := h
theorem pmd_nat {a b : Nat} (h : 0 < b) : pMod (.val (.int (a : Int))) (.val (.int (b : Int))) m = some (.val (.int ((a % b : Nat) : Int)), m) := by
  rw [pmd_ii (by omega)]
  push_cast
  rfl
theorem common_ok {b : Nat} (hp : 0 < b) (hb : b < 2 ^ 4000) : m_common [.val (.int n), .val (.int b)] m = some (.val (.int (Int.gcd n b : Nat)), m) := by
  have h := gcd_loop (c := c_common2) (body := w_common1) (m := m) (fun a b => [some (.val (.int a)), some (.val (.int b))])
    (fun a b => by simp [c_common2])
    (fun a b h => by simp only [w_common1, ev_par, ev_cons, ev_nil, ev_varS, ev_var0, ev_bin, ob_some, pmd_nat h, List.set_cons_succ, List.set_cons_zero]) 4000 999999 b (n % (b : Int)).toNat
    (by have := Int.emod_lt_of_pos n (show (0 : Int) < b by omega); have := Int.emod_nonneg n (show (b : Int) ≠ 0 by omega); omega) (by decide)
  have hn := Int.emod_nonneg n (show (b : Int) ≠ 0 by omega)
  have e1 : (((n % (b : Int)).toNat : Nat) : Int) = n % (b : Int) := by omega
  have hw : wloop c_common2 w_common1 fuel [some (.val (.int n)), some (.val (.int b))] m = some (.nx [some (.val (.int (Nat.gcd b (n % (b : Int)).toNat : Nat))), some (.val (.int 0))] m) := by
    have f : fuel = 999999 + 1 := rfl
    rw [f]
    unfold wloop
    have hp' : (0 : Int) < (b : Int) := by omega
    simp only [c_common2, ev_tOf, ev_bin, ev_varS, ev_var0, ev_c, ob_some, pgt_ii, ev_asB, hp', decide_true, if_true, w_common1, ev_par, ev_cons, ev_nil, pmd_ii hp', List.set_cons_succ, List.set_cons_zero, ev_aft_nx]
    simp only [e1] at h
    exact h
  have e2 : Nat.gcd b (n % (b : Int)).toNat = Int.gcd n b := by
    have e3 : Int.gcd n b = Int.gcd (b : Int) (n % (b : Int)) := by
      rw [Int.gcd_comm n]
      rw [Int.emod_def, Int.gcd_sub_mul_left_right]
    rw [e3]
    unfold Int.gcd
    congr 1
    omega
  rw [e2] at hw
  simp only [m_common, bodyF, b_common, List.map_cons, List.map_nil, List.length_cons, List.length_nil, Nat.reduceAdd, Nat.reduceSub, List.replicate, List.append_nil, ev_seq, hw, ob_some, ev_then_nx]
  simp [leave]
theorem fraction_ok (hd : 0 < d) (hd2 : Sz 4000 d) : m_fraction [.val (.int n), .val (.int d)] m = some (.val (encQ ((n : Rat) / (d : Rat))), m) := by
  obtain ⟨b, rfl⟩ : ∃ b : Nat, d = b := ⟨d.toNat, by omega⟩
  have hb : 0 < b := by omega
  have h1 := common_ok (m := m) (n := n) hb (by unfold Sz at hd2; omega)
  obtain ⟨e1, e2⟩ := low_num n b hd
  have hg : (0 : Int) < ((Int.gcd n b : Nat) : Int) := by
    have : 0 < Int.gcd n b := Int.gcd_pos_of_ne_zero_right n (by omega)
    omega
  have hg2 : Sz 4000 ((Int.gcd n b : Nat) : Int) := by
    unfold Sz at *
    have : Int.gcd n b ≤ b := Nat.le_of_dvd hb (by
      have := Int.gcd_dvd_right n b
      exact_mod_cast this)
    omega
  simp only [m_fraction, bodyF, b_fraction, List.map_cons, List.map_nil, List.length_cons, List.length_nil, Nat.reduceAdd, Nat.reduceSub, List.replicate, List.cons_append, List.nil_append, ev_seq, ev_asg, ev_ap, ev_cons, ev_nil, ev_varS, ev_var0, ob_some, h1, ev_gNm, List.set_cons_succ, List.set_cons_zero, ev_then_nx, ev_ret, ev_bin,
    pdv_sz hg hg2 (by decide), ev_pTup, ev_valsC, ev_vals0]
  rw [e1, e2]
  simp [leave, encQ]
theorem sz_mul2 {i j : Int} (a : Sz 1000 i) (b : Sz 1000 j) : Sz 4000 (i * j) := (a.mul b).up (by decide)
theorem sz_cross {x y : Rat} (a : SmQ x) (b : SmQ y) : Sz 4000 (x.num * y.den + y.num * x.den) := ((a.num.mul b.den).add (b.num.mul a.den)).up (by decide)
theorem mulQ {k l : Int} (a : Sz 1000 k) (b : Sz 1000 l) : pMul (.val (.int k)) (.val (.int l)) m = some (.val (.int (k * l)), m) := pm_sz a b (by decide)
theorem den_mul_pos (x y : Rat) : (0 : Int) < (x.den : Int) * (y.den : Int) := Int.mul_pos (den_pos x) (den_pos y)
theorem times_ok (a : SmQ x) (b : SmQ y) : m_times [.val (encQ x), .val (encQ y)] m = some (.val (encQ (x * y)), m) := by
  have h := fraction_ok (m := m) (n := x.num * y.num) (den_mul_pos x y) (sz_mul2 a.den b.den)
  rw [mul_eq] at h
  simp only [m_times, bodyF, b_times, List.map_cons, List.map_nil, List.length_cons, List.length_nil, Nat.reduceAdd, Nat.reduceSub, List.replicate, List.append_nil, ev_ret, ev_ap, ev_cons, ev_nil, ev_bin, ev_varS, ev_var0, ev_c, ob_some, encQ, pix_t, atI_0, atI_1, mulQ a.num b.num, mulQ a.den b.den]
  rw [h]
  simp [leave, encQ]
theorem plus_ok (a : SmQ x) (b : SmQ y) : m_plus [.val (encQ x), .val (encQ y)] m = some (.val (encQ (x + y)), m) := by
  have h := fraction_ok (m := m) (n := x.num * y.den + y.num * x.den) (den_mul_pos x y) (sz_mul2 a.den b.den)
  rw [add_eq] at h
  simp only [m_plus, bodyF, b_plus, List.map_cons, List.map_nil, List.length_cons, List.length_nil, Nat.reduceAdd, Nat.reduceSub, List.replicate, List.append_nil, ev_ret, ev_ap, ev_cons, ev_nil, ev_bin, ev_varS, ev_var0, ev_c, ob_some, encQ, pix_t, atI_0, atI_1, mulQ a.num b.den, mulQ b.num a.den, mulQ a.den b.den, pp_ii]
  rw [h]
  simp [leave, encQ]
theorem SmQ.neg (a : SmQ x) : SmQ (-x) := ⟨a.num.neg, a.den⟩
theorem more_ok (a : SmQ x) (b : SmQ y) : m__law_more [.val (encQ x), .val (encQ y)] m = some (.val (.bool (decide (y < x))), m) := by
  simp only [m__law_more, bodyF, b__law_more, List.map_cons, List.map_nil, List.length_cons, List.length_nil, Nat.reduceAdd, Nat.reduceSub, List.replicate, List.append_nil, ev_ret, ev_ap, ev_cons, ev_nil, ev_bin, ev_varS, ev_var0, ev_c, ob_some, encQ, pix_t, atI_0, atI_1, mulQ a.num b.den, mulQ b.num a.den, pgt_ii]
  simp [leave, Rat.lt_iff]
theorem lowest_ok (hd : 0 < d) (hd2 : Sz 4000 d) : m__law_lowest [.val (.int n), .val (.int d)] m = some (.val (encQ ((n : Rat) / (d : Rat))), m) := by
  obtain ⟨b, rfl⟩ : ∃ b : Nat, d = b := ⟨d.toNat, by omega⟩
  have hb : 0 < b := by omega
  have hb2 : b < 2 ^ 4000 := by unfold Sz at hd2; omega
  have h := gcd_loop (c := c__law_lowest2) (body := w__law_lowest1) (m := m) (fun u v => [some (.val (.int n)), some (.val (.int b)), some (.val (.int u)), some (.val (.int v))])
    (fun a b => by simp [c__law_lowest2])
    (fun u v h => by simp only [w__law_lowest1, ev_par, ev_cons, ev_nil, ev_varS, ev_var0, ev_bin, ob_some, pmd_nat h, List.set_cons_succ, List.set_cons_zero]) 4000 fuel n.natAbs b hb2 (by decide)
  obtain ⟨e1, e2⟩ := low_num n b hd
  have hg0 : Nat.gcd n.natAbs b = Int.gcd n b := rfl
  have hg : (0 : Int) < ((Int.gcd n b : Nat) : Int) := by
    have : 0 < Int.gcd n b := Int.gcd_pos_of_ne_zero_right n (by omega)
    omega
  have hg2 : Sz 4000 ((Int.gcd n b : Nat) : Int) := by
    unfold Sz
    have : Int.gcd n b ≤ b := Nat.le_of_dvd hb (by
      have := Int.gcd_dvd_right n b
      exact_mod_cast this)
    omega
  have a1 : (if n < 0 then -n else n) = ((n.natAbs : Nat) : Int) := by omega
  have a2 : (if ((b : Nat) : Int) < 0 then -((b : Nat) : Int) else ((b : Nat) : Int)) = ((b : Nat) : Int) := by omega
  simp only [m__law_lowest, bodyF, b__law_lowest, List.map_cons, List.map_nil, List.length_cons, List.length_nil, Nat.reduceAdd, Nat.reduceSub, List.replicate, List.cons_append, List.nil_append, ev_seq, ev_par, ev_ap, ev_cons, ev_nil, ev_varS, ev_var0, ob_some, pabs_i, a1, a2, List.set_cons_succ, List.set_cons_zero, ev_then_nx, h, hg0]
  simp only [ev_asg, ev_eIf, ev_tOf, ev_bin, ev_varS, ev_var0, ev_c, ob_some, pgt_ii, ev_asB, hd, decide_true, if_true, ev_gNm, List.set_cons_succ, List.set_cons_zero, ev_then_nx, ev_ret, ev_ap, ev_cons, ev_nil, pdv_sz hg hg2 (by decide), ev_pTup, ev_valsC, ev_vals0]
  rw [e1, e2]
  simp [leave, encQ]
theorem lplus_ok (a : SmQ x) (b : SmQ y) : m__law_plus [.val (encQ x), .val (encQ y)] m = some (.val (encQ (x + y)), m) := by
  have h := lowest_ok (m := m) (n := x.num * y.den + y.num * x.den) (den_mul_pos x y) (sz_mul2 a.den b.den)
  rw [add_eq] at h
  simp only [m__law_plus, bodyF, b__law_plus, List.map_cons, List.map_nil, List.length_cons, List.length_nil, Nat.reduceAdd, Nat.reduceSub, List.replicate, List.append_nil, ev_ret, ev_ap, ev_cons, ev_nil, ev_bin, ev_varS, ev_var0, ev_c, ob_some, encQ, pix_t, atI_0, atI_1, mulQ a.num b.den, mulQ b.num a.den, mulQ a.den b.den, pp_ii]
  rw [h]
  simp [leave, encQ]
theorem ltimes_ok (a : SmQ x) (b : SmQ y) : m__law_times [.val (encQ x), .val (encQ y)] m = some (.val (encQ (x * y)), m) := by
  have h := lowest_ok (m := m) (n := x.num * y.num) (den_mul_pos x y) (sz_mul2 a.den b.den)
  rw [mul_eq] at h
  simp only [m__law_times, bodyF, b__law_times, List.map_cons, List.map_nil, List.length_cons, List.length_nil, Nat.reduceAdd, Nat.reduceSub, List.replicate, List.append_nil, ev_ret, ev_ap, ev_cons, ev_nil, ev_bin, ev_varS, ev_var0, ev_c, ob_some, encQ, pix_t, atI_0, atI_1, mulQ a.num b.num, mulQ a.den b.den]
  rw [h]
  simp [leave, encQ]
end
end L38

set_option Elab.async false
set_option linter.all false
set_option maxRecDepth 100000
namespace L38
open PySem PySem.Spec PyProof.Rows L2 Ev Mk
def Bx (rest : M) (m : M) : Prop := ∃ a b : Int, m = .lst [.int a, .int b] :: rest ∧ 0 ≤ a ∧ 0 ≤ b ∧ b < 4294967296
theorem draw {rest m : M} {k : Int} (h : Bx rest m) (hk : 0 < k) (hk2 : k < 1000000) : ∃ d m', m__law_draw [.ref 0, .val (.int k)] m = some (.val (.int d), m') ∧ 0 ≤ d ∧ d < k ∧ Bx rest m' := by
  obtain ⟨a, b, rfl, ha, hb, hb2⟩ := h
  have e1 : ∀ (x y : Int) (i : Int), pIdx (.ref 0) (.val (.int i)) (.lst [.int x, .int y] :: rest) = (atI [PyData.int x, .int y] i).bind fun d => some (.val d, .lst [.int x, .int y] :: rest) := fun x y i => pix_r rfl
  have e2 : ∀ (x y : Int) (i z : Int), pSet (.ref 0) (.val (.int i)) (.val (.int z)) (.lst [.int x, .int y] :: rest) = (ixN 2 i).bind fun j => some (.lst ([PyData.int x, .int y].set j (.int z)) :: rest) := fun x y i z => pset_r (m := .lst [.int x, .int y] :: rest) (k := 0) (ds := [.int x, .int y]) rfl
  by_cases h0 : 0 < a
  · refine ⟨a % k, .lst [.int (a / k), .int b] :: rest, ?_, Int.emod_nonneg _ (by omega), Int.emod_lt_of_pos _ hk, _, _, rfl, Int.ediv_nonneg ha (by omega), hb, hb2⟩
    simp [m__law_draw, bodyF, b__law_draw, e1, e2, h0, pmd_ii hk, pdv_ii hk (show k < 18446744073709551616 by omega), show ixN 2 (0 : Int) = some 0 from rfl, leave]
  · have hm : 0 ≤ (b * 48271 + 12345) % 2147483647 := Int.emod_nonneg _ (by decide)
    have hm2 : (b * 48271 + 12345) % 2147483647 < 2147483647 := Int.emod_lt_of_pos _ (by decide)
    refine ⟨((b * 48271 + 12345) % 2147483647) / 64 % k, .lst [.int a, .int ((b * 48271 + 12345) % 2147483647)] :: rest, ?_, Int.emod_nonneg _ (by omega), Int.emod_lt_of_pos _ hk, _, _, rfl, ha, hm, by omega⟩
    simp [m__law_draw, bodyF, b__law_draw, e1, e2, h0, pmd_ii hk, pmd_ii, pdv_ii, pm_ii (i := b) (j := 48271) (by omega) (by decide), show ixN 2 (1 : Int) = some 1 from rfl, leave]
/-- the same, natural -/
theorem drawN {rest m : M} {k : Nat} (h : Bx rest m) (hk : 0 < k) (hk2 : k < 1000000) : ∃ (d : Nat) (m' : M), m__law_draw [.ref 0, .val (.int (k : Int))] m = some (.val (.int (d : Int)), m') ∧ d < k ∧ Bx rest m' := by
  obtain ⟨d, m', h1, h2, h3, h4⟩ := draw h (k := (k : Int)) (by omega) (by omega)
  refine ⟨d.toNat, m', ?_, by omega, h4⟩
  rw [h1]
  have : ((d.toNat : Nat) : Int) = d := by omega
  rw [this]
section
variable {m : M}
@[simp] theorem is_int_i {i : Int} : m_is_integer [.val (.int i)] m = some (.val (.bool true), m) := by
  simp [m_is_integer, bodyF, b_is_integer, isA, leave]
@[simp] theorem is_bet_i {i lo hi : Int} : m_is_between [.val (.int i), .val (.int lo), .val (.int hi)] m = some (.val (.bool (decide (lo ≤ i ∧ i ≤ hi))), m) := by
  by_cases h : lo ≤ i <;> simp [m_is_between, bodyF, b_is_between, leave, h]
end
/-! the store's end -/
section
variable {m : M} {a b c : Ob} {l : M}
theorem g0 : (m ++ a :: l)[m.length]? = some a := by simp
theorem g1 : (m ++ a :: b :: l)[m.length + 1]? = some b := by
  rw [List.getElem?_append_right (by omega)]
  simp
theorem s0 {x : Ob} : (m ++ a :: l).set m.length x = m ++ x :: l := by
  induction m with
  | nil => rfl
  | cons y m ih => exact congrArg (y :: ·) ih
theorem s1 {x : Ob} : (m ++ a :: b :: l).set (m.length + 1) x = m ++ a :: x :: l := by
  induction m with
  | nil => rfl
  | cons y m ih => exact congrArg (y :: ·) ih
theorem l1 : (m ++ [a]).length = m.length + 1 := by simp
theorem tk {l : M} : (m ++ l).take m.length = m := by simp
end
theorem Bx.len {rest m m' : M} (h : Bx rest m) (h' : Bx rest m') : m'.take m.length = m' := by
  obtain ⟨a, b, rfl, _⟩ := h
  obtain ⟨c, d, rfl, _⟩ := h'
  simp
end L38

set_option Elab.async false
set_option linter.all false
set_option maxRecDepth 100000
set_option maxHeartbeats 1000000
namespace L38
open PySem PySem.Spec PyProof.Rows L2 Ev Mk
def encS (s : Wm) : D := .tuple [encT s.1, encT s.2]
theorem keyN_S (s : Wm) : keyN (encS s) = some (.tup [.tup (s.1.map fun a : Nat => NestedKey.num a), .tup (s.2.map fun a : Nat => NestedKey.num a)]) := by
  show ((keyN (encT s.1)).bind fun k => (((keyN (encT s.2)).bind fun k2 => (some []).map fun ks => k2 :: ks)).map fun ks => k :: ks).map NestedKey.tup = _
  rw [keyN_T, keyN_T]
  rfl
theorem same_S (a b : Wm) : sameD true (encS a) (encS b) = decide (a = b) := by
  rw [sameD_T, keyN_S, keyN_S]
  by_cases h : a = b
  · subst h; simp
  · rw [decide_eq_false h]
    refine decide_eq_false fun z => h ?_
    injection z with z
    injection z with z
    injection z with z1 z
    injection z with z2 z
    injection z1 with z1
    injection z2 with z2
    exact Prod.ext (nums_inj z1) (nums_inj z2)
theorem keyOk_S (s : Wm) : keyOk true (encS s) = true := by
  show keyOkN (encS s) = true
  unfold keyOkN
  rw [keyN_S]
  show decide (max (NestedKey.depthAll (s.1.map fun a : Nat => NestedKey.num a) + 1) (max (NestedKey.depthAll (s.2.map fun a : Nat => NestedKey.num a) + 1) 0) + 1 ≤ 8) = true
  rw [depth_nums, depth_nums]
  rfl
/-- a level as a dict -/
def kS (L : Lv) : List (D × D) := L.map fun e => (encS e.1, .tuple [.int e.2.num, .int (e.2.den : Int)])
def lookS (L : Lv) (s : Wm) : Option Rat := (L.find? fun e => decide (e.1 = s)).map (·.2)
theorem look_S (L : Lv) (s : Wm) : lookD true (kS L) (encS s) = (lookS L s).map encQ := by
  unfold lookD lookS kS
  induction L with
  | nil => rfl
  | cons e L ih =>
    rw [List.map_cons, List.find?_cons, List.find?_cons]
    simp only [same_S]
    by_cases h : e.1 = s
    · simp [h, encQ]
    · simp only [h, decide_false]
      exact ih
theorem any_S (L : Lv) (s : Wm) : ((kS L).any fun q => sameD true q.1 (encS s)) = decide (s ∈ L.map (·.1)) := by
  unfold kS
  induction L with
  | nil => simp
  | cons e L ih =>
    rw [List.map_cons, List.any_cons, ih, List.map_cons]
    simp only [same_S, List.mem_cons]
    by_cases h : e.1 = s
    · simp [h]
    · simp [h, show ¬ s = e.1 from fun z => h z.symm]
theorem addS_new {s : Wm} {q : Rat} : ∀ {L : Lv}, s ∉ L.map (·.1) → addS L s q = L ++ [(s, q)]
  | [], _ => rfl
  | (t, v) :: L, h => by
    rw [List.map_cons, List.mem_cons, not_or] at h
    unfold addS
    rw [if_neg fun z => h.1 z.symm, addS_new h.2]
    rfl
theorem map_no {s : Wm} {x : D} : ∀ {L : Lv}, s ∉ L.map (·.1) → (kS L).map (fun q => if sameD true q.1 (encS s) = true then (q.1, x) else q) = kS L
  | [], _ => rfl
  | (t, v) :: L, h => by
    rw [List.map_cons, List.mem_cons, not_or] at h
    have := map_no (x := x) h.2
    unfold kS at this ⊢
    rw [List.map_cons, List.map_cons, this]
    simp only [same_S]
    rw [if_neg (by simp; exact fun z => h.1 z.symm)]
/-- the entry of s grows by q -/
theorem put_S {s : Wm} {q : Rat} : ∀ {L : Lv}, (L.map (·.1)).Nodup → putD true (kS L) (encS s) (encQ ((lookS L s).getD 0 + q)) = kS (addS L s q) := fun {L} hn => by
  unfold putD
  rw [any_S]
  by_cases h : s ∈ L.map (·.1)
  · rw [if_pos (decide_eq_true h)]
    induction L with
    | nil => cases h
    | cons e L ih =>
      obtain ⟨t, v⟩ := e
      rw [List.map_cons, List.nodup_cons] at hn
      unfold addS
      by_cases ht : t = s
      · subst ht
        have e1 : lookS ((t, v) :: L) t = some v := by simp [lookS]
        rw [e1, if_pos rfl]
        have := map_no (x := encQ (v + q)) hn.1
        unfold kS at this ⊢
        rw [List.map_cons, List.map_cons, List.map_cons]
        simp only [same_S, decide_true, if_true, Option.getD_some]
        simp only [same_S] at this
        rw [this]
        rfl
      · have e1 : lookS ((t, v) :: L) s = lookS L s := by simp [lookS, ht]
        rw [e1, if_neg ht]
        have h' : s ∈ L.map (·.1) := by
          rcases List.mem_cons.mp h with z | z
          · exact absurd z.symm ht
          · exact z
        have := ih hn.2 h'
        unfold kS at this ⊢
        rw [List.map_cons, List.map_cons, List.map_cons, this]
        simp [same_S, ht]
  · rw [if_neg (by simp [h]), addS_new h]
    have e1 : lookS L s = none := by
      unfold lookS
      rw [Option.map_eq_none_iff, List.find?_eq_none]
      intro e he
      simp only [decide_eq_true_eq]
      exact fun z => h (List.mem_map.mpr ⟨e, he, z⟩)
    rw [e1]
    unfold kS
    rw [List.map_append]
    simp only [Option.getD_none, Rat.zero_add]
    rfl
end L38

set_option Elab.async false
set_option linter.all false
set_option maxRecDepth 100000
set_option maxHeartbeats 0
namespace L38
open PySem PySem.Spec PyProof.Rows L2 Ev Mk
section
variable {m : M} {c x : Nat}
theorem insF_dd {mk : List Nat} (nd : mk.Nodup) : (mk ++ [x]).foldl insN [] = dd mk x := by
  rw [List.foldl_append, insF_new (ks := []) (by simpa using nd)]
  rfl
def tru : Nat → D := fun _ => .bool true
theorem encT1 (x : Nat) : PyData.tuple [.int (x : Int)] = encT [x] := rfl
theorem encS_mk (a b : List Nat) : PyData.tuple [encT a, encT b] = encS (a, b) := rfl
/-- sorted of the keys of {one: True ..} -/
theorem sort_dct {l : List Nat} (hl : l.length ≤ 16777216) : pSortedA [.ref m.length] (m ++ [.dct false false (kF nI tru l)]) = some (.val (.list (encI (srt l))), m ++ [.dct false false (kF nI tru l)]) := by
  refine psort_N ?_ hl
  unfold asK
  simp only [getN, ob_some]
  unfold kF
  rw [List.map_map]
  rfl
theorem sort_T {l : List Nat} (hl : l.length ≤ 16777216) : pSortedA [.val (encT l)] m = some (.val (.list (encI (srt l))), m) := psort_N rfl hl
theorem sort_L {l : List Nat} (hl : l.length ≤ 16777216) : pSortedA [.val (.list (encI l))] m = some (.val (.list (encI (srt l))), m) := psort_N rfl hl
theorem plen_T {l : List Nat} : pLen [.val (encT l)] m = some (.val (.int (l.length : Int)), m) := by
  show some (R.val (PyData.int ((encI l).length : Int)), m) = _
  rw [encI_len]
theorem tup_L {l : List Nat} : pTupleOf [.val (.list (encI l))] m = some (.val (encT l), m) := rfl
theorem wipe_comp {w : List Nat} {out : Nat} {env : Sl} (he : env.length = 8) (h1 : env[1]? = some (some (.val (encT w)))) (h5 : env[5]? = some (some (.val (.int (out : Int))))) (hl : w.length ≤ 100) :
    nComp (itAny (eVar 1)) (.nm 7) [7] t_after_call4 e_after_call3 env m = some (encI (w.filter fun y => decide (y ≠ out)), m) := by
  match env, he with
  | [e0, e1, e2, e3, e4, e5, e6, e7], _ =>
    cases h1
    cases h5
    exact comp_map nI (fun y => decide (y ≠ out)) nI w rfl (by omega) fun a ha => ⟨[e0, some (.val (encT w)), e2, e3, e4, some (.val (.int (out : Int))), e6, some (.val (.int (a : Int)))], rfl, by
      simp only [t_after_call4, ev_asg, ev_par, ev_if, ev_ret, ev_retN, ev_expr, ev_bin, ev_un, ev_ap, ev_cons, ev_nil, ev_varS, ev_var0, ev_c, ob_some, ev_gNm, ev_tOf, ev_asB, ev_asI, ev_tNot, ev_tAnd, ev_tOr, ev_eOf, ev_eIf, ev_chain, List.set_cons_succ, List.set_cons_zero, ev_then_nx, ev_then_rt, ev_next, ev_pTup, ev_valsC, ev_vals0, ev_eL, ev_bm, ev_aug, pix_t, pix_l, pixq0, pixq1, atI_0, atI_1, atI_2, pp_ii, ps_ii, pa_ii, plt_ii, ple_ii, pgt_ii, pge_ii, peq_ii, pne_ii, pneg_i, List.length_cons, List.length_nil, Nat.reduceAdd, Nat.reduceSub, Nat.reduceLeDiff, sz, if_true, Bool.false_eq_true, if_false, Bool.not_true, Bool.not_false, leave_v, List.take_length, plen_t, plen_l, ptup_l, ptup_t, pint_i, pis_n, pis_i, pis_t, pisnt_n, pisnt_i, pisnt_t, Int.cast_ofNat_Int, ne_eq, not_true_eq_false, not_false_eq_true, decide_true, decide_false]
      by_cases h : a = out
      · simp [h]
      · have : ¬ ((a : Int) = (out : Int)) := by omega
        simp [h, this], fun _ => rfl⟩
theorem encT_mk {l : List Nat} : PyData.tuple (encI l) = encT l := rfl
theorem leave_tp {ds : List D} {b : D} : leave m.length (.tp [.inr m.length, .inl b]) (m ++ [.lst ds]) = some (.val (.tuple [.list ds, b]), m) := by
  simp [leave, freezeT]
theorem pTupR_ok {k : Nat} {b : D} : pTupR [.ref k, .val b] m = some (.tp [.inr k, .inl b], m) := rfl
theorem after_ok {s : Wm} (h1 : s.1.length ≤ 100) (h2 : s.2.length ≤ 100) (nd : s.2.Nodup) :
    m_after_call [.val (.int (c : Int)), .val (encT s.1), .val (encT s.2), .val (.int (x : Int))] m = some (.val (.tuple [.list ((ways c x s).1.map encS), .bool (ways c x s).2]), m) := by
  obtain ⟨w, mk⟩ := s
  simp only at h1 h2 nd
  have a1 : pIn (.val (.int (x : Int))) (.val (encT w)) m = some (.val (.bool (decide (x ∈ w))), m) := pin_N rfl
  by_cases hx : x ∈ w
  · have pt : pPlus (.val (encT mk)) (.val (encT [x])) m = some (.val (encT (mk ++ [x])), m) := pp_TT (by simp; omega)
    have dc := dcomp_all (it := itAny (eBin pPlus (eVar 2) (eAp pTup (aCons (eVar 3) aNil)))) (p := .nm 7) (vs := [7]) (tk := e_after_call1) (tv := e_after_call2) (env := [some (.val (.int (c : Int))), some (.val (encT w)), some (.val (encT mk)), some (.val (.int (x : Int))), none, none, none, none]) (m := m) nI nI tru (mk ++ [x]) (by
      simp only [it_an, ev_asg, ev_par, ev_if, ev_ret, ev_retN, ev_expr, ev_bin, ev_un, ev_ap, ev_cons, ev_nil, ev_varS, ev_var0, ev_c, ob_some, ev_gNm, ev_tOf, ev_asB, ev_asI, ev_tNot, ev_tAnd, ev_tOr, ev_eOf, ev_eIf, ev_chain, List.set_cons_succ, List.set_cons_zero, ev_then_nx, ev_then_rt, ev_next, ev_pTup, ev_valsC, ev_vals0, ev_eL, ev_bm, ev_aug, pix_t, pix_l, pixq0, pixq1, atI_0, atI_1, atI_2, pp_ii, ps_ii, pa_ii, plt_ii, ple_ii, pgt_ii, pge_ii, peq_ii, pne_ii, pneg_i, List.length_cons, List.length_nil, Nat.reduceAdd, Nat.reduceSub, Nat.reduceLeDiff, sz, if_true, Bool.false_eq_true, if_false, Bool.not_true, Bool.not_false, leave_v, List.take_length, plen_t, plen_l, ptup_l, ptup_t, pint_i, pis_n, pis_i, pis_t, pisnt_n, pisnt_i, pisnt_t, Int.cast_ofNat_Int, ne_eq, not_true_eq_false, not_false_eq_true, decide_true, decide_false, encT1, pt]
      rfl) (by simp; omega) fun a ha => ⟨_, rfl, fun kvs => ⟨rfl, rfl, rfl⟩⟩
    have pu : puts false [] ((mk ++ [x]).map fun a => (nI a, tru a)) = kF nI tru (dd mk x) := by
      rw [← insF_dd nd]
      exact puts_n (mk ++ [x]) []
    rw [pu] at dc
    have dl : (dd mk x).length ≤ 16777216 := by
      unfold dd
      split
      · omega
      · simp; omega
    have wy : ways c x (w, mk) = ([(w, srt (dd mk x))], false) := by
      unfold ways
      simp only [hx, if_true]
    rw [wy]
    simp only [m_after_call, bodyF, List.length_cons, List.length_nil, Nat.reduceAdd, Nat.reduceSub, List.map_cons, List.map_nil, List.replicate, List.cons_append, List.nil_append, List.append_nil, b_after_call, ev_seq, ev_asg, ev_par, ev_if, ev_ret, ev_retN, ev_expr, ev_bin, ev_un, ev_ap, ev_cons, ev_nil, ev_varS, ev_var0, ev_c, ob_some, ev_gNm, ev_tOf, ev_asB, ev_asI, ev_tNot, ev_tAnd, ev_tOr, ev_eOf, ev_eIf, ev_chain, List.set_cons_succ, List.set_cons_zero, ev_then_nx, ev_then_rt, ev_next, ev_pTup, ev_valsC, ev_vals0, ev_eL, ev_bm, ev_aug, pix_t, pix_l, pixq0, pixq1, atI_0, atI_1, atI_2, pp_ii, ps_ii, pa_ii, plt_ii, ple_ii, pgt_ii, pge_ii, peq_ii, pne_ii, pneg_i, List.length_cons, List.length_nil, Nat.reduceAdd, Nat.reduceSub, Nat.reduceLeDiff, sz, if_true, Bool.false_eq_true, if_false, Bool.not_true, Bool.not_false, leave_v, List.take_length, plen_t, plen_l, ptup_l, ptup_t, pint_i, pis_n, pis_i, pis_t, pisnt_n, pisnt_i, pisnt_t, Int.cast_ofNat_Int, ne_eq, not_true_eq_false, not_false_eq_true, decide_true, decide_false, a1, hx, dc, sort_dct dl, tup_L, encS_mk, ev_nLst, tk]
    rfl
  · by_cases hl : w.length < c
    · have wy : ways c x (w, mk) = ([(srt (w ++ [x]), srt (mk ++ [x]))], true) := by
        unfold ways
        simp only [hx, if_false, hl, if_true]
      have hl' : ((w.length : Nat) : Int) < (c : Int) := by omega
      have pt : pPlus (.val (encT w)) (.val (encT [x])) m = some (.val (encT (w ++ [x])), m) := pp_TT (by simp; omega)
      have pt2 : pPlus (.val (encT mk)) (.val (encT [x])) m = some (.val (encT (mk ++ [x])), m) := pp_TT (by simp; omega)
      rw [wy]
      simp only [m_after_call, bodyF, List.length_cons, List.length_nil, Nat.reduceAdd, Nat.reduceSub, List.map_cons, List.map_nil, List.replicate, List.cons_append, List.nil_append, List.append_nil, b_after_call, ev_seq, ev_asg, ev_par, ev_if, ev_ret, ev_retN, ev_expr, ev_bin, ev_un, ev_ap, ev_cons, ev_nil, ev_varS, ev_var0, ev_c, ob_some, ev_gNm, ev_tOf, ev_asB, ev_asI, ev_tNot, ev_tAnd, ev_tOr, ev_eOf, ev_eIf, ev_chain, List.set_cons_succ, List.set_cons_zero, ev_then_nx, ev_then_rt, ev_next, ev_pTup, ev_valsC, ev_vals0, ev_eL, ev_bm, ev_aug, pix_t, pix_l, pixq0, pixq1, atI_0, atI_1, atI_2, pp_ii, ps_ii, pa_ii, plt_ii, ple_ii, pgt_ii, pge_ii, peq_ii, pne_ii, pneg_i, List.length_cons, List.length_nil, Nat.reduceAdd, Nat.reduceSub, Nat.reduceLeDiff, sz, if_true, Bool.false_eq_true, if_false, Bool.not_true, Bool.not_false, leave_v, List.take_length, plen_t, plen_l, ptup_l, ptup_t, pint_i, pis_n, pis_i, pis_t, pisnt_n, pisnt_i, pisnt_t, Int.cast_ofNat_Int, ne_eq, not_true_eq_false, not_false_eq_true, decide_true, decide_false, a1, hx, plen_T, hl', encT1, pt, pt2, sort_T (show (w ++ [x]).length ≤ 16777216 by simp; omega), sort_T (show (mk ++ [x]).length ≤ 16777216 by simp; omega), tup_L, encS_mk, ev_nLst]
      rfl
    · have hl' : ¬ ((w.length : Nat) : Int) < (c : Int) := by omega
      have wy : ways c x (w, mk) = ((w.filter (fun o => decide (o ∉ kpt c mk))).map fun o => (srt (w.filter (fun y => decide (y ≠ o)) ++ [x]), srt (kpt c mk ++ [x])), true) := by
        unfold ways
        simp only [hx, if_false, hl]
      have kl : (kpt c mk).length ≤ 100 := by
        unfold kpt
        split
        · simp
        · omega
      have mkd : eIf (tOf (eBin pEq (eAp pLen (aCons (eVar 2) aNil)) (eVar 0))) (eAp pTup aNil) (eVar 2) [some (.val (.int (c : Int))), some (.val (encT w)), some (.val (encT mk)), some (.val (.int (x : Int))), none, none, none, none] m = some (.val (encT (kpt c mk)), m) := by
        unfold kpt
        by_cases q : mk.length = c
        · simp only [ev_asg, ev_par, ev_if, ev_ret, ev_retN, ev_expr, ev_bin, ev_un, ev_ap, ev_cons, ev_nil, ev_varS, ev_var0, ev_c, ob_some, ev_gNm, ev_tOf, ev_asB, ev_asI, ev_tNot, ev_tAnd, ev_tOr, ev_eOf, ev_eIf, ev_chain, List.set_cons_succ, List.set_cons_zero, ev_then_nx, ev_then_rt, ev_next, ev_pTup, ev_valsC, ev_vals0, ev_eL, ev_bm, ev_aug, pix_t, pix_l, pixq0, pixq1, atI_0, atI_1, atI_2, pp_ii, ps_ii, pa_ii, plt_ii, ple_ii, pgt_ii, pge_ii, peq_ii, pne_ii, pneg_i, List.length_cons, List.length_nil, Nat.reduceAdd, Nat.reduceSub, Nat.reduceLeDiff, sz, if_true, Bool.false_eq_true, if_false, Bool.not_true, Bool.not_false, leave_v, List.take_length, plen_t, plen_l, ptup_l, ptup_t, pint_i, pis_n, pis_i, pis_t, pisnt_n, pisnt_i, pisnt_t, Int.cast_ofNat_Int, ne_eq, not_true_eq_false, not_false_eq_true, decide_true, decide_false, plen_T, q]
          rfl
        · have : ¬ ((mk.length : Nat) : Int) = (c : Int) := by omega
          simp only [ev_asg, ev_par, ev_if, ev_ret, ev_retN, ev_expr, ev_bin, ev_un, ev_ap, ev_cons, ev_nil, ev_varS, ev_var0, ev_c, ob_some, ev_gNm, ev_tOf, ev_asB, ev_asI, ev_tNot, ev_tAnd, ev_tOr, ev_eOf, ev_eIf, ev_chain, List.set_cons_succ, List.set_cons_zero, ev_then_nx, ev_then_rt, ev_next, ev_pTup, ev_valsC, ev_vals0, ev_eL, ev_bm, ev_aug, pix_t, pix_l, pixq0, pixq1, atI_0, atI_1, atI_2, pp_ii, ps_ii, pa_ii, plt_ii, ple_ii, pgt_ii, pge_ii, peq_ii, pne_ii, pneg_i, List.length_cons, List.length_nil, Nat.reduceAdd, Nat.reduceSub, Nat.reduceLeDiff, sz, if_true, Bool.false_eq_true, if_false, Bool.not_true, Bool.not_false, leave_v, List.take_length, plen_t, plen_l, ptup_l, ptup_t, pint_i, pis_n, pis_i, pis_t, pisnt_n, pisnt_i, pisnt_t, Int.cast_ofNat_Int, ne_eq, not_true_eq_false, not_false_eq_true, decide_true, decide_false, plen_T, q, this, decide_false]
      generalize hk : kpt c mk = kp at *
      obtain ⟨e', mm, h, e5, e6, rfl, rfl⟩ := loop_inv (gf := gNm 5) (sf := l_after_call5) nI (fun j env mm => ∃ e5 e6, env = [some (.val (.int (c : Int))), some (.val (encT w)), some (.val (encT kp)), some (.val (.int (x : Int))), some (.ref m.length), e5, e6, none] ∧
          mm = m ++ [.lst ((((w.take j).filter (fun o => decide (o ∉ kp))).map fun o => (srt (w.filter (fun y => decide (y ≠ o)) ++ [x]), srt (kp ++ [x]))).map encS)]) w
        [some (.val (.int (c : Int))), some (.val (encT w)), some (.val (encT kp)), some (.val (.int (x : Int))), some (.ref m.length), none, none, none] (m ++ [.lst []]) ⟨none, none, rfl, rfl⟩ fun j o hj env mm ⟨e5, e6, he, hm⟩ => by
        subst he hm
        have ha : w.take (j + 1) = w.take j ++ [o] := by rw [List.take_add_one, hj]; rfl
        generalize hmm : m ++ [Ob.lst ((((w.take j).filter (fun o => decide (o ∉ kp))).map fun o => (srt (w.filter (fun y => decide (y ≠ o)) ++ [x]), srt (kp ++ [x]))).map encS)] = mm
        have gt : mm[m.length]? = some (.lst ((((w.take j).filter (fun o => decide (o ∉ kp))).map fun o => (srt (w.filter (fun y => decide (y ≠ o)) ++ [x]), srt (kp ++ [x]))).map encS)) := by rw [← hmm]; exact getN
        have b1 : pNin (.val (.int (o : Int))) (.val (encT kp)) mm = some (.val (.bool (!decide (o ∈ kp))), mm) := pnin_N rfl
        by_cases ho : o ∈ kp
        · refine ⟨[some (.val (.int (c : Int))), some (.val (encT w)), some (.val (encT kp)), some (.val (.int (x : Int))), some (.ref m.length), some (.val (.int (o : Int))), e6, none], mm, [some (.val (.int (c : Int))), some (.val (encT w)), some (.val (encT kp)), some (.val (.int (x : Int))), some (.ref m.length), some (.val (.int (o : Int))), e6, none], mm, rfl, ?_, ⟨_, _, rfl, ?_⟩⟩
          · simp only [l_after_call5, ev_asg, ev_par, ev_if, ev_ret, ev_retN, ev_expr, ev_bin, ev_un, ev_ap, ev_cons, ev_nil, ev_varS, ev_var0, ev_c, ob_some, ev_gNm, ev_tOf, ev_asB, ev_asI, ev_tNot, ev_tAnd, ev_tOr, ev_eOf, ev_eIf, ev_chain, List.set_cons_succ, List.set_cons_zero, ev_then_nx, ev_then_rt, ev_next, ev_pTup, ev_valsC, ev_vals0, ev_eL, ev_bm, ev_aug, pix_t, pix_l, pixq0, pixq1, atI_0, atI_1, atI_2, pp_ii, ps_ii, pa_ii, plt_ii, ple_ii, pgt_ii, pge_ii, peq_ii, pne_ii, pneg_i, List.length_cons, List.length_nil, Nat.reduceAdd, Nat.reduceSub, Nat.reduceLeDiff, sz, if_true, Bool.false_eq_true, if_false, Bool.not_true, Bool.not_false, leave_v, List.take_length, plen_t, plen_l, ptup_l, ptup_t, pint_i, pis_n, pis_i, pis_t, pisnt_n, pisnt_i, pisnt_t, Int.cast_ofNat_Int, ne_eq, not_true_eq_false, not_false_eq_true, decide_true, decide_false, b1, ho]
          · rw [← hmm, ha, List.filter_append]
            simp [ho]
        · have cm := wipe_comp (m := mm) (w := w) (out := o) (env := [some (.val (.int (c : Int))), some (.val (encT w)), some (.val (encT kp)), some (.val (.int (x : Int))), some (.ref m.length), some (.val (.int (o : Int))), e6, none]) rfl rfl rfl h1
          have fl : (w.filter fun y => decide (y ≠ o)).length ≤ 100 := Nat.le_trans (List.length_filter_le _ _) h1
          have pt : pPlus (.val (encT (w.filter fun y => decide (y ≠ o)))) (.val (encT [x])) mm = some (.val (encT ((w.filter fun y => decide (y ≠ o)) ++ [x])), mm) := pp_TT (by rw [List.length_singleton]; omega)
          have pt2 : pPlus (.val (encT kp)) (.val (encT [x])) mm = some (.val (encT (kp ++ [x])), mm) := pp_TT (by rw [List.length_singleton]; omega)
          have gl : ((((w.take j).filter (fun o => decide (o ∉ kp))).map fun o => (srt (w.filter (fun y => decide (y ≠ o)) ++ [x]), srt (kp ++ [x]))).map encS).length < 16777216 := by
            rw [List.length_map, List.length_map]
            have := List.length_filter_le (fun o => decide (o ∉ kp)) (w.take j)
            have := List.length_take_le j w
            have := List.length_take_le' j w
            omega
          have al : asL (.ref m.length) mm = some ((((w.take j).filter (fun o => decide (o ∉ kp))).map fun o => (srt (w.filter (fun y => decide (y ≠ o)) ++ [x]), srt (kp ++ [x]))).map encS) := by
            unfold asL
            simp only [gt, ob_some]
          have fin : m ++ [Ob.lst ((((w.take (j + 1)).filter (fun o => decide (o ∉ kp))).map fun o => (srt (w.filter (fun y => decide (y ≠ o)) ++ [x]), srt (kp ++ [x]))).map encS)] =
              mm.set m.length (.lst ((((w.take j).filter (fun o => decide (o ∉ kp))).map fun o => (srt (w.filter (fun y => decide (y ≠ o)) ++ [x]), srt (kp ++ [x]))).map encS ++ [encS (srt (w.filter (fun y => decide (y ≠ o)) ++ [x]), srt (kp ++ [x]))])) := by
            rw [← hmm, setN, ha, List.filter_append]
            simp [ho]
          generalize (((w.take j).filter (fun o => decide (o ∉ kp))).map fun o => (srt (w.filter (fun y => decide (y ≠ o)) ++ [x]), srt (kp ++ [x]))).map encS = old at gt gl al fin
          generalize hwf : (w.filter fun y => decide (y ≠ o)) = wf at cm fl pt fin
          have lw : (wf ++ [x]).length ≤ 16777216 := by rw [List.length_append, List.length_singleton]; omega
          have lk : (kp ++ [x]).length ≤ 16777216 := by rw [List.length_append, List.length_singleton]; omega
          refine ⟨[some (.val (.int (c : Int))), some (.val (encT w)), some (.val (encT kp)), some (.val (.int (x : Int))), some (.ref m.length), some (.val (.int (o : Int))), e6, none], mm,
            [some (.val (.int (c : Int))), some (.val (encT w)), some (.val (encT kp)), some (.val (.int (x : Int))), some (.ref m.length), some (.val (.int (o : Int))), some (.val (encT wf)), none], _, rfl, ?_, ⟨_, _, rfl, rfl⟩⟩
          rw [fin]
          simp only [l_after_call5, ev_seq, ev_asg, ev_par, ev_if, ev_ret, ev_retN, ev_expr, ev_bin, ev_un, ev_ap, ev_cons, ev_nil, ev_varS, ev_var0, ev_c, ob_some, ev_gNm, ev_tOf, ev_asB, ev_asI, ev_tNot, ev_tAnd, ev_tOr, ev_eOf, ev_eIf, ev_chain, List.set_cons_succ, List.set_cons_zero, ev_then_nx, ev_then_rt, ev_next, ev_pTup, ev_valsC, ev_vals0, ev_eL, ev_bm, ev_aug, pix_t, pix_l, pixq0, pixq1, atI_0, atI_1, atI_2, pp_ii, ps_ii, pa_ii, plt_ii, ple_ii, pgt_ii, pge_ii, peq_ii, pne_ii, pneg_i, List.length_cons, List.length_nil, Nat.reduceAdd, Nat.reduceSub, Nat.reduceLeDiff, sz, if_true, Bool.false_eq_true, if_false, Bool.not_true, Bool.not_false, leave_v, List.take_length, plen_t, plen_l, ptup_l, ptup_t, pint_i, pis_n, pis_i, pis_t, pisnt_n, pisnt_i, pisnt_t, Int.cast_ofNat_Int, ne_eq, not_true_eq_false, not_false_eq_true, decide_true, decide_false, b1, ho, cm, tup_L, encT_mk, al, encT1, pt, pt2, sort_T lw, sort_T lk, encS_mk, papp_r gt gl]
      rw [List.take_length] at h
      have ll : (m ++ [Ob.lst (((w.filter (fun o => decide (o ∉ kp))).map fun o => (srt (w.filter (fun y => decide (y ≠ o)) ++ [x]), srt (kp ++ [x]))).map encS)]).take m.length = m := tk
      rw [wy]
      have h' : runI (iL (w.map nI) (m ++ [.lst []])) (gNm 5) l_after_call5 [some (.val (.int (c : Int))), some (.val (encT w)), some (.val (encT kp)), some (.val (.int (x : Int))), some (.ref m.length), none, none, none] = _ := (run_iL ..).trans h
      have al : an1 (.val (encT w)) (m ++ [.lst []]) = iL (w.map nI) (m ++ [.lst []]) := rfl
      simp only [m_after_call, bodyF, List.length_cons, List.length_nil, Nat.reduceAdd, Nat.reduceSub, List.map_cons, List.map_nil, List.replicate, List.cons_append, List.nil_append, List.append_nil, b_after_call, ev_seq, ev_asg, ev_par, ev_if, ev_ret, ev_retN, ev_expr, ev_bin, ev_un, ev_ap, ev_cons, ev_nil, ev_varS, ev_var0, ev_c, ob_some, ev_gNm, ev_tOf, ev_asB, ev_asI, ev_tNot, ev_tAnd, ev_tOr, ev_eOf, ev_chain, List.set_cons_succ, List.set_cons_zero, ev_then_nx, ev_then_rt, ev_next, ev_pTup, ev_valsC, ev_vals0, ev_eL, ev_bm, ev_aug, pix_t, pix_l, pixq0, pixq1, atI_0, atI_1, atI_2, pp_ii, ps_ii, pa_ii, plt_ii, ple_ii, pgt_ii, pge_ii, peq_ii, pne_ii, pneg_i, List.length_cons, List.length_nil, Nat.reduceAdd, Nat.reduceSub, Nat.reduceLeDiff, sz, if_true, Bool.false_eq_true, if_false, Bool.not_true, Bool.not_false, leave_v, List.take_length, plen_t, plen_l, ptup_l, ptup_t, pint_i, pis_n, pis_i, pis_t, pisnt_n, pisnt_i, pisnt_t, Int.cast_ofNat_Int, ne_eq, not_true_eq_false, not_false_eq_true, decide_true, decide_false, a1, hx, plen_T, hl', mkd, ev_eNew, ev_nLst, ev_for, it_an, al, h', pTupR_ok, leave_tp]
end
end L38

set_option Elab.async false
set_option linter.all false
set_option maxRecDepth 100000
set_option maxHeartbeats 0
namespace L38
open PySem PySem.Spec PyProof.Rows L2 Ev Mk
/-! levels under way -/
structure Pt (t : Nat) (K : Lv) : Prop where
  pos : ∀ e ∈ K, 0 ≤ e.2
  inn : ∀ e ∈ K, Qa.In (6 ^ t) e.2
  le : ws (fun _ => 1) K ≤ 1
  keys : (K.map (·.1)).Nodup
theorem p6 {t : Nat} (h : t ≤ 20) : 6 ^ t ≤ 6 ^ 20 := Nat.pow_le_pow_right (by decide) h
theorem smq {t : Nat} {q : Rat} (ht : t ≤ 20) (h : Qa.In (6 ^ t) q) (h0 : 0 ≤ q) (h1 : q ≤ ((100 : Nat) : Rat)) : SmQ q := by
  have e : (6 : Nat) ^ 20 < 2 ^ 60 := by decide
  have := p6 ht
  have e2 : (2 : Nat) ^ 60 ≤ 2 ^ 1000 := Nat.pow_le_pow_right (by decide) (by decide)
  have e3 : 100 * 2 ^ 60 < 2 ^ 1000 := Nat.lt_of_lt_of_le (by decide : 100 * 2 ^ 60 < 2 ^ 70) (Nat.pow_le_pow_right (by decide) (by decide))
  refine SmQ.of (N := 6 ^ t) (B := 100) (Nat.pow_pos (by decide)) h ?_ h1 ?_ (by omega)
  · have : -((100 : Nat) : Rat) ≤ 0 := by
      have := Rat.natCast_nonneg (a := 100)
      grind
    exact Rat.le_trans this h0
  · have : 100 * 6 ^ t ≤ 100 * 2 ^ 60 := Nat.mul_le_mul_left _ (by omega)
    omega
theorem one_le : (1 : Rat) ≤ ((100 : Nat) : Rat) := by
  have : ((1 : Nat) : Rat) ≤ ((100 : Nat) : Rat) := Rat.natCast_le_natCast.mpr (by decide)
  exact_mod_cast this
theorem Pt.get {t : Nat} {K : Lv} (P : Pt t K) (ht : t ≤ 20) (s : Wm) : SmQ ((lookS K s).getD 0) := by
  unfold lookS
  cases h : K.find? fun e => decide (e.1 = s) with
  | none => exact SmQ.nat (n := 0) (Nat.two_pow_pos _)
  | some e =>
    have he := List.mem_of_find?_eq_some h
    show SmQ e.2
    exact smq ht (P.inn e he) (P.pos e he) (Rat.le_trans ((ws_le P.pos).2 e he) (Rat.le_trans P.le one_le))
theorem Pt.add {t : Nat} {K : Lv} (P : Pt t K) {s : Wm} {q : Rat} (hq : Qa.In (6 ^ t) q) (h0 : 0 ≤ q) (h1 : ws (fun _ => 1) K + q ≤ 1) : Pt t (addS K s q) := by
  refine ⟨addS_all (P := fun _ v => 0 ≤ v) h0 (fun v hv => by grind) P.pos, addS_all (P := fun _ v => Qa.In (6 ^ t) v) hq (fun v hv => hv.add hq) P.inn, ?_, (addS_keys P.keys).1⟩
  rw [ws_add]
  grind
theorem addS_len {s : Wm} {q : Rat} : ∀ {K : Lv}, (addS K s q).length ≤ K.length + 1
  | [] => by simp [addS]
  | (t, v) :: K => by
    unfold addS
    split
    · simp
    · have := addS_len (s := s) (q := q) (K := K)
      simp only [List.length_cons]
      omega
theorem addW_len {q : Rat} : ∀ {ss : List Wm} {K : Lv}, (addW q ss K).length ≤ K.length + ss.length
  | [], K => by simp [addW]
  | s :: ss, K => by
    show (addW q ss (addS K s q)).length ≤ _
    have := addW_len (q := q) (ss := ss) (K := addS K s q)
    have := addS_len (s := s) (q := q) (K := K)
    simp only [List.length_cons]
    omega
theorem addW_app {q : Rat} {ss : List Wm} {s : Wm} {K : Lv} : addW q (ss ++ [s]) K = addS (addW q ss K) s q := by
  unfold addW
  rw [List.foldl_append]
  rfl
/-- adding along the ways -/
theorem Pt.addW {t : Nat} {K : Lv} (P : Pt t K) {q : Rat} (hq : Qa.In (6 ^ t) q) (h0 : 0 ≤ q) : ∀ {ss : List Wm}, ws (fun _ => 1) K + q * ((ss.length : Nat) : Rat) ≤ 1 → Pt t (Mk.addW q ss K) := by
  intro ss
  induction ss generalizing K with
  | nil => exact fun _ => P
  | cons s ss ih =>
    intro h
    rw [List.length_cons] at h
    push_cast at h
    have hm : 0 ≤ q * ((ss.length : Nat) : Rat) := Rat.mul_nonneg h0 Rat.natCast_nonneg
    refine ih (K := addS K s q) (P.add hq h0 (by grind)) ?_
    rw [ws_add]
    grind
theorem encQ0 : PyData.tuple [.int 0, .int 1] = encQ 0 := rfl
theorem encQ1 : PyData.tuple [.int 1, .int 1] = encQ 1 := rfl
/-! the store of a level -/
section
variable {b : M} {L K : Lv} {lk : Bool} {s : Wm} {q : Rat}
abbrev two (b : M) (L K : Lv) : M := b ++ [.dct true true (kS L), .dct true false (kS K)]
theorem get_two : pDGet2 (.ref (b.length + 1)) (.val (encS s)) (.val (encQ 0)) (two b L K) = some (.val (encQ ((lookS K s).getD 0)), two b L K) := by
  unfold pDGet2
  simp only [g1, ob_some, keyOk_S, if_true, look_S]
  cases lookS K s <;> rfl
theorem isd_two : isDct (.ref (b.length + 1)) (two b L K) = true := by
  unfold isDct
  simp only [g1]
theorem kS_len : (kS K).length = K.length := by unfold kS; rw [List.length_map]
theorem set_two (hk : (K.map (·.1)).Nodup) (hl : K.length < 16777216) : pDSet (.ref (b.length + 1)) (.val (encS s)) (.val (encQ ((lookS K s).getD 0 + q))) (two b L K) = some (two b L (addS K s q)) := by
  unfold pDSet
  have : (kS K).length < sizeLine := by rw [kS_len, sz]; exact hl
  simp only [g1, ob_some, keyOk_S, this, and_self, if_true, put_S hk, s1]
theorem frac1 {n : Nat} {m : M} (h : n ≠ 0) (h2 : n ≤ 3) : m_fraction [.val (.int 1), .val (.int (n : Int))] m = some (.val (encQ (1 / ((n : Nat) : Rat))), m) := by
  have := fraction_ok (m := m) (n := 1) (d := (n : Int)) (by omega) (by unfold Sz; have : (2 : Nat) ^ 2 ≤ 2 ^ 4000 := Nat.pow_le_pow_right (by decide) (by decide); omega)
  rw [this]
  push_cast
  rfl
theorem smq_inv {n : Nat} (h : n ≠ 0) (h2 : n ≤ 3) : SmQ (1 / ((n : Nat) : Rat)) := by
  have h1 := share_in (t := 0) (q := 1) (Qa.In.nat 1) h h2
  have h3 := share_nn (q := 1) h (by decide)
  have h4 := share h (1 : Rat)
  have hn : (1 : Rat) ≤ ((n : Nat) : Rat) := by
    have : ((1 : Nat) : Rat) ≤ ((n : Nat) : Rat) := Rat.natCast_le_natCast.mpr (by omega)
    exact_mod_cast this
  have e : (1 : Rat) * (1 / ((n : Nat) : Rat)) = 1 / ((n : Nat) : Rat) := by grind
  rw [e] at h1 h3 h4
  refine smq (by decide) h1 h3 ?_
  generalize 1 / ((n : Nat) : Rat) = u at *
  generalize ((n : Nat) : Rat) = k at *
  have h5 := Rat.mul_le_mul_of_nonneg_left hn h3
  have h6 := one_le
  grind
end
/-- the ways of one entry, in mean_brings -/
theorem ways_in {b : M} {L K : Lv} {ss : List Wm} {ch : Rat} {t : Nat} {e0 e1 e2 e3 e4 e6 e7 e10 e11 e12 : Option R} (ht : t ≤ 19) (P : Pt (t + 1) K) (hn : ss.length ≠ 0) (h3 : ss.length ≤ 3) (hc : Qa.In (6 ^ t) ch) (h0 : 0 ≤ ch) (h1 : ws (fun _ => 1) K + ch ≤ 1) (hl : K.length + 3 < 16777216) :
    ∃ f11 f12, loopL (gNm 11) l_mean_brings1 (ss.map encS) [e0, e1, e2, e3, e4, some (.ref (b.length + 1)), e6, e7, some (.val (encQ ch)), some (.val (.list (ss.map encS))), e10, e11, e12] (two b L K) =
      some (.nx [e0, e1, e2, e3, e4, some (.ref (b.length + 1)), e6, e7, some (.val (encQ ch)), some (.val (.list (ss.map encS))), e10, f11, f12] (two b L (addW (ch * (1 / ((ss.length : Nat) : Rat))) ss K))) := by
  have hch : SmQ ch := smq (t := t) (by omega) hc h0 (by have := (ws_le P.pos).1; have := one_le; grind)
  have hq := share_in hc hn h3
  have q0 := share_nn hn h0
  have qs := share hn ch
  generalize hqq : ch * (1 / ((ss.length : Nat) : Rat)) = q at *
  obtain ⟨e', mm, h, f11, f12, rfl, rfl⟩ := loop_inv (gf := gNm 11) (sf := l_mean_brings1) encS (fun j env mm => ∃ f11 f12, env = [e0, e1, e2, e3, e4, some (.ref (b.length + 1)), e6, e7, some (.val (encQ ch)), some (.val (.list (ss.map encS))), e10, f11, f12] ∧ mm = two b L (addW q (ss.take j) K)) ss
    [e0, e1, e2, e3, e4, some (.ref (b.length + 1)), e6, e7, some (.val (encQ ch)), some (.val (.list (ss.map encS))), e10, e11, e12] (two b L K) ⟨e11, e12, rfl, rfl⟩ fun j s hj env mm ⟨f11, f12, he, hm⟩ => by
    subst he hm
    have hjl : j < ss.length := (List.getElem?_eq_some_iff.mp hj).1
    have ha : ss.take (j + 1) = ss.take j ++ [s] := by rw [List.take_add_one, hj]; rfl
    have hlj : (ss.take j).length = j := by rw [List.length_take]; omega
    have jl : ((j : Nat) : Rat) ≤ ((ss.length : Nat) : Rat) := Rat.natCast_le_natCast.mpr (by omega)
    have Pj : Pt (t + 1) (addW q (ss.take j) K) := P.addW hq q0 (by
      rw [hlj]
      have := Rat.mul_le_mul_of_nonneg_left jl q0
      grind)
    have kl : (addW q (ss.take j) K).length < 16777216 := by
      have := addW_len (q := q) (ss := ss.take j) (K := K)
      omega
    have sg := Pj.get (by omega) s
    have sq : SmQ q := smq (t := t + 1) (by omega) hq q0 (by
      have h5 : (1 : Rat) ≤ ((ss.length : Nat) : Rat) := by
        have : ((1 : Nat) : Rat) ≤ ((ss.length : Nat) : Rat) := Rat.natCast_le_natCast.mpr (by omega)
        exact_mod_cast this
      have := Rat.mul_le_mul_of_nonneg_left h5 q0
      have := (ws_le P.pos).1
      have := one_le
      grind)
    generalize hK : addW q (ss.take j) K = Kj at *
    have fr := frac1 (n := ss.length) (m := two b L Kj) hn h3
    have ti := times_ok (m := two b L Kj) hch (smq_inv hn h3)
    rw [hqq] at ti
    have gt := get_two (b := b) (L := L) (K := Kj) (s := s)
    have id := isd_two (b := b) (L := L) (K := Kj)
    have pl := plus_ok (m := two b L Kj) sg sq
    have st := set_two (b := b) (L := L) (K := Kj) (s := s) (q := q) Pj.keys kl
    refine ⟨[e0, e1, e2, e3, e4, some (.ref (b.length + 1)), e6, e7, some (.val (encQ ch)), some (.val (.list (ss.map encS))), e10, some (.val (encS s)), f12], two b L Kj,
      [e0, e1, e2, e3, e4, some (.ref (b.length + 1)), e6, e7, some (.val (encQ ch)), some (.val (.list (ss.map encS))), e10, some (.val (encS s)), some (.val (encQ q))], two b L (addS Kj s q), rfl, ?_, ⟨_, _, rfl, ?_⟩⟩
    · simp only [l_mean_brings1, ev_seq, ev_asg, ev_par, ev_if, ev_ret, ev_retN, ev_expr, ev_bin, ev_un, ev_ap, ev_cons, ev_nil, ev_varS, ev_var0, ev_c, ob_some, ev_gNm, ev_tOf, ev_asB, ev_asI, ev_tNot, ev_tAnd, ev_tOr, ev_eOf, ev_eIf, ev_chain, List.set_cons_succ, List.set_cons_zero, ev_then_nx, ev_then_rt, ev_next, ev_pTup, ev_valsC, ev_vals0, ev_eL, ev_bm, ev_aug, pix_t, pix_l, pixq0, pixq1, atI_0, atI_1, atI_2, pp_ii, ps_ii, pa_ii, plt_ii, ple_ii, pgt_ii, pge_ii, peq_ii, pne_ii, pneg_i, List.length_cons, List.length_nil, Nat.reduceAdd, Nat.reduceSub, Nat.reduceLeDiff, sz, if_true, Bool.false_eq_true, if_false, Bool.not_true, Bool.not_false, leave_v, List.take_length, plen_t, plen_l, ptup_l, ptup_t, pint_i, pis_n, pis_i, pis_t, pisnt_n, pisnt_i, pisnt_t, Int.cast_ofNat_Int, ne_eq, not_true_eq_false, not_false_eq_true, decide_true, decide_false, List.length_map, fr, ti, eDGet2, id, encQ0, gt, pl, ev_sub, st]
    · rw [ha, addW_app, hK]
  rw [List.take_length] at h
  exact ⟨f11, f12, h⟩
end L38

set_option Elab.async false
set_option linter.all false
set_option maxRecDepth 100000
set_option maxHeartbeats 0
namespace L38
open PySem PySem.Spec PyProof.Rows L2 Ev Mk
theorem ws_app (f : Wm → Rat) : ∀ (a b : Lv), ws f (a ++ b) = ws f a + ws f b
  | [], b => by simp only [List.nil_append, ws]; grind
  | e :: a, b => by
    simp only [List.cons_append, ws, ws_app f a b]
    grind
theorem folds_len {c x : Nat} : ∀ {L : Lv} {a : Rat × Lv}, (∀ e ∈ L, (ways c x e.1).1.length ≤ 3) → (L.foldl (stE c x) a).2.length ≤ a.2.length + 3 * L.length
  | [], a, _ => by simp
  | e :: L, a, h => by
    rw [List.foldl_cons]
    have h1 := folds_len (L := L) (a := stE c x a e) fun e he => h e (List.mem_cons_of_mem _ he)
    have h2 := h e List.mem_cons_self
    have h3 : (stE c x a e).2.length ≤ a.2.length + (ways c x e.1).1.length := addW_len
    rw [List.length_cons]
    omega
section
variable {c t x : Nat} {M : List Nat} {tot : Rat} {L : Lv}
structure At (c t x : Nat) (tot : Rat) (L : Lv) (j : Nat) (e : Wm × Rat) (a : Rat × Lv) : Prop where
  pt : Pt (t + 1) a.2
  one : ws (fun _ => 1) a.2 + e.2 ≤ 1
  len : a.2.length ≤ 3 * j
  sm : SmQ a.1
  ch : SmQ e.2
theorem acc_ok (hc : 1 ≤ c) (hc3 : c ≤ 3) (ht : t ≤ 18) (I : LInv c t M tot L) {j : Nat} {e : Wm × Rat} (hj : L[j]? = some e) : At c t x tot L j e ((L.take j).foldl (stE c x) (tot, [])) := by
  have hm : e ∈ L := List.mem_of_getElem? hj
  have sub : ∀ y ∈ L.take j, y ∈ L := fun y hy => List.mem_of_mem_take hy
  have wo := fun (e : Wm × Rat) (he : e ∈ L) => ways_ok (x := x) hc (I.ok e he) I.nd I.so
  have hn := fun (e : Wm × Rat) (he : e ∈ L) => (wo e he).1
  have hl0 := fun (e : Wm × Rat) (he : e ∈ L) => (fun z => hn e he (List.eq_nil_of_length_eq_zero z) : (ways c x e.1).1.length ≠ 0)
  have one := folds_one (c := c) (x := x) (L := L.take j) (a := (tot, [])) fun e he => hn e (sub e he)
  have up := folds_up (c := c) (x := x) (L := L.take j) (a := (tot, [])) fun e he => I.pos e (sub e he)
  have e0 : ws (fun _ => (1 : Rat)) [] = 0 := rfl
  simp only [e0] at one
  have sp : ws (fun _ => (1 : Rat)) (L.take j) + e.2 + ws (fun _ => 1) (L.drop (j + 1)) = 1 := by
    have h1 : L.take (j + 1) = L.take j ++ [e] := by rw [List.take_add_one, hj]; rfl
    have h2 : L = L.take j ++ [e] ++ L.drop (j + 1) := by rw [← h1, List.take_append_drop]
    have h3 := I.one
    rw [h2, ws_app, ws_app] at h3
    have h4 : ws (fun _ => (1 : Rat)) [e] = e.2 := by simp only [ws]; grind
    rw [h4] at h3
    exact h3
  have dn := (ws_le (L := L.drop (j + 1)) fun e he => I.pos e (List.mem_of_mem_drop he)).1
  have tn := (ws_le (L := L.take j) fun e he => I.pos e (sub e he)).1
  have ep := I.pos e hm
  have eb : e.2 ≤ ((100 : Nat) : Rat) := by have := one_le; grind
  refine ⟨⟨?_, ?_, ?_, folds_keys (by simp)⟩, ?_, ?_, ?_, smq (by omega) (I.inn e hm) ep eb⟩
  · exact folds_all (P := fun _ v => 0 ≤ v) (fun e he s hs => ⟨share_nn (hl0 e (sub e he)) (I.pos e (sub e he)), fun v hv => by have := share_nn (hl0 e (sub e he)) (I.pos e (sub e he)); grind⟩) (fun e he => by cases he)
  · exact folds_all (P := fun _ v => Qa.In (6 ^ (t + 1)) v) (fun e he s hs => by
      have := share_in (I.inn e (sub e he)) (hl0 e (sub e he)) (Nat.le_trans (wo e (sub e he)).2.1 hc3)
      exact ⟨this, fun v hv => hv.add this⟩) (fun e he => by cases he)
  · rw [one]; grind
  · rw [one]; grind
  · have := folds_len (c := c) (x := x) (L := L.take j) (a := (tot, [])) fun e he => Nat.le_trans (wo e (sub e he)).2.1 hc3
    have h2 := List.length_take_le j L
    simp only [List.length_nil] at this
    omega
  · refine smq (t := t) (by omega) (folds_tin (fun e he => I.inn e (sub e he)) I.tin) (Rat.le_trans I.t0 up.2) ?_
    have h1 := up.1
    simp only at h1
    have h2 := I.tt
    have h3 : ((t : Nat) : Rat) + 1 ≤ ((100 : Nat) : Rat) := by
      have : ((t + 1 : Nat) : Rat) ≤ ((100 : Nat) : Rat) := Rat.natCast_le_natCast.mpr (by omega)
      push_cast at this
      exact_mod_cast this
    grind
end
def encE2 (e : Wm × Rat) : D := .tuple [encS e.1, encQ e.2]
theorem items_S {L : Lv} : (kS L).map Ev.pairD = L.map encE2 := by
  unfold kS
  rw [List.map_map]
  rfl
/-- one call's entries, in mean_brings -/
theorem entries_in {b : M} {c t x : Nat} {M : List Nat} {tot : Rat} {L : Lv} {e1 e6 e7 e8 e9 e10 e11 e12 : Option R} (hc : 1 ≤ c) (hc3 : c ≤ 3) (ht : t ≤ 18) (hL : L.length ≤ 1000000) (I : LInv c t M tot L) :
    ∃ f6 f7 f8 f9 f10 f11 f12, loopL (gP (.tp (.cons (.tp (.cons (.nm 6) (.cons (.nm 7) .nil))) (.cons (.nm 8) .nil)))) l_mean_brings2 (L.map encE2) [some (.val (.int (c : Int))), e1, some (.ref b.length), some (.val (encQ tot)), some (.val (.int (x : Int))), some (.ref (b.length + 1)), e6, e7, e8, e9, e10, e11, e12] (two b L []) =
      some (.nx [some (.val (.int (c : Int))), e1, some (.ref b.length), some (.val (encQ (stL c (tot, L) x).1)), some (.val (.int (x : Int))), some (.ref (b.length + 1)), f6, f7, f8, f9, f10, f11, f12] (two b L (stL c (tot, L) x).2)) := by
  obtain ⟨e', mm, h, f6, f7, f8, f9, f10, f11, f12, rfl, rfl⟩ := loop_inv (gf := gP (.tp (.cons (.tp (.cons (.nm 6) (.cons (.nm 7) .nil))) (.cons (.nm 8) .nil)))) (sf := l_mean_brings2) encE2
    (fun j env mm => ∃ f6 f7 f8 f9 f10 f11 f12, env = [some (.val (.int (c : Int))), e1, some (.ref b.length), some (.val (encQ ((L.take j).foldl (stE c x) (tot, [])).1)), some (.val (.int (x : Int))), some (.ref (b.length + 1)), f6, f7, f8, f9, f10, f11, f12] ∧ mm = two b L ((L.take j).foldl (stE c x) (tot, [])).2) L
    [some (.val (.int (c : Int))), e1, some (.ref b.length), some (.val (encQ tot)), some (.val (.int (x : Int))), some (.ref (b.length + 1)), e6, e7, e8, e9, e10, e11, e12] (two b L []) ⟨e6, e7, e8, e9, e10, e11, e12, rfl, rfl⟩ fun j e hj env mm ⟨f6, f7, f8, f9, f10, f11, f12, he, hm⟩ => by
    subst he hm
    have A := acc_ok (x := x) hc hc3 ht I hj
    have hm : e ∈ L := List.mem_of_getElem? hj
    obtain ⟨w1, w2, w3, w4⟩ := ways_ok (x := x) hc (I.ok e hm) I.nd I.so
    have hjl : j < L.length := (List.getElem?_eq_some_iff.mp hj).1
    have ha : L.take (j + 1) = L.take j ++ [e] := by rw [List.take_add_one, hj]; rfl
    have hs : (L.take (j + 1)).foldl (stE c x) (tot, []) = stE c x ((L.take j).foldl (stE c x) (tot, [])) e := by rw [ha, List.foldl_append]; rfl
    rw [hs]
    generalize (L.take j).foldl (stE c x) (tot, []) = a at A ⊢
    obtain ⟨ta, K⟩ := a
    obtain ⟨a1, a2, a3, a4, a5⟩ := A
    simp only at a1 a2 a3 a4
    have O := I.ok e hm
    obtain ⟨s, ch⟩ := e
    simp only at w1 w2 w3 a2 a5 O
    have af := after_ok (m := two b L K) (c := c) (x := x) (s := s) (by have := O.le; omega) (by rw [O.mks]; have := I.le; omega) (by rw [O.mks]; exact I.nd)
    obtain ⟨f11', f12', lp⟩ := ways_in (b := b) (L := L) (K := K) (ss := (ways c x s).1) (ch := ch) (t := t) (e0 := some (.val (.int (c : Int)))) (e1 := e1) (e2 := some (.ref b.length)) (e3 := some (.val (encQ (stE c x (ta, K) (s, ch)).1))) (e4 := some (.val (.int (x : Int)))) (e6 := some (.val (encT s.1))) (e7 := some (.val (encT s.2))) (e10 := some (.val (.bool (ways c x s).2))) (e11 := f11) (e12 := f12)
      (by omega) a1 (fun z => w1 (List.eq_nil_of_length_eq_zero z)) (by omega) (I.inn _ hm) (I.pos _ hm) a2 (by omega)
    have pl := plus_ok (m := two b L K) a4 a5
    refine ⟨[some (.val (.int (c : Int))), e1, some (.ref b.length), some (.val (encQ ta)), some (.val (.int (x : Int))), some (.ref (b.length + 1)), some (.val (encT s.1)), some (.val (encT s.2)), some (.val (encQ ch)), f9, f10, f11, f12], two b L K, _, _, rfl, ?_,
      ⟨some (.val (encT s.1)), some (.val (encT s.2)), some (.val (encQ ch)), some (.val (.list ((ways c x s).1.map encS))), some (.val (.bool (ways c x s).2)), f11', f12', rfl, rfl⟩⟩
    have tt : eIf (tOf (eVar 10)) (eAp m_plus (aCons (eVar 3) (aCons (eVar 8) aNil))) (eVar 3) [some (.val (.int (c : Int))), e1, some (.ref b.length), some (.val (encQ ta)), some (.val (.int (x : Int))), some (.ref (b.length + 1)), some (.val (encT s.1)), some (.val (encT s.2)), some (.val (encQ ch)), some (.val (.list ((ways c x s).1.map encS))), some (.val (.bool (ways c x s).2)), f11, f12] (two b L K) =
        some (.val (encQ (stE c x (ta, K) (s, ch)).1), two b L K) := by
      unfold stE
      simp only [ev_asg, ev_par, ev_if, ev_ret, ev_retN, ev_expr, ev_bin, ev_un, ev_ap, ev_cons, ev_nil, ev_varS, ev_var0, ev_c, ob_some, ev_gNm, ev_tOf, ev_asB, ev_asI, ev_tNot, ev_tAnd, ev_tOr, ev_eOf, ev_eIf, ev_chain, List.set_cons_succ, List.set_cons_zero, ev_then_nx, ev_then_rt, ev_next, ev_pTup, ev_valsC, ev_vals0, ev_eL, ev_bm, ev_aug, pix_t, pix_l, pixq0, pixq1, atI_0, atI_1, atI_2, pp_ii, ps_ii, pa_ii, plt_ii, ple_ii, pgt_ii, pge_ii, peq_ii, pne_ii, pneg_i, List.length_cons, List.length_nil, Nat.reduceAdd, Nat.reduceSub, Nat.reduceLeDiff, sz, if_true, Bool.false_eq_true, if_false, Bool.not_true, Bool.not_false, leave_v, List.take_length, plen_t, plen_l, ptup_l, ptup_t, pint_i, pis_n, pis_i, pis_t, pisnt_n, pisnt_i, pisnt_t, Int.cast_ofNat_Int, ne_eq, not_true_eq_false, not_false_eq_true, decide_true, decide_false]
      cases (ways c x s).2
      · simp only [ev_asg, ev_par, ev_if, ev_ret, ev_retN, ev_expr, ev_bin, ev_un, ev_ap, ev_cons, ev_nil, ev_varS, ev_var0, ev_c, ob_some, ev_gNm, ev_tOf, ev_asB, ev_asI, ev_tNot, ev_tAnd, ev_tOr, ev_eOf, ev_eIf, ev_chain, List.set_cons_succ, List.set_cons_zero, ev_then_nx, ev_then_rt, ev_next, ev_pTup, ev_valsC, ev_vals0, ev_eL, ev_bm, ev_aug, pix_t, pix_l, pixq0, pixq1, atI_0, atI_1, atI_2, pp_ii, ps_ii, pa_ii, plt_ii, ple_ii, pgt_ii, pge_ii, peq_ii, pne_ii, pneg_i, List.length_cons, List.length_nil, Nat.reduceAdd, Nat.reduceSub, Nat.reduceLeDiff, sz, if_true, Bool.false_eq_true, if_false, Bool.not_true, Bool.not_false, leave_v, List.take_length, plen_t, plen_l, ptup_l, ptup_t, pint_i, pis_n, pis_i, pis_t, pisnt_n, pisnt_i, pisnt_t, Int.cast_ofNat_Int, ne_eq, not_true_eq_false, not_false_eq_true, decide_true, decide_false]
      · simp only [ev_asg, ev_par, ev_if, ev_ret, ev_retN, ev_expr, ev_bin, ev_un, ev_ap, ev_cons, ev_nil, ev_varS, ev_var0, ev_c, ob_some, ev_gNm, ev_tOf, ev_asB, ev_asI, ev_tNot, ev_tAnd, ev_tOr, ev_eOf, ev_eIf, ev_chain, List.set_cons_succ, List.set_cons_zero, ev_then_nx, ev_then_rt, ev_next, ev_pTup, ev_valsC, ev_vals0, ev_eL, ev_bm, ev_aug, pix_t, pix_l, pixq0, pixq1, atI_0, atI_1, atI_2, pp_ii, ps_ii, pa_ii, plt_ii, ple_ii, pgt_ii, pge_ii, peq_ii, pne_ii, pneg_i, List.length_cons, List.length_nil, Nat.reduceAdd, Nat.reduceSub, Nat.reduceLeDiff, sz, if_true, Bool.false_eq_true, if_false, Bool.not_true, Bool.not_false, leave_v, List.take_length, plen_t, plen_l, ptup_l, ptup_t, pint_i, pis_n, pis_i, pis_t, pisnt_n, pisnt_i, pisnt_t, Int.cast_ofNat_Int, ne_eq, not_true_eq_false, not_false_eq_true, decide_true, decide_false, pl]
    simp only [l_mean_brings2, ev_seq, ev_asg, ev_par, ev_if, ev_ret, ev_retN, ev_expr, ev_bin, ev_un, ev_ap, ev_cons, ev_nil, ev_varS, ev_var0, ev_c, ob_some, ev_gNm, ev_tOf, ev_asB, ev_asI, ev_tNot, ev_tAnd, ev_tOr, ev_eOf, ev_chain, List.set_cons_succ, List.set_cons_zero, ev_then_nx, ev_then_rt, ev_next, ev_pTup, ev_valsC, ev_vals0, ev_eL, ev_bm, ev_aug, pix_t, pix_l, pixq0, pixq1, atI_0, atI_1, atI_2, pp_ii, ps_ii, pa_ii, plt_ii, ple_ii, pgt_ii, pge_ii, peq_ii, pne_ii, pneg_i, List.length_cons, List.length_nil, Nat.reduceAdd, Nat.reduceSub, Nat.reduceLeDiff, sz, if_true, Bool.false_eq_true, if_false, Bool.not_true, Bool.not_false, leave_v, List.take_length, plen_t, plen_l, ptup_l, ptup_t, pint_i, pis_n, pis_i, pis_t, pisnt_n, pisnt_i, pisnt_t, Int.cast_ofNat_Int, ne_eq, not_true_eq_false, not_false_eq_true, decide_true, decide_false, af, ev_gTp, ev_gsC, ev_gsN, List.map_cons, List.map_nil, tt, ev_for, it_an, an1_l, run_iL, lp]
    rfl
  rw [List.take_length] at h
  exact ⟨f6, f7, f8, f9, f10, f11, f12, h⟩
end L38

set_option Elab.async false
set_option linter.all false
set_option maxRecDepth 100000
set_option maxHeartbeats 0
namespace L38
open PySem PySem.Spec PyProof.Rows L2 Ev Mk
def start : Lv := [(([], []), 1)]
theorem run_go {c : Nat} (hc : 1 ≤ c) (hc3 : c ≤ 3) : ∀ (rest : List Nat) {t : Nat} {M : List Nat} {a : Rat × Lv}, LInv c t M a.1 a.2 → a.2.length ≤ 3 ^ t →
    ∃ M', LInv c (t + rest.length) M' (rest.foldl (stL c) a).1 (rest.foldl (stL c) a).2 ∧ (rest.foldl (stL c) a).2.length ≤ 3 ^ (t + rest.length)
  | [], t, M, a, I, hl => ⟨M, I, hl⟩
  | x :: r, t, M, a, I, hl => by
    have I2 := I.step (x := x) hc hc3
    have l2 := folds_len (c := c) (x := x) (L := a.2) (a := (a.1, [])) fun e he => Nat.le_trans (ways_ok (x := x) hc (I.ok e he) I.nd I.so).2.1 hc3
    have l3 : (stL c a x).2.length ≤ 3 ^ (t + 1) := by
      rw [Nat.pow_succ]
      have : (stL c a x).2.length ≤ 0 + 3 * a.2.length := l2
      omega
    obtain ⟨M', h1, h2⟩ := run_go hc hc3 r (a := stL c a x) I2 l3
    rw [List.foldl_cons, List.length_cons, show t + (r.length + 1) = t + 1 + r.length by omega]
    exact ⟨M', h1, h2⟩
theorem run_inv {c : Nat} (hc : 1 ≤ c) (hc3 : c ≤ 3) (calls : List Nat) : ∃ M, LInv c calls.length M (calls.foldl (stL c) (0, start)).1 (calls.foldl (stL c) (0, start)).2 ∧ (calls.foldl (stL c) (0, start)).2.length ≤ 3 ^ calls.length := by
  have := run_go hc hc3 calls (a := (0, start)) LInv.start (by show 1 ≤ 3 ^ 0; decide)
  rw [Nat.zero_add] at this
  exact this
theorem pow12 {n : Nat} (h : n ≤ 12) : 3 ^ n ≤ 1000000 := Nat.le_trans (Nat.pow_le_pow_right (by decide) h) (by decide)
section
variable {m : M} {c : Nat} {calls : List Nat}
theorem check_ok (hc : 1 ≤ c) (hc3 : c ≤ 3) (hl : calls.length ≤ 12) (hp : ∀ x ∈ calls, x ≤ 9) : m_check_calls [.val (.int (c : Int)), .val (encT calls)] m = some (.val .none, m) := by
  have cm : nComp (itAny (eVar 1)) (.nm 2) [2] tTrue e_check_calls1 [some (.val (.int (c : Int))), some (.val (encT calls)), none] m = some (calls.map fun _ => PyData.bool true, m) :=
    comp_all nI (fun _ => .bool true) calls rfl (by omega) fun a ha => ⟨[some (.val (.int (c : Int))), some (.val (encT calls)), some (.val (.int (a : Int)))], rfl, by
      have h1 := hp a ha
      have h2 : (0 : Int) ≤ (a : Int) ∧ (a : Int) ≤ 9 := by omega
      simp only [e_check_calls1, ev_asg, ev_par, ev_if, ev_ret, ev_retN, ev_expr, ev_bin, ev_un, ev_ap, ev_cons, ev_nil, ev_varS, ev_var0, ev_c, ob_some, ev_gNm, ev_tOf, ev_asB, ev_asI, ev_tNot, ev_tAnd, ev_tOr, ev_eOf, ev_eIf, ev_chain, List.set_cons_succ, List.set_cons_zero, ev_then_nx, ev_then_rt, ev_next, ev_pTup, ev_valsC, ev_vals0, ev_eL, ev_bm, ev_aug, pix_t, pix_l, pixq0, pixq1, atI_0, atI_1, atI_2, pp_ii, ps_ii, pa_ii, plt_ii, ple_ii, pgt_ii, pge_ii, peq_ii, pne_ii, pneg_i, List.length_cons, List.length_nil, Nat.reduceAdd, Nat.reduceSub, Nat.reduceLeDiff, sz, if_true, Bool.false_eq_true, if_false, Bool.not_true, Bool.not_false, leave_v, List.take_length, plen_t, plen_l, ptup_l, ptup_t, pint_i, pis_n, pis_i, pis_t, pisnt_n, pisnt_i, pisnt_t, Int.cast_ofNat_Int, ne_eq, not_true_eq_false, not_false_eq_true, decide_true, decide_false, is_bet_i, h2, and_self, decide_true]⟩
  have p := pall_l (m := m) calls fun _ => true
  have q : (calls.all fun _ => true) = true := List.all_eq_true.mpr fun _ _ => rfl
  have h1 : (1 : Int) ≤ (c : Int) ∧ (c : Int) ≤ 6 := by omega
  have h2 : ¬ ((30 : Int) < ((calls.length : Nat) : Int)) := by omega
  have it : isA .tuple (.val (encT calls)) = true := rfl
  simp only [m_check_calls, bodyF, List.length_cons, List.length_nil, Nat.reduceAdd, Nat.reduceSub, List.map_cons, List.map_nil, List.replicate, List.cons_append, List.nil_append, List.append_nil, b_check_calls, ev_seq, ev_asg, ev_par, ev_if, ev_ret, ev_retN, ev_expr, ev_bin, ev_un, ev_ap, ev_cons, ev_nil, ev_varS, ev_var0, ev_c, ob_some, ev_gNm, ev_tOf, ev_asB, ev_asI, ev_tNot, ev_tAnd, ev_tOr, ev_eOf, ev_eIf, ev_chain, List.set_cons_succ, List.set_cons_zero, ev_then_nx, ev_then_rt, ev_next, ev_pTup, ev_valsC, ev_vals0, ev_eL, ev_bm, ev_aug, pix_t, pix_l, pixq0, pixq1, atI_0, atI_1, atI_2, pp_ii, ps_ii, pa_ii, plt_ii, ple_ii, pgt_ii, pge_ii, peq_ii, pne_ii, pneg_i, List.length_cons, List.length_nil, Nat.reduceAdd, Nat.reduceSub, Nat.reduceLeDiff, sz, if_true, Bool.false_eq_true, if_false, Bool.not_true, Bool.not_false, leave_v, List.take_length, plen_t, plen_l, ptup_l, ptup_t, pint_i, pis_n, pis_i, pis_t, pisnt_n, pisnt_i, pisnt_t, Int.cast_ofNat_Int, ne_eq, not_true_eq_false, not_false_eq_true, decide_true, decide_false, is_bet_i, h1, and_self, cm, p, q, plen_T, h2, ev_isA, it]
theorem unl {b : M} {L K : Lv} : unlockM b.length (two b L K) = some (b ++ [.dct true false (kS L), .dct true false (kS K)]) := by
  unfold unlockM
  simp only [g0, s0]
/-- one call, in mean_brings -/
theorem call_in {b : M} {t x : Nat} {M : List Nat} {tot : Rat} {L : Lv} {e1 e5 e6 e7 e8 e9 e10 e11 e12 : Option R} (hc : 1 ≤ c) (hc3 : c ≤ 3) (ht : t ≤ 18) (hL : L.length ≤ 1000000) (I : LInv c t M tot L) :
    ∃ f5 f6 f7 f8 f9 f10 f11 f12, l_mean_brings3 [some (.val (.int (c : Int))), e1, some (.ref b.length), some (.val (encQ tot)), some (.val (.int (x : Int))), e5, e6, e7, e8, e9, e10, e11, e12] (b ++ [.dct true false (kS L)]) =
      some (.nx [some (.val (.int (c : Int))), e1, some (.ref (b ++ [Ob.dct true false (kS L)]).length), some (.val (encQ (stL c (tot, L) x).1)), some (.val (.int (x : Int))), f5, f6, f7, f8, f9, f10, f11, f12] ((b ++ [Ob.dct true false (kS L)]) ++ [.dct true false (kS (stL c (tot, L) x).2)])) := by
  obtain ⟨f6, f7, f8, f9, f10, f11, f12, h⟩ := entries_in (b := b) (e1 := e1) (e6 := e6) (e7 := e7) (e8 := e8) (e9 := e9) (e10 := e10) (e11 := e11) (e12 := e12) (x := x) hc hc3 ht hL I
  refine ⟨some (.ref (b.length + 1)), f6, f7, f8, f9, f10, f11, f12, ?_⟩
  have ln : (b ++ [Ob.dct true false (kS L)]).length = b.length + 1 := l1
  have gb : (b ++ [Ob.dct true false (kS L)] ++ [Ob.dct true false []])[b.length]? = some (.dct true false (kS L)) := by rw [List.append_assoc]; exact g0
  have sb : (b ++ [Ob.dct true false (kS L)] ++ [Ob.dct true false []]).set b.length (.dct true true (kS L)) = two b L [] := by rw [List.append_assoc]; exact s0
  have gt : (two b L [])[b.length]? = some (.dct true true (kS L)) := g0
  have lk : sLockF 2 (sFor (itItems (eVar 2)) (gP (.tp (.cons (.tp (.cons (.nm 6) (.cons (.nm 7) .nil))) (.cons (.nm 8) .nil)))) l_mean_brings2) [some (.val (.int (c : Int))), e1, some (.ref b.length), some (.val (encQ tot)), some (.val (.int (x : Int))), some (.ref (b.length + 1)), e6, e7, e8, e9, e10, e11, e12] (b ++ [Ob.dct true false (kS L)] ++ [Ob.dct true false []]) =
      some (.nx [some (.val (.int (c : Int))), e1, some (.ref b.length), some (.val (encQ (stL c (tot, L) x).1)), some (.val (.int (x : Int))), some (.ref (b.length + 1)), f6, f7, f8, f9, f10, f11, f12] (b ++ [.dct true false (kS L), .dct true false (kS (stL c (tot, L) x).2)])) := by
    unfold sLockF
    simp only [List.getElem?_cons_succ, List.getElem?_cons_zero, gb, sb, ev_for, itItems, ev_asg, ev_par, ev_if, ev_ret, ev_retN, ev_expr, ev_bin, ev_un, ev_ap, ev_cons, ev_nil, ev_varS, ev_var0, ev_c, ob_some, ev_gNm, ev_tOf, ev_asB, ev_asI, ev_tNot, ev_tAnd, ev_tOr, ev_eOf, ev_eIf, ev_chain, List.set_cons_succ, List.set_cons_zero, ev_then_nx, ev_then_rt, ev_next, ev_pTup, ev_valsC, ev_vals0, ev_eL, ev_bm, ev_aug, pix_t, pix_l, pixq0, pixq1, atI_0, atI_1, atI_2, pp_ii, ps_ii, pa_ii, plt_ii, ple_ii, pgt_ii, pge_ii, peq_ii, pne_ii, pneg_i, List.length_cons, List.length_nil, Nat.reduceAdd, Nat.reduceSub, Nat.reduceLeDiff, sz, if_true, Bool.false_eq_true, if_false, Bool.not_true, Bool.not_false, leave_v, List.take_length, plen_t, plen_l, ptup_l, ptup_t, pint_i, pis_n, pis_i, pis_t, pisnt_n, pisnt_i, pisnt_t, Int.cast_ofNat_Int, ne_eq, not_true_eq_false, not_false_eq_true, decide_true, decide_false, gt, items_S, run_iL, h, unlockF, unl, Option.map_some]
  simp only [l_mean_brings3, ev_seq, ev_asg, ev_par, ev_if, ev_ret, ev_retN, ev_expr, ev_bin, ev_un, ev_ap, ev_cons, ev_nil, ev_varS, ev_var0, ev_c, ob_some, ev_gNm, ev_tOf, ev_asB, ev_asI, ev_tNot, ev_tAnd, ev_tOr, ev_eOf, ev_eIf, ev_chain, List.set_cons_succ, List.set_cons_zero, ev_then_nx, ev_then_rt, ev_next, ev_pTup, ev_valsC, ev_vals0, ev_eL, ev_bm, ev_aug, pix_t, pix_l, pixq0, pixq1, atI_0, atI_1, atI_2, pp_ii, ps_ii, pa_ii, plt_ii, ple_ii, pgt_ii, pge_ii, peq_ii, pne_ii, pneg_i, List.length_cons, List.length_nil, Nat.reduceAdd, Nat.reduceSub, Nat.reduceLeDiff, sz, if_true, Bool.false_eq_true, if_false, Bool.not_true, Bool.not_false, leave_v, List.take_length, plen_t, plen_l, ptup_l, ptup_t, pint_i, pis_n, pis_i, pis_t, pisnt_n, pisnt_i, pisnt_t, Int.cast_ofNat_Int, ne_eq, not_true_eq_false, not_false_eq_true, decide_true, decide_false, ev_dnew, ln, lk]
  rw [List.append_assoc]
  rfl
/-- mean_brings -/
theorem mean_ok (hc : 1 ≤ c) (hc3 : c ≤ 3) (hl : calls.length ≤ 12) (hp : ∀ x ∈ calls, x ≤ 9) : m_mean_brings [.val (.int (c : Int)), .val (encT calls)] m = some (.val (encQ (mean c calls)), m) := by
  obtain ⟨e', mm, h, b, f4, f5, f6, f7, f8, f9, f10, f11, f12, rfl, rfl, hb⟩ := loop_inv (gf := gNm 4) (sf := l_mean_brings3) nI (fun j env mm => ∃ (b : Ev.M) (f4 f5 f6 f7 f8 f9 f10 f11 f12 : Option R), env = [some (.val (.int (c : Int))), some (.val (encT calls)), some (.ref b.length), some (.val (encQ ((calls.take j).foldl (stL c) (0, start)).1)), f4, f5, f6, f7, f8, f9, f10, f11, f12] ∧ mm = b ++ [.dct true false (kS ((calls.take j).foldl (stL c) (0, start)).2)] ∧ b.take m.length = m) calls
    [some (.val (.int (c : Int))), some (.val (encT calls)), some (.ref m.length), some (.val (encQ 0)), none, none, none, none, none, none, none, none, none] (m ++ [.dct true false (kS start)]) ⟨m, none, none, none, none, none, none, none, none, none, rfl, rfl, List.take_length⟩ fun j x hj env mm ⟨b, f4, f5, f6, f7, f8, f9, f10, f11, f12, he, hm, hb⟩ => by
    subst he hm
    have hjl : j < calls.length := (List.getElem?_eq_some_iff.mp hj).1
    have ha : calls.take (j + 1) = calls.take j ++ [x] := by rw [List.take_add_one, hj]; rfl
    have hlj : (calls.take j).length = j := by rw [List.length_take]; omega
    obtain ⟨M, I, hL⟩ := run_inv hc hc3 (calls.take j)
    rw [hlj] at I hL
    have hs : (calls.take (j + 1)).foldl (stL c) (0, start) = stL c ((calls.take j).foldl (stL c) (0, start)) x := by rw [ha, List.foldl_append]; rfl
    rw [hs]
    generalize (calls.take j).foldl (stL c) (0, start) = a at I hL ⊢
    obtain ⟨tot, L⟩ := a
    obtain ⟨g5, g6, g7, g8, g9, g10, g11, g12, hh⟩ := call_in (b := b) (x := x) (e1 := some (.val (encT calls))) (e5 := f5) (e6 := f6) (e7 := f7) (e8 := f8) (e9 := f9) (e10 := f10) (e11 := f11) (e12 := f12) hc hc3 (show j ≤ 18 by omega) (Nat.le_trans hL (pow12 (by omega))) I
    refine ⟨[some (.val (.int (c : Int))), some (.val (encT calls)), some (.ref b.length), some (.val (encQ tot)), some (.val (.int (x : Int))), f5, f6, f7, f8, f9, f10, f11, f12], _, _, _, rfl, hh, ⟨_, _, g5, g6, g7, g8, g9, g10, g11, g12, rfl, rfl, ?_⟩⟩
    rw [List.take_append_of_le_length]
    · exact hb
    · have := congrArg List.length hb
      rw [List.length_take] at this
      omega
  rw [List.take_length] at h
  have ck := check_ok (m := m) (c := c) (calls := calls) hc hc3 hl hp
  have h2 : ¬ ((12 : Int) < ((calls.length : Nat) : Int)) := by omega
  have ds : eDisp1 true (eAp pTup (aCons (eAp pTup aNil) (aCons (eAp pTup aNil) aNil))) (eAp pTup (aCons (eC (.int 1)) (aCons (eC (.int 1)) aNil))) [some (.val (.int (c : Int))), some (.val (encT calls)), none, none, none, none, none, none, none, none, none, none, none] m = some (.ref m.length, m ++ [.dct true false (kS start)]) := by
    unfold eDisp1
    have k := keyOk_S ([], [])
    have e : PyData.tuple [PyData.tuple [], PyData.tuple []] = encS ([], []) := rfl
    simp only [ev_asg, ev_par, ev_if, ev_ret, ev_retN, ev_expr, ev_bin, ev_un, ev_ap, ev_cons, ev_nil, ev_varS, ev_var0, ev_c, ob_some, ev_gNm, ev_tOf, ev_asB, ev_asI, ev_tNot, ev_tAnd, ev_tOr, ev_eOf, ev_eIf, ev_chain, List.set_cons_succ, List.set_cons_zero, ev_then_nx, ev_then_rt, ev_next, ev_pTup, ev_valsC, ev_vals0, ev_eL, ev_bm, ev_aug, pix_t, pix_l, pixq0, pixq1, atI_0, atI_1, atI_2, pp_ii, ps_ii, pa_ii, plt_ii, ple_ii, pgt_ii, pge_ii, peq_ii, pne_ii, pneg_i, List.length_cons, List.length_nil, Nat.reduceAdd, Nat.reduceSub, Nat.reduceLeDiff, sz, if_true, Bool.false_eq_true, if_false, Bool.not_true, Bool.not_false, leave_v, List.take_length, plen_t, plen_l, ptup_l, ptup_t, pint_i, pis_n, pis_i, pis_t, pisnt_n, pisnt_i, pisnt_t, Int.cast_ofNat_Int, ne_eq, not_true_eq_false, not_false_eq_true, decide_true, decide_false, e, k, getN, setN]
    rfl
  have lv : ∀ (d : D), leave m.length (.val d) (b ++ [Ob.dct true false (kS (calls.foldl (stL c) (0, start)).2)]) = some (.val d, m) := fun d => by
    show some (R.val d, List.take m.length _) = _
    rw [List.take_append_of_le_length, hb]
    have := congrArg List.length hb
    rw [List.length_take] at this
    omega
  have al : ∀ mm, an1 (.val (encT calls)) mm = iL (calls.map nI) mm := fun _ => rfl
  simp only [m_mean_brings, bodyF, List.length_cons, List.length_nil, Nat.reduceAdd, Nat.reduceSub, List.map_cons, List.map_nil, List.replicate, List.cons_append, List.nil_append, List.append_nil, b_mean_brings, ev_seq, ev_asg, ev_par, ev_if, ev_ret, ev_retN, ev_expr, ev_bin, ev_un, ev_ap, ev_cons, ev_nil, ev_varS, ev_var0, ev_c, ob_some, ev_gNm, ev_tOf, ev_asB, ev_asI, ev_tNot, ev_tAnd, ev_tOr, ev_eOf, ev_eIf, ev_chain, List.set_cons_succ, List.set_cons_zero, ev_then_nx, ev_then_rt, ev_next, ev_pTup, ev_valsC, ev_vals0, ev_eL, ev_bm, ev_aug, pix_t, pix_l, pixq0, pixq1, atI_0, atI_1, atI_2, pp_ii, ps_ii, pa_ii, plt_ii, ple_ii, pgt_ii, pge_ii, peq_ii, pne_ii, pneg_i, List.length_cons, List.length_nil, Nat.reduceAdd, Nat.reduceSub, Nat.reduceLeDiff, sz, if_true, Bool.false_eq_true, if_false, Bool.not_true, Bool.not_false, leave_v, List.take_length, plen_t, plen_l, ptup_l, ptup_t, pint_i, pis_n, pis_i, pis_t, pisnt_n, pisnt_i, pisnt_t, Int.cast_ofNat_Int, ne_eq, not_true_eq_false, not_false_eq_true, decide_true, decide_false, ck, plen_T, h2, ds, encQ0, ev_for, it_an, al, run_iL, h, lv]
  rfl
end
end L38

set_option Elab.async false
set_option linter.all false
set_option maxRecDepth 100000
set_option maxHeartbeats 0
namespace L38
open PySem PySem.Spec PyProof.Rows L2 Ev Mk
theorem lookS_at {L : Lv} (h : (L.map (·.1)).Nodup) {e : Wm × Rat} (he : e ∈ L) : lookS L e.1 = some e.2 := by
  induction L with
  | nil => cases he
  | cons a L ih =>
    rw [List.map_cons, List.nodup_cons] at h
    rcases List.mem_cons.mp he with q | q
    · subst q
      simp [lookS]
    · have hne : a.1 ≠ e.1 := fun z => h.1 (z ▸ List.mem_map.mpr ⟨e, q, rfl⟩)
      have := ih h.2 q
      unfold lookS at this ⊢
      rw [List.find?_cons]
      simp only [hne, decide_false]
      exact this
section
variable {m : M} {c x : Nat}
/-- dict([(y, True) ..]) -/
theorem dictP_ok {l : List Nat} : pDictP [.val (.list (l.map fun y => PyData.tuple [nI y, .bool true]))] m = some (.ref m.length, m ++ [.dct false false (kF nI tru (l.foldl insN []))]) := by
  have e : ∀ l : List Nat, prsD (l.map fun y => PyData.tuple [nI y, .bool true]) = some (l.map fun y => (nI y, tru y)) := fun l => by
    induction l with
    | nil => rfl
    | cons a l ih =>
      show (if (keyK (nI a)).isSome = true then (prsD (l.map fun y => PyData.tuple [nI y, .bool true])).map _ else none) = _
      rw [ih]
      rfl
  have pu := puts_n (f := tru) l []
  show ((asL (.val (.list (l.map fun y => PyData.tuple [nI y, .bool true]))) m).bind fun ds => (prsD ds).bind fun ps => some (R.ref m.length, m ++ [.dct false false (ps.foldl (fun a p => putD false a p.1 p.2) [])])) = _
  show ((prsD (l.map fun y => PyData.tuple [nI y, .bool true])).bind fun ps => some (R.ref m.length, m ++ [Ob.dct false false (ps.foldl (fun a p => putD false a p.1 p.2) [])])) = _
  rw [e]
  simp only [ob_some]
  rw [← pu]
  rfl
theorem wipe_law {w : List Nat} {out : Nat} {e0 e1 e2 e3 e4 e5 e7 e8 e9 e10 e12 e13 e14 : Option R} (hl : w.length ≤ 100) :
    nComp (itAny (eVar 6)) (.nm 14) [14] t__law_mean3 e__law_mean2 [e0, e1, e2, e3, e4, e5, some (.val (encT w)), e7, e8, e9, e10, some (.val (.int (out : Int))), e12, e13, e14] m = some (encI (w.filter fun y => decide (y ≠ out)), m) :=
  comp_map nI (fun y => decide (y ≠ out)) nI w rfl (by omega) fun a ha => ⟨[e0, e1, e2, e3, e4, e5, some (.val (encT w)), e7, e8, e9, e10, some (.val (.int (out : Int))), e12, e13, some (.val (.int (a : Int)))], rfl, by
      simp only [t__law_mean3, ev_asg, ev_par, ev_if, ev_ret, ev_retN, ev_expr, ev_bin, ev_un, ev_ap, ev_cons, ev_nil, ev_varS, ev_var0, ev_c, ob_some, ev_gNm, ev_tOf, ev_asB, ev_asI, ev_tNot, ev_tAnd, ev_tOr, ev_eOf, ev_eIf, ev_chain, List.set_cons_succ, List.set_cons_zero, ev_then_nx, ev_then_rt, ev_next, ev_pTup, ev_valsC, ev_vals0, ev_eL, ev_bm, ev_aug, pix_t, pix_l, pixq0, pixq1, atI_0, atI_1, atI_2, pp_ii, ps_ii, pa_ii, plt_ii, ple_ii, pgt_ii, pge_ii, peq_ii, pne_ii, pneg_i, List.length_cons, List.length_nil, Nat.reduceAdd, Nat.reduceSub, Nat.reduceLeDiff, sz, if_true, Bool.false_eq_true, if_false, Bool.not_true, Bool.not_false, leave_v, List.take_length, plen_t, plen_l, ptup_l, ptup_t, pint_i, pis_n, pis_i, pis_t, pisnt_n, pisnt_i, pisnt_t, Int.cast_ofNat_Int, ne_eq, not_true_eq_false, not_false_eq_true, decide_true, decide_false]
      by_cases h : a = out
      · simp [h]
      · have : ¬ ((a : Int) = (out : Int)) := by omega
        simp [h, this], fun _ => rfl⟩
theorem encI1 (x : Nat) : PyData.list [.int (x : Int)] = .list (encI [x]) := rfl
theorem ways_law {T : M} {s : Wm} {tot ch : Rat} {e1 e2 e5 e10 e11 e12 e13 e14 : Option R} (h1 : s.1.length ≤ 100) (h2 : s.2.length ≤ 100) (nd : s.2.Nodup) (st : SmQ tot) (sc : SmQ ch) :
    ∃ f10 f11 J, sIf (tOf (eBin pIn (eVar 4) (eVar 6))) (sExpr (eBM pAppend (eVar 9) (aCons (eAp pTup (aCons (eVar 6) (aCons (eAp pTupleOf (aCons (eAp pSortedA (aCons (eAp pDictP (aCons (eL (nComp (itAny (eBin pPlus (eVar 7) (eAp pTup (aCons (eVar 4) aNil)))) (.nm 14) [14] tTrue e__law_mean1)) aNil)) aNil)) aNil)) aNil))) aNil)))
      (sSeq (sAsg (eAp m__law_plus (aCons (eVar 3) (aCons (eVar 8) aNil))) (gNm 3)) (sIf (tOf (eBin pLt (eAp pLen (aCons (eVar 6) aNil)) (eVar 0))) (sExpr (eBM pAppend (eVar 9) (aCons (eAp pTup (aCons (eAp pTupleOf (aCons (eAp pSortedA (aCons (eBin pPlus (eVar 6) (eAp pTup (aCons (eVar 4) aNil))) aNil)) aNil)) (aCons (eAp pTupleOf (aCons (eAp pSortedA (aCons (eBin pPlus (eVar 7) (eAp pTup (aCons (eVar 4) aNil))) aNil)) aNil)) aNil))) aNil)))
        (sSeq (sAsg (eIf (tOf (eBin pEq (eAp pLen (aCons (eVar 7) aNil)) (eVar 0))) (eAp pTup aNil) (eVar 7)) (gNm 10)) (sFor (itAny (eVar 6)) (gNm 11) l__law_mean4))))
      [some (.val (.int (c : Int))), e1, e2, some (.val (encQ tot)), some (.val (.int (x : Int))), e5, some (.val (encT s.1)), some (.val (encT s.2)), some (.val (encQ ch)), some (.ref T.length), e10, e11, e12, e13, e14] (T ++ [.lst []]) =
      some (.nx [some (.val (.int (c : Int))), e1, e2, some (.val (encQ (if (ways c x s).2 = true then tot + ch else tot))), some (.val (.int (x : Int))), e5, some (.val (encT s.1)), some (.val (encT s.2)), some (.val (encQ ch)), some (.ref T.length), f10, f11, e12, e13, e14] (T ++ .lst ((ways c x s).1.map encS) :: J)) := by
  obtain ⟨w, mk⟩ := s
  simp only at h1 h2 nd
  generalize hT : T ++ [Ob.lst []] = m0
  have gt0 : m0[T.length]? = some (.lst []) := by rw [← hT]; exact getN
  have al0 : asL (.ref T.length) m0 = some [] := by
    unfold asL
    simp only [gt0, ob_some]
  have a1 : pIn (.val (.int (x : Int))) (.val (encT w)) m0 = some (.val (.bool (decide (x ∈ w))), m0) := pin_N rfl
  have z0 : (0 : Nat) < 16777216 := by decide
  by_cases hx : x ∈ w
  · have pt : pPlus (.val (encT mk)) (.val (encT [x])) m0 = some (.val (encT (mk ++ [x])), m0) := pp_TT (by rw [List.length_singleton]; omega)
    have cm : nComp (itAny (eBin pPlus (eVar 7) (eAp pTup (aCons (eVar 4) aNil)))) (.nm 14) [14] tTrue e__law_mean1 [some (.val (.int (c : Int))), e1, e2, some (.val (encQ tot)), some (.val (.int (x : Int))), e5, some (.val (encT w)), some (.val (encT mk)), some (.val (encQ ch)), some (.ref T.length), e10, e11, e12, e13, e14] m0 = some ((mk ++ [x]).map fun y => PyData.tuple [nI y, .bool true], m0) :=
      comp_all nI (fun y => .tuple [nI y, .bool true]) (mk ++ [x]) (by
        simp only [it_an, ev_asg, ev_par, ev_if, ev_ret, ev_retN, ev_expr, ev_bin, ev_un, ev_ap, ev_cons, ev_nil, ev_varS, ev_var0, ev_c, ob_some, ev_gNm, ev_tOf, ev_asB, ev_asI, ev_tNot, ev_tAnd, ev_tOr, ev_eOf, ev_eIf, ev_chain, List.set_cons_succ, List.set_cons_zero, ev_then_nx, ev_then_rt, ev_next, ev_pTup, ev_valsC, ev_vals0, ev_eL, ev_bm, ev_aug, pix_t, pix_l, pixq0, pixq1, atI_0, atI_1, atI_2, pp_ii, ps_ii, pa_ii, plt_ii, ple_ii, pgt_ii, pge_ii, peq_ii, pne_ii, pneg_i, List.length_cons, List.length_nil, Nat.reduceAdd, Nat.reduceSub, Nat.reduceLeDiff, sz, if_true, Bool.false_eq_true, if_false, Bool.not_true, Bool.not_false, leave_v, List.take_length, plen_t, plen_l, ptup_l, ptup_t, pint_i, pis_n, pis_i, pis_t, pisnt_n, pisnt_i, pisnt_t, Int.cast_ofNat_Int, ne_eq, not_true_eq_false, not_false_eq_true, decide_true, decide_false, encT1, pt]
        rfl) (by rw [List.length_append, List.length_singleton]; omega) fun a ha => ⟨[some (.val (.int (c : Int))), e1, e2, some (.val (encQ tot)), some (.val (.int (x : Int))), e5, some (.val (encT w)), some (.val (encT mk)), some (.val (encQ ch)), some (.ref T.length), e10, e11, e12, e13, some (.val (.int (a : Int)))], rfl, by
          simp only [e__law_mean1, ev_asg, ev_par, ev_if, ev_ret, ev_retN, ev_expr, ev_bin, ev_un, ev_ap, ev_cons, ev_nil, ev_varS, ev_var0, ev_c, ob_some, ev_gNm, ev_tOf, ev_asB, ev_asI, ev_tNot, ev_tAnd, ev_tOr, ev_eOf, ev_eIf, ev_chain, List.set_cons_succ, List.set_cons_zero, ev_then_nx, ev_then_rt, ev_next, ev_pTup, ev_valsC, ev_vals0, ev_eL, ev_bm, ev_aug, pix_t, pix_l, pixq0, pixq1, atI_0, atI_1, atI_2, pp_ii, ps_ii, pa_ii, plt_ii, ple_ii, pgt_ii, pge_ii, peq_ii, pne_ii, pneg_i, List.length_cons, List.length_nil, Nat.reduceAdd, Nat.reduceSub, Nat.reduceLeDiff, sz, if_true, Bool.false_eq_true, if_false, Bool.not_true, Bool.not_false, leave_v, List.take_length, plen_t, plen_l, ptup_l, ptup_t, pint_i, pis_n, pis_i, pis_t, pisnt_n, pisnt_i, pisnt_t, Int.cast_ofNat_Int, ne_eq, not_true_eq_false, not_false_eq_true, decide_true, decide_false]⟩
    have dl : (dd mk x).length ≤ 16777216 := by
      unfold dd
      split
      · omega
      · rw [List.length_append, List.length_singleton]; omega
    have wy : ways c x (w, mk) = ([(w, srt (dd mk x))], false) := by
      unfold ways
      simp only [hx, if_true]
    have dp := dictP_ok (m := m0) (l := mk ++ [x])
    rw [insF_dd nd] at dp
    have gt1 : (m0 ++ [Ob.dct false false (kF nI tru (dd mk x))])[T.length]? = some (.lst []) := by rw [← hT, List.append_assoc]; exact g0
    have st1 : ∀ d, (m0 ++ [Ob.dct false false (kF nI tru (dd mk x))]).set T.length d = T ++ d :: [Ob.dct false false (kF nI tru (dd mk x))] := fun d => by rw [← hT, List.append_assoc]; exact s0
    rw [wy]
    refine ⟨e10, e11, [Ob.dct false false (kF nI tru (dd mk x))], ?_⟩
    simp only [ev_asg, ev_par, ev_if, ev_ret, ev_retN, ev_expr, ev_bin, ev_un, ev_ap, ev_cons, ev_nil, ev_varS, ev_var0, ev_c, ob_some, ev_gNm, ev_tOf, ev_asB, ev_asI, ev_tNot, ev_tAnd, ev_tOr, ev_eOf, ev_eIf, ev_chain, List.set_cons_succ, List.set_cons_zero, ev_then_nx, ev_then_rt, ev_next, ev_pTup, ev_valsC, ev_vals0, ev_eL, ev_bm, ev_aug, pix_t, pix_l, pixq0, pixq1, atI_0, atI_1, atI_2, pp_ii, ps_ii, pa_ii, plt_ii, ple_ii, pgt_ii, pge_ii, peq_ii, pne_ii, pneg_i, List.length_cons, List.length_nil, Nat.reduceAdd, Nat.reduceSub, Nat.reduceLeDiff, sz, if_true, Bool.false_eq_true, if_false, Bool.not_true, Bool.not_false, leave_v, List.take_length, plen_t, plen_l, ptup_l, ptup_t, pint_i, pis_n, pis_i, pis_t, pisnt_n, pisnt_i, pisnt_t, Int.cast_ofNat_Int, ne_eq, not_true_eq_false, not_false_eq_true, decide_true, decide_false, a1, hx, al0, cm, dp, sort_dct dl, tup_L, encS_mk, papp_r gt1 z0, st1, List.nil_append]
    rfl
  · have pl := lplus_ok (m := m0) st sc
    by_cases hl : w.length < c
    · have wy : ways c x (w, mk) = ([(srt (w ++ [x]), srt (mk ++ [x]))], true) := by
        unfold ways
        simp only [hx, if_false, hl, if_true]
      have hl' : ((w.length : Nat) : Int) < (c : Int) := by omega
      have pt : pPlus (.val (encT w)) (.val (encT [x])) m0 = some (.val (encT (w ++ [x])), m0) := pp_TT (by rw [List.length_singleton]; omega)
      have pt2 : pPlus (.val (encT mk)) (.val (encT [x])) m0 = some (.val (encT (mk ++ [x])), m0) := pp_TT (by rw [List.length_singleton]; omega)
      have lw : (w ++ [x]).length ≤ 16777216 := by rw [List.length_append, List.length_singleton]; omega
      have lk : (mk ++ [x]).length ≤ 16777216 := by rw [List.length_append, List.length_singleton]; omega
      have st1 : ∀ d, m0.set T.length d = T ++ d :: [] := fun d => by rw [← hT]; exact s0
      rw [wy]
      refine ⟨e10, e11, [], ?_⟩
      simp only [ev_seq, ev_asg, ev_par, ev_if, ev_ret, ev_retN, ev_expr, ev_bin, ev_un, ev_ap, ev_cons, ev_nil, ev_varS, ev_var0, ev_c, ob_some, ev_gNm, ev_tOf, ev_asB, ev_asI, ev_tNot, ev_tAnd, ev_tOr, ev_eOf, ev_eIf, ev_chain, List.set_cons_succ, List.set_cons_zero, ev_then_nx, ev_then_rt, ev_next, ev_pTup, ev_valsC, ev_vals0, ev_eL, ev_bm, ev_aug, pix_t, pix_l, pixq0, pixq1, atI_0, atI_1, atI_2, pp_ii, ps_ii, pa_ii, plt_ii, ple_ii, pgt_ii, pge_ii, peq_ii, pne_ii, pneg_i, List.length_cons, List.length_nil, Nat.reduceAdd, Nat.reduceSub, Nat.reduceLeDiff, sz, if_true, Bool.false_eq_true, if_false, Bool.not_true, Bool.not_false, leave_v, List.take_length, plen_t, plen_l, ptup_l, ptup_t, pint_i, pis_n, pis_i, pis_t, pisnt_n, pisnt_i, pisnt_t, Int.cast_ofNat_Int, ne_eq, not_true_eq_false, not_false_eq_true, decide_true, decide_false, a1, hx, plen_T, hl', al0, pl, encT1, pt, pt2, sort_T lw, sort_T lk, tup_L, encS_mk, papp_r gt0 z0, st1, List.nil_append]
      rfl
    · have hl' : ¬ ((w.length : Nat) : Int) < (c : Int) := by omega
      have wy : ways c x (w, mk) = ((w.filter (fun o => decide (o ∉ kpt c mk))).map fun o => (srt (w.filter (fun y => decide (y ≠ o)) ++ [x]), srt (kpt c mk ++ [x])), true) := by
        unfold ways
        simp only [hx, if_false, hl]
      have kl : (kpt c mk).length ≤ 100 := by
        unfold kpt
        split
        · simp
        · omega
      have mkd : eIf (tOf (eBin pEq (eAp pLen (aCons (eVar 7) aNil)) (eVar 0))) (eAp pTup aNil) (eVar 7) [some (.val (.int (c : Int))), e1, e2, some (.val (encQ (tot + ch))), some (.val (.int (x : Int))), e5, some (.val (encT w)), some (.val (encT mk)), some (.val (encQ ch)), some (.ref T.length), e10, e11, e12, e13, e14] m0 = some (.val (encT (kpt c mk)), m0) := by
        unfold kpt
        by_cases q : mk.length = c
        · simp only [ev_asg, ev_par, ev_if, ev_ret, ev_retN, ev_expr, ev_bin, ev_un, ev_ap, ev_cons, ev_nil, ev_varS, ev_var0, ev_c, ob_some, ev_gNm, ev_tOf, ev_asB, ev_asI, ev_tNot, ev_tAnd, ev_tOr, ev_eOf, ev_eIf, ev_chain, List.set_cons_succ, List.set_cons_zero, ev_then_nx, ev_then_rt, ev_next, ev_pTup, ev_valsC, ev_vals0, ev_eL, ev_bm, ev_aug, pix_t, pix_l, pixq0, pixq1, atI_0, atI_1, atI_2, pp_ii, ps_ii, pa_ii, plt_ii, ple_ii, pgt_ii, pge_ii, peq_ii, pne_ii, pneg_i, List.length_cons, List.length_nil, Nat.reduceAdd, Nat.reduceSub, Nat.reduceLeDiff, sz, if_true, Bool.false_eq_true, if_false, Bool.not_true, Bool.not_false, leave_v, List.take_length, plen_t, plen_l, ptup_l, ptup_t, pint_i, pis_n, pis_i, pis_t, pisnt_n, pisnt_i, pisnt_t, Int.cast_ofNat_Int, ne_eq, not_true_eq_false, not_false_eq_true, decide_true, decide_false, plen_T, q]
          rfl
        · have : ¬ ((mk.length : Nat) : Int) = (c : Int) := by omega
          simp only [ev_asg, ev_par, ev_if, ev_ret, ev_retN, ev_expr, ev_bin, ev_un, ev_ap, ev_cons, ev_nil, ev_varS, ev_var0, ev_c, ob_some, ev_gNm, ev_tOf, ev_asB, ev_asI, ev_tNot, ev_tAnd, ev_tOr, ev_eOf, ev_eIf, ev_chain, List.set_cons_succ, List.set_cons_zero, ev_then_nx, ev_then_rt, ev_next, ev_pTup, ev_valsC, ev_vals0, ev_eL, ev_bm, ev_aug, pix_t, pix_l, pixq0, pixq1, atI_0, atI_1, atI_2, pp_ii, ps_ii, pa_ii, plt_ii, ple_ii, pgt_ii, pge_ii, peq_ii, pne_ii, pneg_i, List.length_cons, List.length_nil, Nat.reduceAdd, Nat.reduceSub, Nat.reduceLeDiff, sz, if_true, Bool.false_eq_true, if_false, Bool.not_true, Bool.not_false, leave_v, List.take_length, plen_t, plen_l, ptup_l, ptup_t, pint_i, pis_n, pis_i, pis_t, pisnt_n, pisnt_i, pisnt_t, Int.cast_ofNat_Int, ne_eq, not_true_eq_false, not_false_eq_true, decide_true, decide_false, plen_T, q, this, decide_false]
      generalize hk : kpt c mk = kp at *
      obtain ⟨e', mm, h, f11, rfl, rfl⟩ := loop_inv (gf := gNm 11) (sf := l__law_mean4) nI (fun j env mm => ∃ f11, env = [some (.val (.int (c : Int))), e1, e2, some (.val (encQ (tot + ch))), some (.val (.int (x : Int))), e5, some (.val (encT w)), some (.val (encT mk)), some (.val (encQ ch)), some (.ref T.length), some (.val (encT kp)), f11, e12, e13, e14] ∧
          mm = T ++ [.lst ((((w.take j).filter (fun o => decide (o ∉ kp))).map fun o => (srt (w.filter (fun y => decide (y ≠ o)) ++ [x]), srt (kp ++ [x]))).map encS)]) w
        [some (.val (.int (c : Int))), e1, e2, some (.val (encQ (tot + ch))), some (.val (.int (x : Int))), e5, some (.val (encT w)), some (.val (encT mk)), some (.val (encQ ch)), some (.ref T.length), some (.val (encT kp)), e11, e12, e13, e14] m0 ⟨e11, rfl, hT.symm⟩ fun j o hj env mm ⟨f11, he, hm⟩ => by
        subst he hm
        have ha : w.take (j + 1) = w.take j ++ [o] := by rw [List.take_add_one, hj]; rfl
        generalize hmm : T ++ [Ob.lst ((((w.take j).filter (fun o => decide (o ∉ kp))).map fun o => (srt (w.filter (fun y => decide (y ≠ o)) ++ [x]), srt (kp ++ [x]))).map encS)] = mm
        have gt : mm[T.length]? = some (.lst ((((w.take j).filter (fun o => decide (o ∉ kp))).map fun o => (srt (w.filter (fun y => decide (y ≠ o)) ++ [x]), srt (kp ++ [x]))).map encS)) := by rw [← hmm]; exact getN
        have b1 : pNin (.val (.int (o : Int))) (.val (encT kp)) mm = some (.val (.bool (!decide (o ∈ kp))), mm) := pnin_N rfl
        by_cases ho : o ∈ kp
        · refine ⟨[some (.val (.int (c : Int))), e1, e2, some (.val (encQ (tot + ch))), some (.val (.int (x : Int))), e5, some (.val (encT w)), some (.val (encT mk)), some (.val (encQ ch)), some (.ref T.length), some (.val (encT kp)), some (.val (.int (o : Int))), e12, e13, e14], mm, [some (.val (.int (c : Int))), e1, e2, some (.val (encQ (tot + ch))), some (.val (.int (x : Int))), e5, some (.val (encT w)), some (.val (encT mk)), some (.val (encQ ch)), some (.ref T.length), some (.val (encT kp)), some (.val (.int (o : Int))), e12, e13, e14], mm, rfl, ?_, ⟨_, rfl, ?_⟩⟩
          · simp only [l__law_mean4, ev_asg, ev_par, ev_if, ev_ret, ev_retN, ev_expr, ev_bin, ev_un, ev_ap, ev_cons, ev_nil, ev_varS, ev_var0, ev_c, ob_some, ev_gNm, ev_tOf, ev_asB, ev_asI, ev_tNot, ev_tAnd, ev_tOr, ev_eOf, ev_eIf, ev_chain, List.set_cons_succ, List.set_cons_zero, ev_then_nx, ev_then_rt, ev_next, ev_pTup, ev_valsC, ev_vals0, ev_eL, ev_bm, ev_aug, pix_t, pix_l, pixq0, pixq1, atI_0, atI_1, atI_2, pp_ii, ps_ii, pa_ii, plt_ii, ple_ii, pgt_ii, pge_ii, peq_ii, pne_ii, pneg_i, List.length_cons, List.length_nil, Nat.reduceAdd, Nat.reduceSub, Nat.reduceLeDiff, sz, if_true, Bool.false_eq_true, if_false, Bool.not_true, Bool.not_false, leave_v, List.take_length, plen_t, plen_l, ptup_l, ptup_t, pint_i, pis_n, pis_i, pis_t, pisnt_n, pisnt_i, pisnt_t, Int.cast_ofNat_Int, ne_eq, not_true_eq_false, not_false_eq_true, decide_true, decide_false, b1, ho]
          · rw [← hmm, ha, List.filter_append]
            simp [ho]
        · have cm := wipe_law (m := mm) (w := w) (out := o) (e0 := some (.val (.int (c : Int)))) (e1 := e1) (e2 := e2) (e3 := some (.val (encQ (tot + ch)))) (e4 := some (.val (.int (x : Int)))) (e5 := e5) (e7 := some (.val (encT mk))) (e8 := some (.val (encQ ch))) (e9 := some (.ref T.length)) (e10 := some (.val (encT kp))) (e12 := e12) (e13 := e13) (e14 := e14) h1
          have fl : (w.filter fun y => decide (y ≠ o)).length ≤ 100 := Nat.le_trans (List.length_filter_le _ _) h1
          have pt : pPlus (.val (.list (encI (w.filter fun y => decide (y ≠ o))))) (.val (.list (encI [x]))) mm = some (.val (.list (encI (w.filter fun y => decide (y ≠ o)) ++ encI [x])), mm) := pp_LL rfl rfl (by rw [encI_len, encI_len, List.length_singleton]; omega)
          have ea : encI (w.filter fun y => decide (y ≠ o)) ++ encI [x] = encI ((w.filter fun y => decide (y ≠ o)) ++ [x]) := by unfold encI; rw [List.map_append]
          rw [ea] at pt
          have pt2 : pPlus (.val (encT kp)) (.val (encT [x])) mm = some (.val (encT (kp ++ [x])), mm) := pp_TT (by rw [List.length_singleton]; omega)
          have gl : ((((w.take j).filter (fun o => decide (o ∉ kp))).map fun o => (srt (w.filter (fun y => decide (y ≠ o)) ++ [x]), srt (kp ++ [x]))).map encS).length < 16777216 := by
            rw [List.length_map, List.length_map]
            have := List.length_filter_le (fun o => decide (o ∉ kp)) (w.take j)
            have := List.length_take_le' j w
            omega
          have al : asL (.ref T.length) mm = some ((((w.take j).filter (fun o => decide (o ∉ kp))).map fun o => (srt (w.filter (fun y => decide (y ≠ o)) ++ [x]), srt (kp ++ [x]))).map encS) := by
            unfold asL
            simp only [gt, ob_some]
          have fin : T ++ [Ob.lst ((((w.take (j + 1)).filter (fun o => decide (o ∉ kp))).map fun o => (srt (w.filter (fun y => decide (y ≠ o)) ++ [x]), srt (kp ++ [x]))).map encS)] =
              mm.set T.length (.lst ((((w.take j).filter (fun o => decide (o ∉ kp))).map fun o => (srt (w.filter (fun y => decide (y ≠ o)) ++ [x]), srt (kp ++ [x]))).map encS ++ [encS (srt (w.filter (fun y => decide (y ≠ o)) ++ [x]), srt (kp ++ [x]))])) := by
            rw [← hmm, setN, ha, List.filter_append]
            simp [ho]
          clear ea
          generalize (((w.take j).filter (fun o => decide (o ∉ kp))).map fun o => (srt (w.filter (fun y => decide (y ≠ o)) ++ [x]), srt (kp ++ [x]))).map encS = old at gt gl al fin
          generalize hwf : (w.filter fun y => decide (y ≠ o)) = wf at cm fl pt fin
          have lw : (wf ++ [x]).length ≤ 16777216 := by rw [List.length_append, List.length_singleton]; omega
          have lk : (kp ++ [x]).length ≤ 16777216 := by rw [List.length_append, List.length_singleton]; omega
          refine ⟨[some (.val (.int (c : Int))), e1, e2, some (.val (encQ (tot + ch))), some (.val (.int (x : Int))), e5, some (.val (encT w)), some (.val (encT mk)), some (.val (encQ ch)), some (.ref T.length), some (.val (encT kp)), some (.val (.int (o : Int))), e12, e13, e14], mm, [some (.val (.int (c : Int))), e1, e2, some (.val (encQ (tot + ch))), some (.val (.int (x : Int))), e5, some (.val (encT w)), some (.val (encT mk)), some (.val (encQ ch)), some (.ref T.length), some (.val (encT kp)), some (.val (.int (o : Int))), e12, e13, e14], _, rfl, ?_, ⟨_, rfl, rfl⟩⟩
          rw [fin]
          simp only [l__law_mean4, ev_seq, ev_asg, ev_par, ev_if, ev_ret, ev_retN, ev_expr, ev_bin, ev_un, ev_ap, ev_cons, ev_nil, ev_varS, ev_var0, ev_c, ob_some, ev_gNm, ev_tOf, ev_asB, ev_asI, ev_tNot, ev_tAnd, ev_tOr, ev_eOf, ev_eIf, ev_chain, List.set_cons_succ, List.set_cons_zero, ev_then_nx, ev_then_rt, ev_next, ev_pTup, ev_valsC, ev_vals0, ev_eL, ev_bm, ev_aug, pix_t, pix_l, pixq0, pixq1, atI_0, atI_1, atI_2, pp_ii, ps_ii, pa_ii, plt_ii, ple_ii, pgt_ii, pge_ii, peq_ii, pne_ii, pneg_i, List.length_cons, List.length_nil, Nat.reduceAdd, Nat.reduceSub, Nat.reduceLeDiff, sz, if_true, Bool.false_eq_true, if_false, Bool.not_true, Bool.not_false, leave_v, List.take_length, plen_t, plen_l, ptup_l, ptup_t, pint_i, pis_n, pis_i, pis_t, pisnt_n, pisnt_i, pisnt_t, Int.cast_ofNat_Int, ne_eq, not_true_eq_false, not_false_eq_true, decide_true, decide_false, b1, ho, cm, tup_L, encT_mk, al, encT1, encI1, ev_nLst, pt, pt2, sort_L lw, sort_T lk, encS_mk, papp_r gt gl]
      rw [List.take_length] at h
      have al : an1 (.val (encT w)) m0 = iL (w.map nI) m0 := rfl
      rw [wy]
      refine ⟨some (.val (encT kp)), f11, [], ?_⟩
      simp only [ev_seq, ev_asg, ev_par, ev_if, ev_ret, ev_retN, ev_expr, ev_bin, ev_un, ev_ap, ev_cons, ev_nil, ev_varS, ev_var0, ev_c, ob_some, ev_gNm, ev_tOf, ev_asB, ev_asI, ev_tNot, ev_tAnd, ev_tOr, ev_eOf, ev_chain, List.set_cons_succ, List.set_cons_zero, ev_then_nx, ev_then_rt, ev_next, ev_pTup, ev_valsC, ev_vals0, ev_eL, ev_bm, ev_aug, pix_t, pix_l, pixq0, pixq1, atI_0, atI_1, atI_2, pp_ii, ps_ii, pa_ii, plt_ii, ple_ii, pgt_ii, pge_ii, peq_ii, pne_ii, pneg_i, List.length_cons, List.length_nil, Nat.reduceAdd, Nat.reduceSub, Nat.reduceLeDiff, sz, if_true, Bool.false_eq_true, if_false, Bool.not_true, Bool.not_false, leave_v, List.take_length, plen_t, plen_l, ptup_l, ptup_t, pint_i, pis_n, pis_i, pis_t, pisnt_n, pisnt_i, pisnt_t, Int.cast_ofNat_Int, ne_eq, not_true_eq_false, not_false_eq_true, decide_true, decide_false, a1, hx, plen_T, hl', pl, mkd, ev_for, it_an, al, run_iL, h]
end
end L38

set_option Elab.async false
set_option linter.all false
set_option maxRecDepth 100000
set_option maxHeartbeats 0
namespace L38
open PySem PySem.Spec PyProof.Rows L2 Ev Mk
theorem inv_enc {n : Nat} (h : n ≠ 0) : PyData.tuple [.int 1, .int (n : Int)] = encQ (1 / ((n : Nat) : Rat)) := by
  obtain ⟨h1, h2⟩ := Qa.low_num 1 (n : Int) (by omega)
  have e : (((1 : Int) : Rat) / (((n : Nat) : Int) : Rat)) = 1 / ((n : Nat) : Rat) := by push_cast; rfl
  rw [e] at h1 h2
  have g : Int.gcd 1 (n : Int) = 1 := Int.one_gcd
  rw [g] at h1 h2
  unfold encQ
  rw [← h1, ← h2]
  simp
section
variable {S : M} {K : Lv} {s : Wm} {q : Rat} {km : Nat} {lk : Bool}
theorem dget_S (h : S[km]? = some (.dct true lk (kS K))) : pDGet (.ref km) (.val (encS s)) S = (lookS K s).bind fun v => some (.val (encQ v), S) := by
  unfold pDGet
  simp only [h, ob_some, keyOk_S, if_true, look_S]
  cases lookS K s <;> rfl
theorem din_S (h : S[km]? = some (.dct true lk (kS K))) : pDIn (.val (encS s)) (.ref km) S = some (.val (.bool (lookS K s).isSome), S) := by
  unfold pDIn pDHas
  simp only [h, ob_some, keyOk_S, if_true, look_S, Option.isSome_map]
theorem dset_S (h : S[km]? = some (.dct true false (kS K))) (hk : (K.map (·.1)).Nodup) (hl : K.length < 16777216) : pDSet (.ref km) (.val (encS s)) (.val (encQ ((lookS K s).getD 0 + q))) S = some (S.set km (.dct true false (kS (addS K s q)))) := by
  unfold pDSet
  have : (kS K).length < sizeLine := by rw [kS_len, sz]; exact hl
  simp only [h, ob_some, keyOk_S, this, and_self, if_true, put_S hk]
end
/-- the ways' shares, in the law -/
theorem shares_law {S : M} {K : Lv} {ss : List Wm} {ch : Rat} {t km r : Nat} {e0 e1 e2 e3 e4 e6 e7 e10 e11 e12 e13 e14 : Option R} (hr : S[r]? = some (.lst (ss.map encS))) (hkm : S[km]? = some (.dct true false (kS K))) (hne : r ≠ km)
    (ht : t ≤ 19) (P : Pt (t + 1) K) (hn : ss.length ≠ 0) (h3 : ss.length ≤ 3) (hc : Qa.In (6 ^ t) ch) (h0 : 0 ≤ ch) (h1 : ws (fun _ => 1) K + ch ≤ 1) (hl : K.length + 3 < 16777216) :
    ∃ f12 f13, sFor (itAny (eVar 9)) (gNm 12) l__law_mean5 [e0, e1, e2, e3, e4, some (.ref km), e6, e7, some (.val (encQ ch)), some (.ref r), e10, e11, e12, e13, e14] S =
      some (.nx [e0, e1, e2, e3, e4, some (.ref km), e6, e7, some (.val (encQ ch)), some (.ref r), e10, e11, f12, f13, e14] (S.set km (.dct true false (kS (addW (ch * (1 / ((ss.length : Nat) : Rat))) ss K))))) := by
  have hch : SmQ ch := smq (t := t) (by omega) hc h0 (by have := (ws_le P.pos).1; have := one_le; grind)
  have hq := share_in hc hn h3
  have q0 := share_nn hn h0
  have qs := share hn ch
  have klt : km < S.length := (List.getElem?_eq_some_iff.mp hkm).1
  generalize hqq : ch * (1 / ((ss.length : Nat) : Rat)) = q at *
  have gr : ∀ d : Ob, (S.set km d)[r]? = some (.lst (ss.map encS)) := fun d => by rw [List.getElem?_set_ne (fun z => hne z.symm)]; exact hr
  have asr : ∀ d : Ob, asLT (.ref r) (S.set km d) = some (ss.map encS) := fun d => by
    unfold asLT
    unfold asL
    simp only [gr, ob_some]
  have e00 : S = S.set km (.dct true false (kS K)) := by
    apply List.ext_getElem?
    intro i
    by_cases z : km = i
    · rw [← z, List.getElem?_set_self klt]; exact hkm
    · rw [List.getElem?_set_ne z]
  obtain ⟨e', mm, h, f12, f13, rfl, rfl⟩ := loop_inv_r (r := .ref r) (gf := gNm 12) (sf := l__law_mean5) encS (fun j env mm => ∃ f12 f13, env = [e0, e1, e2, e3, e4, some (.ref km), e6, e7, some (.val (encQ ch)), some (.ref r), e10, e11, f12, f13, e14] ∧ mm = S.set km (.dct true false (kS (addW q (ss.take j) K)))) ss
    [e0, e1, e2, e3, e4, some (.ref km), e6, e7, some (.val (encQ ch)), some (.ref r), e10, e11, e12, e13, e14] S (by rw [e00]; exact asr _) (fun j env mm ⟨_, _, _, he⟩ => by subst he; exact asr _) ⟨e12, e13, rfl, e00⟩ fun j s hj env mm ⟨f12, f13, he, hm⟩ => by
    subst he hm
    have hjl : j < ss.length := (List.getElem?_eq_some_iff.mp hj).1
    have ha : ss.take (j + 1) = ss.take j ++ [s] := by rw [List.take_add_one, hj]; rfl
    have hlj : (ss.take j).length = j := by rw [List.length_take]; omega
    have jl : ((j : Nat) : Rat) ≤ ((ss.length : Nat) : Rat) := Rat.natCast_le_natCast.mpr (by omega)
    have Pj : Pt (t + 1) (addW q (ss.take j) K) := P.addW hq q0 (by
      rw [hlj]
      have := Rat.mul_le_mul_of_nonneg_left jl q0
      grind)
    have kl : (addW q (ss.take j) K).length < 16777216 := by
      have := addW_len (q := q) (ss := ss.take j) (K := K)
      omega
    have sg := Pj.get (by omega) s
    have sq : SmQ q := smq (t := t + 1) (by omega) hq q0 (by
      have h5 : (1 : Rat) ≤ ((ss.length : Nat) : Rat) := by
        have : ((1 : Nat) : Rat) ≤ ((ss.length : Nat) : Rat) := Rat.natCast_le_natCast.mpr (by omega)
        exact_mod_cast this
      have := Rat.mul_le_mul_of_nonneg_left h5 q0
      have := (ws_le P.pos).1
      have := one_le
      grind)
    rw [ha, addW_app]
    generalize hK : addW q (ss.take j) K = Kj at *
    have gm : (S.set km (.dct true false (kS Kj)))[km]? = some (.dct true false (kS Kj)) := List.getElem?_set_self klt
    have g9 := gr (.dct true false (kS Kj))
    have fs : S.set km (.dct true false (kS (addS Kj s q))) = (S.set km (.dct true false (kS Kj))).set km (.dct true false (kS (addS Kj s q))) := by rw [List.set_set]
    rw [fs]
    generalize S.set km (.dct true false (kS Kj)) = mm at gm g9 ⊢
    have pl9 : pLen [.ref r] mm = some (.val (.int ((ss.length : Nat) : Int)), mm) := by
      rw [plen_r g9, List.length_map]
    have ti := ltimes_ok (m := mm) hch (smq_inv hn h3)
    rw [hqq] at ti
    have dg := dget_S (s := s) gm
    have di := din_S (s := s) gm
    have pl := lplus_ok (m := mm) sg sq
    have st := dset_S (s := s) (q := q) gm Pj.keys kl
    refine ⟨[e0, e1, e2, e3, e4, some (.ref km), e6, e7, some (.val (encQ ch)), some (.ref r), e10, e11, some (.val (encS s)), f13, e14], mm,
      [e0, e1, e2, e3, e4, some (.ref km), e6, e7, some (.val (encQ ch)), some (.ref r), e10, e11, some (.val (encS s)), some (.val (encQ q)), e14], _, rfl, ?_, ⟨_, _, rfl, rfl⟩⟩
    have vl : eIf (tOf (eBin pDIn (eVar 12) (eVar 5))) (eAp m__law_plus (aCons (eBin pDGet (eVar 5) (eVar 12)) (aCons (eVar 13) aNil))) (eVar 13) [e0, e1, e2, e3, e4, some (.ref km), e6, e7, some (.val (encQ ch)), some (.ref r), e10, e11, some (.val (encS s)), some (.val (encQ q)), e14] mm = some (.val (encQ ((lookS Kj s).getD 0 + q)), mm) := by
      simp only [ev_asg, ev_par, ev_if, ev_ret, ev_retN, ev_expr, ev_bin, ev_un, ev_ap, ev_cons, ev_nil, ev_varS, ev_var0, ev_c, ob_some, ev_gNm, ev_tOf, ev_asB, ev_asI, ev_tNot, ev_tAnd, ev_tOr, ev_eOf, ev_eIf, ev_chain, List.set_cons_succ, List.set_cons_zero, ev_then_nx, ev_then_rt, ev_next, ev_pTup, ev_valsC, ev_vals0, ev_eL, ev_bm, ev_aug, pix_t, pix_l, pixq0, pixq1, atI_0, atI_1, atI_2, pp_ii, ps_ii, pa_ii, plt_ii, ple_ii, pgt_ii, pge_ii, peq_ii, pne_ii, pneg_i, List.length_cons, List.length_nil, Nat.reduceAdd, Nat.reduceSub, Nat.reduceLeDiff, sz, if_true, Bool.false_eq_true, if_false, Bool.not_true, Bool.not_false, leave_v, List.take_length, plen_t, plen_l, ptup_l, ptup_t, pint_i, pis_n, pis_i, pis_t, pisnt_n, pisnt_i, pisnt_t, Int.cast_ofNat_Int, ne_eq, not_true_eq_false, not_false_eq_true, decide_true, decide_false, di]
      cases hlk : lookS Kj s with
      | none =>
        simp only [Option.isSome_none, ev_asg, ev_par, ev_if, ev_ret, ev_retN, ev_expr, ev_bin, ev_un, ev_ap, ev_cons, ev_nil, ev_varS, ev_var0, ev_c, ob_some, ev_gNm, ev_tOf, ev_asB, ev_asI, ev_tNot, ev_tAnd, ev_tOr, ev_eOf, ev_eIf, ev_chain, List.set_cons_succ, List.set_cons_zero, ev_then_nx, ev_then_rt, ev_next, ev_pTup, ev_valsC, ev_vals0, ev_eL, ev_bm, ev_aug, pix_t, pix_l, pixq0, pixq1, atI_0, atI_1, atI_2, pp_ii, ps_ii, pa_ii, plt_ii, ple_ii, pgt_ii, pge_ii, peq_ii, pne_ii, pneg_i, List.length_cons, List.length_nil, Nat.reduceAdd, Nat.reduceSub, Nat.reduceLeDiff, sz, if_true, Bool.false_eq_true, if_false, Bool.not_true, Bool.not_false, leave_v, List.take_length, plen_t, plen_l, ptup_l, ptup_t, pint_i, pis_n, pis_i, pis_t, pisnt_n, pisnt_i, pisnt_t, Int.cast_ofNat_Int, ne_eq, not_true_eq_false, not_false_eq_true, decide_true, decide_false, Option.getD_none, Rat.zero_add]
      | some v =>
        rw [hlk] at dg pl
        simp only [Option.isSome_some, ev_asg, ev_par, ev_if, ev_ret, ev_retN, ev_expr, ev_bin, ev_un, ev_ap, ev_cons, ev_nil, ev_varS, ev_var0, ev_c, ob_some, ev_gNm, ev_tOf, ev_asB, ev_asI, ev_tNot, ev_tAnd, ev_tOr, ev_eOf, ev_eIf, ev_chain, List.set_cons_succ, List.set_cons_zero, ev_then_nx, ev_then_rt, ev_next, ev_pTup, ev_valsC, ev_vals0, ev_eL, ev_bm, ev_aug, pix_t, pix_l, pixq0, pixq1, atI_0, atI_1, atI_2, pp_ii, ps_ii, pa_ii, plt_ii, ple_ii, pgt_ii, pge_ii, peq_ii, pne_ii, pneg_i, List.length_cons, List.length_nil, Nat.reduceAdd, Nat.reduceSub, Nat.reduceLeDiff, sz, if_true, Bool.false_eq_true, if_false, Bool.not_true, Bool.not_false, leave_v, List.take_length, plen_t, plen_l, ptup_l, ptup_t, pint_i, pis_n, pis_i, pis_t, pisnt_n, pisnt_i, pisnt_t, Int.cast_ofNat_Int, ne_eq, not_true_eq_false, not_false_eq_true, decide_true, decide_false, dg, Option.bind_some, Option.getD_some] at pl ⊢
        exact pl
    simp only [l__law_mean5, ev_seq, ev_asg, ev_par, ev_if, ev_ret, ev_retN, ev_expr, ev_bin, ev_un, ev_ap, ev_cons, ev_nil, ev_varS, ev_var0, ev_c, ob_some, ev_gNm, ev_tOf, ev_asB, ev_asI, ev_tNot, ev_tAnd, ev_tOr, ev_eOf, ev_chain, List.set_cons_succ, List.set_cons_zero, ev_then_nx, ev_then_rt, ev_next, ev_pTup, ev_valsC, ev_vals0, ev_eL, ev_bm, ev_aug, pix_t, pix_l, pixq0, pixq1, atI_0, atI_1, atI_2, pp_ii, ps_ii, pa_ii, plt_ii, ple_ii, pgt_ii, pge_ii, peq_ii, pne_ii, pneg_i, List.length_cons, List.length_nil, Nat.reduceAdd, Nat.reduceSub, Nat.reduceLeDiff, sz, if_true, Bool.false_eq_true, if_false, Bool.not_true, Bool.not_false, leave_v, List.take_length, plen_t, plen_l, ptup_l, ptup_t, pint_i, pis_n, pis_i, pis_t, pisnt_n, pisnt_i, pisnt_t, Int.cast_ofNat_Int, ne_eq, not_true_eq_false, not_false_eq_true, decide_true, decide_false, pl9, inv_enc hn, ti, vl, ev_sub, st]
  rw [List.take_length] at h
  exact ⟨f12, f13, by simp only [ev_for, it_an, ev_asg, ev_par, ev_if, ev_ret, ev_retN, ev_expr, ev_bin, ev_un, ev_ap, ev_cons, ev_nil, ev_varS, ev_var0, ev_c, ob_some, ev_gNm, ev_tOf, ev_asB, ev_asI, ev_tNot, ev_tAnd, ev_tOr, ev_eOf, ev_eIf, ev_chain, List.set_cons_succ, List.set_cons_zero, ev_then_nx, ev_then_rt, ev_next, ev_pTup, ev_valsC, ev_vals0, ev_eL, ev_bm, ev_aug, pix_t, pix_l, pixq0, pixq1, atI_0, atI_1, atI_2, pp_ii, ps_ii, pa_ii, plt_ii, ple_ii, pgt_ii, pge_ii, peq_ii, pne_ii, pneg_i, List.length_cons, List.length_nil, Nat.reduceAdd, Nat.reduceSub, Nat.reduceLeDiff, sz, if_true, Bool.false_eq_true, if_false, Bool.not_true, Bool.not_false, leave_v, List.take_length, plen_t, plen_l, ptup_l, ptup_t, pint_i, pis_n, pis_i, pis_t, pisnt_n, pisnt_i, pisnt_t, Int.cast_ofNat_Int, ne_eq, not_true_eq_false, not_false_eq_true, decide_true, decide_false]; exact h⟩
end L38

set_option Elab.async false
set_option linter.all false
set_option maxRecDepth 100000
set_option maxHeartbeats 0
namespace L38
open PySem PySem.Spec PyProof.Rows L2 Ev Mk
def encK (e : Wm × Rat) : D := encS e.1
theorem keys_S {L : Lv} : (kS L).map Prod.fst = L.map encK := by
  unfold kS
  rw [List.map_map]
  rfl
theorem mid {B : M} {a b : Ob} {J : M} {k : Nat} (h : k < B.length) : (B ++ a :: J)[k]? = B[k]? := List.getElem?_append_left h
/-- one call's entries, in the law -/
theorem entries_law {B : M} {k c t x : Nat} {M : List Nat} {tot : Rat} {L : Lv} {e1 e6 e7 e8 e9 e10 e11 e12 e13 e14 : Option R} (hk : B[k]? = some (.dct true true (kS L))) (hc : 1 ≤ c) (hc3 : c ≤ 3) (ht : t ≤ 18) (hL : L.length ≤ 1000000) (I : LInv c t M tot L) :
    ∃ f6 f7 f8 f9 f10 f11 f12 f13 J, loopL (gP (.tp (.cons (.nm 6) (.cons (.nm 7) .nil)))) l__law_mean6 (L.map encK) [some (.val (.int (c : Int))), e1, some (.ref k), some (.val (encQ tot)), some (.val (.int (x : Int))), some (.ref B.length), e6, e7, e8, e9, e10, e11, e12, e13, e14] (B ++ [.dct true false []]) =
      some (.nx [some (.val (.int (c : Int))), e1, some (.ref k), some (.val (encQ (stL c (tot, L) x).1)), some (.val (.int (x : Int))), some (.ref B.length), f6, f7, f8, f9, f10, f11, f12, f13, e14] (B ++ .dct true false (kS (stL c (tot, L) x).2) :: J)) := by
  have hkl : k < B.length := (List.getElem?_eq_some_iff.mp hk).1
  obtain ⟨e', mm, h, f6, f7, f8, f9, f10, f11, f12, f13, J, rfl, rfl⟩ := loop_inv (gf := gP (.tp (.cons (.nm 6) (.cons (.nm 7) .nil)))) (sf := l__law_mean6) encK
    (fun j env mm => ∃ (f6 f7 f8 f9 f10 f11 f12 f13 : Option R) (J : Ev.M), env = [some (.val (.int (c : Int))), e1, some (.ref k), some (.val (encQ ((L.take j).foldl (stE c x) (tot, [])).1)), some (.val (.int (x : Int))), some (.ref B.length), f6, f7, f8, f9, f10, f11, f12, f13, e14] ∧ mm = B ++ .dct true false (kS ((L.take j).foldl (stE c x) (tot, [])).2) :: J) L
    [some (.val (.int (c : Int))), e1, some (.ref k), some (.val (encQ tot)), some (.val (.int (x : Int))), some (.ref B.length), e6, e7, e8, e9, e10, e11, e12, e13, e14] (B ++ [.dct true false []]) ⟨e6, e7, e8, e9, e10, e11, e12, e13, [], rfl, rfl⟩ fun j e hj env mm ⟨f6, f7, f8, f9, f10, f11, f12, f13, J, he, hm⟩ => by
    subst he hm
    have A := acc_ok (x := x) hc hc3 ht I hj
    have hm : e ∈ L := List.mem_of_getElem? hj
    obtain ⟨w1, w2, w3, w4⟩ := ways_ok (x := x) hc (I.ok e hm) I.nd I.so
    have hjl : j < L.length := (List.getElem?_eq_some_iff.mp hj).1
    have ha : L.take (j + 1) = L.take j ++ [e] := by rw [List.take_add_one, hj]; rfl
    have hs : (L.take (j + 1)).foldl (stE c x) (tot, []) = stE c x ((L.take j).foldl (stE c x) (tot, [])) e := by rw [ha, List.foldl_append]; rfl
    rw [hs]
    generalize (L.take j).foldl (stE c x) (tot, []) = a at A ⊢
    obtain ⟨ta, K⟩ := a
    obtain ⟨a1, a2, a3, a4, a5⟩ := A
    simp only at a1 a2 a3 a4
    have O := I.ok e hm
    have lo := lookS_at I.keys hm
    obtain ⟨s, ch⟩ := e
    simp only at w1 w2 w3 a2 a5 O lo
    generalize hT : B ++ Ob.dct true false (kS K) :: J = T
    have gk : T[k]? = some (.dct true true (kS L)) := by rw [← hT, List.getElem?_append_left hkl]; exact hk
    have gd := dget_S (s := s) gk
    rw [lo] at gd
    simp only [ob_some] at gd
    have sP : PyData.tuple [encT s.1, encT s.2] = encS s := rfl
    obtain ⟨g10, g11, J', wl⟩ := ways_law (T := T) (c := c) (x := x) (s := s) (tot := ta) (ch := ch) (e1 := e1) (e2 := some (.ref k)) (e5 := some (.ref B.length)) (e10 := f10) (e11 := f11) (e12 := f12) (e13 := f13) (e14 := e14) (by have := O.le; omega) (by rw [O.mks]; have := I.le; omega) (by rw [O.mks]; exact I.nd) a4 a5
    have gB : T[B.length]? = some (.dct true false (kS K)) := by rw [← hT]; exact g0
    have hBT : B.length < T.length := (List.getElem?_eq_some_iff.mp gB).1
    generalize hS : T ++ Ob.lst ((ways c x s).1.map encS) :: J' = S at wl
    have gr : S[T.length]? = some (.lst ((ways c x s).1.map encS)) := by rw [← hS]; exact g0
    have gm : S[B.length]? = some (.dct true false (kS K)) := by rw [← hS, List.getElem?_append_left hBT]; exact gB
    obtain ⟨g12, g13, sh⟩ := shares_law (S := S) (K := K) (ss := (ways c x s).1) (ch := ch) (t := t) (km := B.length) (r := T.length) (e0 := some (.val (.int (c : Int)))) (e1 := e1) (e2 := some (.ref k)) (e3 := some (.val (encQ (if (ways c x s).2 = true then ta + ch else ta)))) (e4 := some (.val (.int (x : Int)))) (e6 := some (.val (encT s.1))) (e7 := some (.val (encT s.2))) (e10 := g10) (e11 := g11) (e12 := f12) (e13 := f13) (e14 := e14)
      gr gm (by omega) (by omega) a1 (fun z => w1 (List.eq_nil_of_length_eq_zero z)) (by omega) (I.inn _ hm) (I.pos _ hm) a2 (by omega)
    refine ⟨[some (.val (.int (c : Int))), e1, some (.ref k), some (.val (encQ ta)), some (.val (.int (x : Int))), some (.ref B.length), some (.val (encT s.1)), some (.val (encT s.2)), f8, f9, f10, f11, f12, f13, e14], T, _, _, rfl, ?_,
      ⟨some (.val (encT s.1)), some (.val (encT s.2)), some (.val (encQ ch)), some (.ref T.length), g10, g11, g12, g13, J ++ Ob.lst ((ways c x s).1.map encS) :: J', rfl, rfl⟩⟩
    have fin : B ++ Ob.dct true false (kS (stE c x (ta, K) (s, ch)).2) :: (J ++ Ob.lst ((ways c x s).1.map encS) :: J') = S.set B.length (.dct true false (kS (addW (ch * (1 / (((ways c x s).1.length : Nat) : Rat))) (ways c x s).1 K))) := by
      rw [← hS, ← hT, List.append_assoc]
      exact s0.symm
    rw [fin]
    have e3 : (stE c x (ta, K) (s, ch)).1 = (if (ways c x s).2 = true then ta + ch else ta) := rfl
    rw [e3]
    have st1 : sAsg (eBin pDGet (eVar 2) (eAp pTup (aCons (eVar 6) (aCons (eVar 7) aNil)))) (gNm 8) [some (.val (.int (c : Int))), e1, some (.ref k), some (.val (encQ ta)), some (.val (.int (x : Int))), some (.ref B.length), some (.val (encT s.1)), some (.val (encT s.2)), f8, f9, f10, f11, f12, f13, e14] T = some (.nx [some (.val (.int (c : Int))), e1, some (.ref k), some (.val (encQ ta)), some (.val (.int (x : Int))), some (.ref B.length), some (.val (encT s.1)), some (.val (encT s.2)), some (.val (encQ ch)), f9, f10, f11, f12, f13, e14] T) := by
      simp only [ev_asg, ev_par, ev_if, ev_ret, ev_retN, ev_expr, ev_bin, ev_un, ev_ap, ev_cons, ev_nil, ev_varS, ev_var0, ev_c, ob_some, ev_gNm, ev_tOf, ev_asB, ev_asI, ev_tNot, ev_tAnd, ev_tOr, ev_eOf, ev_eIf, ev_chain, List.set_cons_succ, List.set_cons_zero, ev_then_nx, ev_then_rt, ev_next, ev_pTup, ev_valsC, ev_vals0, ev_eL, ev_bm, ev_aug, pix_t, pix_l, pixq0, pixq1, atI_0, atI_1, atI_2, pp_ii, ps_ii, pa_ii, plt_ii, ple_ii, pgt_ii, pge_ii, peq_ii, pne_ii, pneg_i, List.length_cons, List.length_nil, Nat.reduceAdd, Nat.reduceSub, Nat.reduceLeDiff, sz, if_true, Bool.false_eq_true, if_false, Bool.not_true, Bool.not_false, leave_v, List.take_length, plen_t, plen_l, ptup_l, ptup_t, pint_i, pis_n, pis_i, pis_t, pisnt_n, pisnt_i, pisnt_t, Int.cast_ofNat_Int, ne_eq, not_true_eq_false, not_false_eq_true, decide_true, decide_false, sP, gd]
    have st2 : sAsg (eNew (nLst aNil)) (gNm 9) [some (.val (.int (c : Int))), e1, some (.ref k), some (.val (encQ ta)), some (.val (.int (x : Int))), some (.ref B.length), some (.val (encT s.1)), some (.val (encT s.2)), some (.val (encQ ch)), f9, f10, f11, f12, f13, e14] T = some (.nx [some (.val (.int (c : Int))), e1, some (.ref k), some (.val (encQ ta)), some (.val (.int (x : Int))), some (.ref B.length), some (.val (encT s.1)), some (.val (encT s.2)), some (.val (encQ ch)), some (.ref T.length), f10, f11, f12, f13, e14] (T ++ [.lst []])) := by
      simp only [ev_asg, ev_par, ev_if, ev_ret, ev_retN, ev_expr, ev_bin, ev_un, ev_ap, ev_cons, ev_nil, ev_varS, ev_var0, ev_c, ob_some, ev_gNm, ev_tOf, ev_asB, ev_asI, ev_tNot, ev_tAnd, ev_tOr, ev_eOf, ev_eIf, ev_chain, List.set_cons_succ, List.set_cons_zero, ev_then_nx, ev_then_rt, ev_next, ev_pTup, ev_valsC, ev_vals0, ev_eL, ev_bm, ev_aug, pix_t, pix_l, pixq0, pixq1, atI_0, atI_1, atI_2, pp_ii, ps_ii, pa_ii, plt_ii, ple_ii, pgt_ii, pge_ii, peq_ii, pne_ii, pneg_i, List.length_cons, List.length_nil, Nat.reduceAdd, Nat.reduceSub, Nat.reduceLeDiff, sz, if_true, Bool.false_eq_true, if_false, Bool.not_true, Bool.not_false, leave_v, List.take_length, plen_t, plen_l, ptup_l, ptup_t, pint_i, pis_n, pis_i, pis_t, pisnt_n, pisnt_i, pisnt_t, Int.cast_ofNat_Int, ne_eq, not_true_eq_false, not_false_eq_true, decide_true, decide_false, ev_eNew, ev_nLst]
    unfold l__law_mean6
    rw [ev_seq, st1]
    simp only [ob_some, ev_then_nx]
    rw [ev_seq, st2]
    simp only [ob_some, ev_then_nx]
    rw [ev_seq, wl]
    simp only [ob_some, ev_then_nx]
    exact sh
  rw [List.take_length] at h
  exact ⟨f6, f7, f8, f9, f10, f11, f12, f13, J, h⟩
end L38

set_option Elab.async false
set_option linter.all false
set_option maxRecDepth 100000
set_option maxHeartbeats 0
namespace L38
open PySem PySem.Spec PyProof.Rows L2 Ev Mk
section
variable {m : M} {c : Nat} {calls : List Nat}
theorem set_back {B : M} {k : Nat} {a b : Ob} {J : M} (h : B[k]? = some a) : (B.set k b ++ J).set k a = B ++ J := by
  have hkl : k < B.length := (List.getElem?_eq_some_iff.mp h).1
  rw [List.set_append_left _ _ (by rw [List.length_set]; exact hkl), List.set_set]
  congr 1
  apply List.ext_getElem?
  intro i
  by_cases z : k = i
  · rw [← z, List.getElem?_set_self hkl, h]
  · rw [List.getElem?_set_ne z]
/-- one call, in the law -/
theorem call_law {B : M} {k t x : Nat} {M : List Nat} {tot : Rat} {L : Lv} {e1 e5 e6 e7 e8 e9 e10 e11 e12 e13 e14 : Option R} (hk : B[k]? = some (.dct true false (kS L))) (hc : 1 ≤ c) (hc3 : c ≤ 3) (ht : t ≤ 18) (hL : L.length ≤ 1000000) (I : LInv c t M tot L) :
    ∃ f5 f6 f7 f8 f9 f10 f11 f12 f13 J, l__law_mean7 [some (.val (.int (c : Int))), e1, some (.ref k), some (.val (encQ tot)), some (.val (.int (x : Int))), e5, e6, e7, e8, e9, e10, e11, e12, e13, e14] B =
      some (.nx [some (.val (.int (c : Int))), e1, some (.ref B.length), some (.val (encQ (stL c (tot, L) x).1)), some (.val (.int (x : Int))), f5, f6, f7, f8, f9, f10, f11, f12, f13, e14] (B ++ .dct true false (kS (stL c (tot, L) x).2) :: J)) := by
  have hkl : k < B.length := (List.getElem?_eq_some_iff.mp hk).1
  have gl : (B.set k (.dct true true (kS L)))[k]? = some (.dct true true (kS L)) := List.getElem?_set_self hkl
  obtain ⟨f6, f7, f8, f9, f10, f11, f12, f13, J, h⟩ := entries_law (B := B.set k (.dct true true (kS L))) (e1 := e1) (e6 := e6) (e7 := e7) (e8 := e8) (e9 := e9) (e10 := e10) (e11 := e11) (e12 := e12) (e13 := e13) (e14 := e14) (x := x) gl hc hc3 ht hL I
  rw [List.length_set] at h
  refine ⟨some (.ref B.length), f6, f7, f8, f9, f10, f11, f12, f13, J, ?_⟩
  have gb : (B ++ [Ob.dct true false []])[k]? = some (.dct true false (kS L)) := by rw [List.getElem?_append_left hkl]; exact hk
  have sb : (B ++ [Ob.dct true false []]).set k (.dct true true (kS L)) = B.set k (.dct true true (kS L)) ++ [Ob.dct true false []] := List.set_append_left _ _ hkl
  have gl1 : (B.set k (.dct true true (kS L)) ++ [Ob.dct true false []])[k]? = some (.dct true true (kS L)) := by rw [List.getElem?_append_left (by rw [List.length_set]; exact hkl)]; exact gl
  have gl2 : (B.set k (.dct true true (kS L)) ++ Ob.dct true false (kS (stL c (tot, L) x).2) :: J)[k]? = some (.dct true true (kS L)) := by rw [List.getElem?_append_left (by rw [List.length_set]; exact hkl)]; exact gl
  have bk : (B.set k (.dct true true (kS L)) ++ Ob.dct true false (kS (stL c (tot, L) x).2) :: J).set k (.dct true false (kS L)) = B ++ Ob.dct true false (kS (stL c (tot, L) x).2) :: J := set_back hk
  have lk : sLockF 2 (sFor (itDict (eVar 2)) (gP (.tp (.cons (.nm 6) (.cons (.nm 7) .nil)))) l__law_mean6) [some (.val (.int (c : Int))), e1, some (.ref k), some (.val (encQ tot)), some (.val (.int (x : Int))), some (.ref B.length), e6, e7, e8, e9, e10, e11, e12, e13, e14] (B ++ [Ob.dct true false []]) =
      some (.nx [some (.val (.int (c : Int))), e1, some (.ref k), some (.val (encQ (stL c (tot, L) x).1)), some (.val (.int (x : Int))), some (.ref B.length), f6, f7, f8, f9, f10, f11, f12, f13, e14] (B ++ Ob.dct true false (kS (stL c (tot, L) x).2) :: J)) := by
    unfold sLockF
    simp only [List.getElem?_cons_succ, List.getElem?_cons_zero, gb, sb, ev_for, it_dict, ev_asg, ev_par, ev_if, ev_ret, ev_retN, ev_expr, ev_bin, ev_un, ev_ap, ev_cons, ev_nil, ev_varS, ev_var0, ev_c, ob_some, ev_gNm, ev_tOf, ev_asB, ev_asI, ev_tNot, ev_tAnd, ev_tOr, ev_eOf, ev_eIf, ev_chain, List.set_cons_succ, List.set_cons_zero, ev_then_nx, ev_then_rt, ev_next, ev_pTup, ev_valsC, ev_vals0, ev_eL, ev_bm, ev_aug, pix_t, pix_l, pixq0, pixq1, atI_0, atI_1, atI_2, pp_ii, ps_ii, pa_ii, plt_ii, ple_ii, pgt_ii, pge_ii, peq_ii, pne_ii, pneg_i, List.length_cons, List.length_nil, Nat.reduceAdd, Nat.reduceSub, Nat.reduceLeDiff, sz, if_true, Bool.false_eq_true, if_false, Bool.not_true, Bool.not_false, leave_v, List.take_length, plen_t, plen_l, ptup_l, ptup_t, pint_i, pis_n, pis_i, pis_t, pisnt_n, pisnt_i, pisnt_t, Int.cast_ofNat_Int, ne_eq, not_true_eq_false, not_false_eq_true, decide_true, decide_false, gl1, keys_S, run_iL, h, unlockF, unlockM, gl2, bk, Option.map_some]
  simp only [l__law_mean7, ev_seq, ev_asg, ev_par, ev_if, ev_ret, ev_retN, ev_expr, ev_bin, ev_un, ev_ap, ev_cons, ev_nil, ev_varS, ev_var0, ev_c, ob_some, ev_gNm, ev_tOf, ev_asB, ev_asI, ev_tNot, ev_tAnd, ev_tOr, ev_eOf, ev_eIf, ev_chain, List.set_cons_succ, List.set_cons_zero, ev_then_nx, ev_then_rt, ev_next, ev_pTup, ev_valsC, ev_vals0, ev_eL, ev_bm, ev_aug, pix_t, pix_l, pixq0, pixq1, atI_0, atI_1, atI_2, pp_ii, ps_ii, pa_ii, plt_ii, ple_ii, pgt_ii, pge_ii, peq_ii, pne_ii, pneg_i, List.length_cons, List.length_nil, Nat.reduceAdd, Nat.reduceSub, Nat.reduceLeDiff, sz, if_true, Bool.false_eq_true, if_false, Bool.not_true, Bool.not_false, leave_v, List.take_length, plen_t, plen_l, ptup_l, ptup_t, pint_i, pis_n, pis_i, pis_t, pisnt_n, pisnt_i, pisnt_t, Int.cast_ofNat_Int, ne_eq, not_true_eq_false, not_false_eq_true, decide_true, decide_false, ev_dnew, lk]
/-- _law_mean -/
theorem lmean_ok (hc : 1 ≤ c) (hc3 : c ≤ 3) (hl : calls.length ≤ 12) : m__law_mean [.val (.int (c : Int)), .val (encT calls)] m = some (.val (encQ (mean c calls)), m) := by
  obtain ⟨e', mm, h, k, f4, f5, f6, f7, f8, f9, f10, f11, f12, f13, rfl, hk, hb⟩ := loop_inv (gf := gNm 4) (sf := l__law_mean7) nI (fun j env mm => ∃ (k : Nat) (f4 f5 f6 f7 f8 f9 f10 f11 f12 f13 : Option R), env = [some (.val (.int (c : Int))), some (.val (encT calls)), some (.ref k), some (.val (encQ ((calls.take j).foldl (stL c) (0, start)).1)), f4, f5, f6, f7, f8, f9, f10, f11, f12, f13, none] ∧ mm[k]? = some (.dct true false (kS ((calls.take j).foldl (stL c) (0, start)).2)) ∧ mm.take m.length = m) calls
    [some (.val (.int (c : Int))), some (.val (encT calls)), some (.ref m.length), some (.val (encQ 0)), none, none, none, none, none, none, none, none, none, none, none] (m ++ [.dct true false (kS start)]) ⟨m.length, none, none, none, none, none, none, none, none, none, none, rfl, getN, tk⟩ fun j x hj env mm ⟨k, f4, f5, f6, f7, f8, f9, f10, f11, f12, f13, he, hm, hb⟩ => by
    subst he
    have hjl : j < calls.length := (List.getElem?_eq_some_iff.mp hj).1
    have ha : calls.take (j + 1) = calls.take j ++ [x] := by rw [List.take_add_one, hj]; rfl
    have hlj : (calls.take j).length = j := by rw [List.length_take]; omega
    obtain ⟨M, I, hL⟩ := run_inv hc hc3 (calls.take j)
    rw [hlj] at I hL
    have hs : (calls.take (j + 1)).foldl (stL c) (0, start) = stL c ((calls.take j).foldl (stL c) (0, start)) x := by rw [ha, List.foldl_append]; rfl
    rw [hs]
    generalize (calls.take j).foldl (stL c) (0, start) = a at I hL hm ⊢
    obtain ⟨tot, L⟩ := a
    obtain ⟨g5, g6, g7, g8, g9, g10, g11, g12, g13, J, hh⟩ := call_law (B := mm) (k := k) (x := x) (e1 := some (.val (encT calls))) (e5 := f5) (e6 := f6) (e7 := f7) (e8 := f8) (e9 := f9) (e10 := f10) (e11 := f11) (e12 := f12) (e13 := f13) (e14 := none) hm hc hc3 (show j ≤ 18 by omega) (Nat.le_trans hL (pow12 (by omega))) I
    refine ⟨[some (.val (.int (c : Int))), some (.val (encT calls)), some (.ref k), some (.val (encQ tot)), some (.val (.int (x : Int))), f5, f6, f7, f8, f9, f10, f11, f12, f13, none], mm, _, _, rfl, hh, ⟨mm.length, _, g5, g6, g7, g8, g9, g10, g11, g12, g13, rfl, g0, ?_⟩⟩
    rw [List.take_append_of_le_length]
    · exact hb
    · have := congrArg List.length hb
      rw [List.length_take] at this
      omega
  rw [List.take_length] at h hk
  have ds : eDisp1 true (eAp pTup (aCons (eAp pTup aNil) (aCons (eAp pTup aNil) aNil))) (eAp pTup (aCons (eC (.int 1)) (aCons (eC (.int 1)) aNil))) [some (.val (.int (c : Int))), some (.val (encT calls)), none, none, none, none, none, none, none, none, none, none, none, none, none] m = some (.ref m.length, m ++ [.dct true false (kS start)]) := by
    unfold eDisp1
    have k := keyOk_S ([], [])
    have e : PyData.tuple [PyData.tuple [], PyData.tuple []] = encS ([], []) := rfl
    simp only [ev_asg, ev_par, ev_if, ev_ret, ev_retN, ev_expr, ev_bin, ev_un, ev_ap, ev_cons, ev_nil, ev_varS, ev_var0, ev_c, ob_some, ev_gNm, ev_tOf, ev_asB, ev_asI, ev_tNot, ev_tAnd, ev_tOr, ev_eOf, ev_eIf, ev_chain, List.set_cons_succ, List.set_cons_zero, ev_then_nx, ev_then_rt, ev_next, ev_pTup, ev_valsC, ev_vals0, ev_eL, ev_bm, ev_aug, pix_t, pix_l, pixq0, pixq1, atI_0, atI_1, atI_2, pp_ii, ps_ii, pa_ii, plt_ii, ple_ii, pgt_ii, pge_ii, peq_ii, pne_ii, pneg_i, List.length_cons, List.length_nil, Nat.reduceAdd, Nat.reduceSub, Nat.reduceLeDiff, sz, if_true, Bool.false_eq_true, if_false, Bool.not_true, Bool.not_false, leave_v, List.take_length, plen_t, plen_l, ptup_l, ptup_t, pint_i, pis_n, pis_i, pis_t, pisnt_n, pisnt_i, pisnt_t, Int.cast_ofNat_Int, ne_eq, not_true_eq_false, not_false_eq_true, decide_true, decide_false, e, k, getN, setN]
    rfl
  have lv : ∀ (d : D), leave m.length (.val d) mm = some (.val d, m) := fun d => by
    show some (R.val d, List.take m.length _) = _
    rw [hb]
  have al : ∀ mm, an1 (.val (encT calls)) mm = iL (calls.map nI) mm := fun _ => rfl
  simp only [m__law_mean, bodyF, List.length_cons, List.length_nil, Nat.reduceAdd, Nat.reduceSub, List.map_cons, List.map_nil, List.replicate, List.cons_append, List.nil_append, List.append_nil, b__law_mean, ev_seq, ev_asg, ev_par, ev_if, ev_ret, ev_retN, ev_expr, ev_bin, ev_un, ev_ap, ev_cons, ev_nil, ev_varS, ev_var0, ev_c, ob_some, ev_gNm, ev_tOf, ev_asB, ev_asI, ev_tNot, ev_tAnd, ev_tOr, ev_eOf, ev_eIf, ev_chain, List.set_cons_succ, List.set_cons_zero, ev_then_nx, ev_then_rt, ev_next, ev_pTup, ev_valsC, ev_vals0, ev_eL, ev_bm, ev_aug, pix_t, pix_l, pixq0, pixq1, atI_0, atI_1, atI_2, pp_ii, ps_ii, pa_ii, plt_ii, ple_ii, pgt_ii, pge_ii, peq_ii, pne_ii, pneg_i, List.length_cons, List.length_nil, Nat.reduceAdd, Nat.reduceSub, Nat.reduceLeDiff, sz, if_true, Bool.false_eq_true, if_false, Bool.not_true, Bool.not_false, leave_v, List.take_length, plen_t, plen_l, ptup_l, ptup_t, pint_i, pis_n, pis_i, pis_t, pisnt_n, pisnt_i, pisnt_t, Int.cast_ofNat_Int, ne_eq, not_true_eq_false, not_false_eq_true, decide_true, decide_false, ds, encQ0, ev_for, it_an, al, run_iL, h, lv]
  rfl
end
end L38

set_option Elab.async false
set_option linter.all false
set_option maxRecDepth 100000
set_option maxHeartbeats 0
namespace L38
open PySem PySem.Spec PyProof.Rows L2 Ev Mk Be
/-- the first of the largest -/
def pk (f : Nat → Nat) : Nat → List Nat → Nat
  | b, [] => b
  | b, x :: l => if f b < f x then pk f x l else pk f b l
def far (r W : List Nat) : Nat := match W with
  | [] => 0
  | b :: l => pk (fun p => r.idxOf p) b l
theorem pk_ok (f : Nat → Nat) : ∀ (l : List Nat) (b : Nat), pk f b l ∈ b :: l ∧ ∀ e ∈ b :: l, f e ≤ f (pk f b l)
  | [], b => ⟨List.mem_cons_self, fun e he => by rw [List.mem_singleton.mp he]; exact Nat.le_refl _⟩
  | x :: l, b => by
    unfold pk
    split
    · rename_i h
      obtain ⟨h1, h2⟩ := pk_ok f l x
      refine ⟨List.mem_cons_of_mem _ h1, fun e he => ?_⟩
      rcases List.mem_cons.mp he with q | q
      · rw [q]
        exact Nat.le_trans (Nat.le_of_lt h) (h2 x List.mem_cons_self)
      · exact h2 e q
    · rename_i h
      obtain ⟨h1, h2⟩ := pk_ok f l b
      refine ⟨?_, fun e he => ?_⟩
      · rcases List.mem_cons.mp h1 with q | q
        · rw [q]; exact List.mem_cons_self
        · exact List.mem_cons_of_mem _ (List.mem_cons_of_mem _ q)
      · rcases List.mem_cons.mp he with q | q
        · rw [q]; exact h2 b List.mem_cons_self
        · rcases List.mem_cons.mp q with q | q
          · rw [q]
            have := h2 b List.mem_cons_self
            omega
          · exact h2 e (List.mem_cons_of_mem _ q)
theorem far_ok : Far far := fun r W hne => by
  cases W with
  | nil => exact absurd rfl hne
  | cons b l => exact pk_ok _ l b
theorem pk_congr {f g : Nat → Nat} : ∀ {l : List Nat} {b : Nat}, (∀ a ∈ b :: l, ∀ a' ∈ b :: l, (f a < f a' ↔ g a < g a')) → pk f b l = pk g b l
  | [], b, _ => rfl
  | x :: l, b, h => by
    have hx := h b List.mem_cons_self x (by simp)
    unfold pk
    by_cases z : f b < f x
    · rw [if_pos z, if_pos (hx.mp z)]
      exact pk_congr fun a ha a' ha' => h a (List.mem_cons_of_mem _ ha) a' (List.mem_cons_of_mem _ ha')
    · rw [if_neg z, if_neg fun q => z (hx.mpr q)]
      have sub : ∀ a ∈ b :: l, a ∈ b :: x :: l := fun a ha => by
        rcases List.mem_cons.mp ha with q | q
        · rw [q]; exact List.mem_cons_self
        · exact List.mem_cons_of_mem _ (List.mem_cons_of_mem _ q)
      exact pk_congr fun a ha a' ha' => h a (sub a ha) a' (sub a' ha')
/-- the key in the code -/
def ky (N : Nat) (r : List Nat) (p : Nat) : Nat := if p ∈ r then r.idxOf p else N
theorem far_ky {N : Nat} {r W : List Nat} (hN : r.length ≤ N) {b : Nat} {l : List Nat} (hW : W = b :: l) : far r W = pk (ky N r) b l := by
  subst hW
  refine pk_congr fun a _ a' _ => ?_
  have idx : ∀ p, (p ∈ r → r.idxOf p < r.length) ∧ (p ∉ r → r.idxOf p = r.length) := fun p => ⟨fun h => List.idxOf_lt_length_iff.mpr h, fun h => List.idxOf_eq_length h⟩
  unfold ky
  by_cases h1 : a ∈ r <;> by_cases h2 : a' ∈ r
  · simp [h1, h2]
  · simp only [h1, h2, if_true, if_false]
    have := (idx a).1 h1
    have := (idx a').2 h2
    omega
  · simp only [h1, h2, if_true, if_false]
    have := (idx a').1 h2
    have := (idx a).2 h1
    omega
  · simp only [h1, h2, if_false]
    have := (idx a').2 h2
    have := (idx a).2 h1
    omega
section
variable {m : M}
theorem kfoldS_map {fk : D → M → Option (D × M)} {f : Nat → Nat} : ∀ {l : List Nat}, (∀ a ∈ l, fk (nI a) m = some (nI (f a), m)) → kfoldS fk m (l.map nI) = some (l.map fun a => nI (f a))
  | [], _ => rfl
  | a :: l, h => by
    rw [List.map_cons]
    unfold kfoldS
    rw [h a List.mem_cons_self, kfoldS_map fun b hb => h b (List.mem_cons_of_mem _ hb)]
    simp
theorem pick_map {f : Nat → Nat} : ∀ {l : List Nat} {b : Nat}, pickD true (nI (f b), nI b) ((l.map fun a => nI (f a)).zip (l.map nI)) = (nI (f (pk f b l)), nI (pk f b l))
  | [], b => rfl
  | x :: l, b => by
    have e : betD true (nI (f x)) (nI (f b)) = decide (f b < f x) := by
      show PySem.W.dataLt (.int ((f b : Nat) : Int)) (.int ((f x : Nat) : Int)) = _
      rw [PySem.W.dataLt_int]
      by_cases h : f b < f x
      · rw [decide_eq_true h, decide_eq_true (by omega)]
      · rw [decide_eq_false h, decide_eq_false (by omega)]
    show pickD true (if betD true (nI (f x)) (nI (f b)) = true then (nI (f x), nI x) else (nI (f b), nI b)) ((l.map fun a => nI (f a)).zip (l.map nI)) = _
    rw [e]
    unfold pk
    by_cases h : f b < f x
    · simp only [h, decide_true, if_true]
      exact pick_map
    · simp only [h, decide_false, if_false, Bool.false_eq_true]
      exact pick_map
theorem best_map {fk : D → M → Option (D × M)} {f : Nat → Nat} {b : Nat} {l : List Nat} (h : ∀ a ∈ b :: l, fk (nI a) m = some (nI (f a), m)) : bestKF true fk ((b :: l).map nI) m = some (.val (nI (pk f b l)), m) := by
  unfold bestKF
  rw [kfoldS_map h]
  have c1 : (alikeB ((b :: l).map fun a => nI (f a)) && smallAll ((b :: l).map fun a => nI (f a))) = true := by
    rw [alikeB_of (fun a ha b hb => ?_) (fun a ha => ?_), small_of (fun d hd => ?_)]
    · rfl
    · obtain ⟨x, _, rfl⟩ := List.mem_map.mp hd
      exact Nat.zero_le _
    · obtain ⟨x, _, rfl⟩ := List.mem_map.mp ha
      obtain ⟨y, _, rfl⟩ := List.mem_map.mp hb
      rfl
    · obtain ⟨x, _, rfl⟩ := List.mem_map.mp ha
      exact fun z => nomatch z
  simp only [ob_some, List.map_cons, List.zip_cons_cons]
  rw [List.map_cons] at c1
  rw [if_pos c1, pick_map]
end
end L38

set_option Elab.async false
set_option linter.all false
set_option maxRecDepth 100000
set_option maxHeartbeats 0
namespace L38
open PySem PySem.Spec PyProof.Rows L2 Ev Mk Be
section
variable {m : M} {c : Nat} {calls : List Nat}
theorem key_ok {W r : List Nat} {m : M} {a : Nat} {e0 e2 e3 e4 e5 : Option R} : keyF k_fewest_brings1 [] [e0, some (.val (encT calls)), e2, e3, e4, e5, some (.val (encT r))] (nI a) m = some (nI (ky calls.length r a), m) := by
  unfold keyF
  have e : mskL [] [e0, some (.val (encT calls)), e2, e3, e4, e5, some (.val (encT r))] = [e0, some (.val (encT calls)), e2, e3, e4, e5, some (.val (encT r))] := rfl
  rw [e]
  have p1 : pIn (.val (.int (a : Int))) (.val (encT r)) m = some (.val (.bool (decide (a ∈ r))), m) := pin_N rfl
  unfold ky
  by_cases h : a ∈ r
  · have p2 := pidxT_N (m := m) h
    simp only [k_fewest_brings1, ev_asg, ev_par, ev_if, ev_ret, ev_retN, ev_expr, ev_bin, ev_un, ev_ap, ev_cons, ev_nil, ev_varS, ev_var0, ev_c, ob_some, ev_gNm, ev_tOf, ev_asB, ev_asI, ev_tNot, ev_tAnd, ev_tOr, ev_eOf, ev_eIf, ev_chain, List.set_cons_succ, List.set_cons_zero, ev_then_nx, ev_then_rt, ev_next, ev_pTup, ev_valsC, ev_vals0, ev_eL, ev_bm, ev_aug, pix_t, pix_l, pixq0, pixq1, atI_0, atI_1, atI_2, pp_ii, ps_ii, pa_ii, plt_ii, ple_ii, pgt_ii, pge_ii, peq_ii, pne_ii, pneg_i, List.length_cons, List.length_nil, Nat.reduceAdd, Nat.reduceSub, Nat.reduceLeDiff, sz, if_true, Bool.false_eq_true, if_false, Bool.not_true, Bool.not_false, leave_v, List.take_length, plen_t, plen_l, ptup_l, ptup_t, pint_i, pis_n, pis_i, pis_t, pisnt_n, pisnt_i, pisnt_t, Int.cast_ofNat_Int, ne_eq, not_true_eq_false, not_false_eq_true, decide_true, decide_false, ev_bmT, p1, h]
    show ((pIndexT (.val (encT r)) [.val (.int (a : Int))] m).bind _) = _
    rw [p2]
    rfl
  · simp only [k_fewest_brings1, ev_asg, ev_par, ev_if, ev_ret, ev_retN, ev_expr, ev_bin, ev_un, ev_ap, ev_cons, ev_nil, ev_varS, ev_var0, ev_c, ob_some, ev_gNm, ev_tOf, ev_asB, ev_asI, ev_tNot, ev_tAnd, ev_tOr, ev_eOf, ev_eIf, ev_chain, List.set_cons_succ, List.set_cons_zero, ev_then_nx, ev_then_rt, ev_next, ev_pTup, ev_valsC, ev_vals0, ev_eL, ev_bm, ev_aug, pix_t, pix_l, pixq0, pixq1, atI_0, atI_1, atI_2, pp_ii, ps_ii, pa_ii, plt_ii, ple_ii, pgt_ii, pge_ii, peq_ii, pne_ii, pneg_i, List.length_cons, List.length_nil, Nat.reduceAdd, Nat.reduceSub, Nat.reduceLeDiff, sz, if_true, Bool.false_eq_true, if_false, Bool.not_true, Bool.not_false, leave_v, List.take_length, plen_t, plen_l, ptup_l, ptup_t, pint_i, pis_n, pis_i, pis_t, pisnt_n, pisnt_i, pisnt_t, Int.cast_ofNat_Int, ne_eq, not_true_eq_false, not_false_eq_true, decide_true, decide_false, ev_bmT, p1, h, plen_T]
theorem ev_bestK {mx : Bool} {bs : List Bool} {fb : EF} {fa : AF} {env : Sl} {m : M} : eBestK mx bs fb fa env m = ((fa env m).bind fun x => match x.1 with
  | [r] => some (r, x.2)
  | _ => none).bind fun y => (asL y.1 y.2).bind fun ds => bestKF mx (keyF fb bs env) ds y.2 := rfl
theorem few_ok (hc : 1 ≤ c) (hc3 : c ≤ 3) (hl : calls.length ≤ 12) (hp : ∀ x ∈ calls, x ≤ 9) : m_fewest_brings [.val (.int (c : Int)), .val (encT calls)] m = some (.val (.int ((bel c far calls [] : Nat) : Int)), m) := by
  obtain ⟨e', mm, h, W, n, e4, e5, e6, hW, hWl, hn, rfl, rfl⟩ := loop_inv (gf := gP (.tp (.cons (.nm 4) (.cons (.nm 5) .nil)))) (sf := l_fewest_brings2) encE
    (fun j env mm => ∃ (W : List Nat) (n : Nat) (e4 e5 e6 : Option R), W.Nodup ∧ W.length ≤ c ∧ n + bel c far (calls.drop j) W = bel c far calls [] ∧ env = [some (.val (.int (c : Int))), some (.val (encT calls)), some (.ref m.length), some (.val (.int (n : Int))), e4, e5, e6] ∧ mm = m ++ [.lst (encI W)]) calls.zipIdx
    [some (.val (.int (c : Int))), some (.val (encT calls)), some (.ref m.length), some (.val (.int ((0 : Nat) : Int))), none, none, none] (m ++ [.lst (encI [])]) ⟨[], 0, none, none, none, List.nodup_nil, Nat.zero_le _, by simp, rfl, rfl⟩ fun j p hj env mm ⟨W, n, e4, e5, e6, hW, hWl, hn, he, hm⟩ => by
    subst he hm
    obtain ⟨x, i⟩ := p
    have hj' := List.getElem?_zipIdx (l := calls) (i := 0) (j := j)
    rw [hj] at hj'
    obtain ⟨x', hx', he⟩ := Option.map_eq_some_iff.mp hj'.symm
    obtain ⟨rfl, rfl⟩ := Prod.mk.inj he
    have hjl : j < calls.length := (List.getElem?_eq_some_iff.mp hx').1
    have hd : calls.drop j = x' :: calls.drop (j + 1) := by
      rw [List.drop_eq_getElem_cons hjl]
      congr 1
      exact Option.some.inj ((List.getElem?_eq_getElem hjl).symm.trans hx')
    rw [hd] at hn
    have ge : gP (.tp (.cons (.nm 4) (.cons (.nm 5) .nil))) (.val (encE (x', 0 + j))) [some (.val (.int (c : Int))), some (.val (encT calls)), some (.ref m.length), some (.val (.int (n : Int))), e4, e5, e6] (m ++ [.lst (encI W)]) = some ([some (.val (.int (c : Int))), some (.val (encT calls)), some (.ref m.length), some (.val (.int (n : Int))), some (.val (.int ((0 + j : Nat) : Int))), some (.val (.int (x' : Int))), e6], m ++ [.lst (encI W)]) := rfl
    rw [Nat.zero_add] at ge
    have eI : encE (x', 0 + j) = encE (x', j) := by rw [Nat.zero_add]
    rw [eI]
    generalize hmm : m ++ [Ob.lst (encI W)] = mm at ge ⊢
    have gt : mm[m.length]? = some (.lst (encI W)) := by rw [← hmm]; exact getN
    have al : asL (.ref m.length) mm = some (encI W) := by
      unfold asL
      simp only [gt, ob_some]
    have alt : asLT (.ref m.length) mm = some (encI W) := by
      unfold asLT
      exact al
    have p1 : pNin (.val (.int (x' : Int))) (.ref m.length) mm = some (.val (.bool (!decide (x' ∈ W))), mm) := pnin_N alt
    by_cases hx : x' ∈ W
    · refine ⟨_, mm, [some (.val (.int (c : Int))), some (.val (encT calls)), some (.ref m.length), some (.val (.int (n : Int))), some (.val (.int (j : Int))), some (.val (.int (x' : Int))), e6], mm, ge, ?_, ⟨W, n, some (.val (.int (j : Int))), some (.val (.int (x' : Int))), e6, hW, hWl, ?_, rfl, hmm.symm⟩⟩
      · simp only [l_fewest_brings2, ev_asg, ev_par, ev_if, ev_ret, ev_retN, ev_expr, ev_bin, ev_un, ev_ap, ev_cons, ev_nil, ev_varS, ev_var0, ev_c, ob_some, ev_gNm, ev_tOf, ev_asB, ev_asI, ev_tNot, ev_tAnd, ev_tOr, ev_eOf, ev_eIf, ev_chain, List.set_cons_succ, List.set_cons_zero, ev_then_nx, ev_then_rt, ev_next, ev_pTup, ev_valsC, ev_vals0, ev_eL, ev_bm, ev_aug, pix_t, pix_l, pixq0, pixq1, atI_0, atI_1, atI_2, pp_ii, ps_ii, pa_ii, plt_ii, ple_ii, pgt_ii, pge_ii, peq_ii, pne_ii, pneg_i, List.length_cons, List.length_nil, Nat.reduceAdd, Nat.reduceSub, Nat.reduceLeDiff, sz, if_true, Bool.false_eq_true, if_false, Bool.not_true, Bool.not_false, leave_v, List.take_length, plen_t, plen_l, ptup_l, ptup_t, pint_i, pis_n, pis_i, pis_t, pisnt_n, pisnt_i, pisnt_t, Int.cast_ofNat_Int, ne_eq, not_true_eq_false, not_false_eq_true, decide_true, decide_false, p1, hx]
      · rw [bel_hit hx] at hn
        exact hn
    · have n1 : (n : Int) + 1 = ((n + 1 : Nat) : Int) := by omega
      have pl : pLen [.ref m.length] mm = some (.val (.int ((W.length : Nat) : Int)), mm) := by
        rw [plen_r gt, encI_len]
      by_cases hc2 : W.length = c
      · have hne : W ≠ [] := fun z => by rw [z, List.length_nil] at hc2; omega
        obtain ⟨b, l, hbl⟩ := List.exists_cons_of_ne_nil hne
        have j1 : (j : Int) + 1 = ((j + 1 : Nat) : Int) := by omega
        have cd : cutD (encI calls) (some ((j + 1 : Nat) : Int)) none = encI (calls.drop (j + 1)) := by
          rw [cut_drop]
          unfold encI
          rw [List.map_drop]
        have fk : far (calls.drop (j + 1)) W = pk (ky calls.length (calls.drop (j + 1))) b l := far_ky (by rw [List.length_drop]; omega) hbl
        have fm := (far_ok (calls.drop (j + 1)) W hne).1
        have bk : bestKF true (keyF k_fewest_brings1 [] [some (.val (.int (c : Int))), some (.val (encT calls)), some (.ref m.length), some (.val (.int ((n + 1 : Nat) : Int))), some (.val (.int (j : Int))), some (.val (.int (x' : Int))), some (.val (encT (calls.drop (j + 1))))]) (encI W) mm = some (.val (.int ((far (calls.drop (j + 1)) W : Nat) : Int)), mm) := by
          rw [fk, hbl]
          exact best_map (f := ky calls.length (calls.drop (j + 1))) fun a _ => key_ok (W := W)
        rw [bel_ev hx hc2] at hn
        generalize far (calls.drop (j + 1)) W = fb at fm bk hn
        have rm := remove_enc hW fm gt
        have ef : W.filter (fun j => j != fb) = W.erase fb := (hW.erase_eq_filter fb).symm
        rw [ef] at rm
        have gt2 : (mm.set m.length (.lst (encI (W.erase fb))))[m.length]? = some (.lst (encI (W.erase fb))) := List.getElem?_set_self (List.getElem?_eq_some_iff.mp gt).1
        have ll := er_len fm
        have ap := papp_r (d := .int (x' : Int)) gt2 (by rw [encI_len]; omega)
        have al2 : asL (.ref m.length) (mm.set m.length (.lst (encI (W.erase fb)))) = some (encI (W.erase fb)) := by
          unfold asL
          simp only [gt2, ob_some]
        refine ⟨_, mm, [some (.val (.int (c : Int))), some (.val (encT calls)), some (.ref m.length), some (.val (.int ((n + 1 : Nat) : Int))), some (.val (.int (j : Int))), some (.val (.int (x' : Int))), some (.val (encT (calls.drop (j + 1))))], _, ge, ?_, ⟨W.erase fb ++ [x'], n + 1, some (.val (.int (j : Int))), some (.val (.int (x' : Int))), some (.val (encT (calls.drop (j + 1)))), nodup_snoc (er_nodup hW) (fun z => hx (List.mem_of_mem_erase z)), by rw [List.length_append, List.length_singleton]; omega, ?_, rfl, rfl⟩⟩
        · have fin : m ++ [Ob.lst (encI (W.erase fb ++ [x']))] = (mm.set m.length (.lst (encI (W.erase fb)))).set m.length (.lst (encI (W.erase fb) ++ [.int (x' : Int)])) := by
            rw [List.set_set, ← hmm, setN]
            unfold encI
            rw [List.map_append]
            rfl
          rw [fin]
          have sl : sl1 (.val (encT calls)) (some ((j + 1 : Nat) : Int)) none mm = some (.val (encT (calls.drop (j + 1))), mm) := by
            show sl1 (.val (.tuple (encI calls))) _ _ mm = _
            rw [sl1_t, cd]
            rfl
          simp only [l_fewest_brings2, ev_seq, ev_asg, ev_par, ev_if, ev_ret, ev_retN, ev_expr, ev_bin, ev_un, ev_ap, ev_cons, ev_nil, ev_varS, ev_var0, ev_c, ob_some, ev_gNm, ev_tOf, ev_asB, ev_asI, ev_tNot, ev_tAnd, ev_tOr, ev_eOf, ev_eIf, ev_chain, List.set_cons_succ, List.set_cons_zero, ev_then_nx, ev_then_rt, ev_next, ev_pTup, ev_valsC, ev_vals0, ev_eL, ev_bm, ev_aug, pix_t, pix_l, pixq0, pixq1, atI_0, atI_1, atI_2, pp_ii, ps_ii, pa_ii, plt_ii, ple_ii, pgt_ii, pge_ii, peq_ii, pne_ii, pneg_i, List.length_cons, List.length_nil, Nat.reduceAdd, Nat.reduceSub, Nat.reduceLeDiff, sz, if_true, Bool.false_eq_true, if_false, Bool.not_true, Bool.not_false, leave_v, List.take_length, plen_t, plen_l, ptup_l, ptup_t, pint_i, pis_n, pis_i, pis_t, pisnt_n, pisnt_i, pisnt_t, Int.cast_ofNat_Int, ne_eq, not_true_eq_false, not_false_eq_true, decide_true, decide_false, p1, hx, n1, pl, hc2, ev_sl, ev_oSome, ev_oNone, j1, sl, al, ev_bestK, bk, rm, al2, ap]
        · omega
      · have hc2' : ¬ (((W.length : Nat) : Int) = (c : Int)) := by omega
        have ap := papp_r (d := .int (x' : Int)) gt (by rw [encI_len]; omega)
        refine ⟨_, mm, [some (.val (.int (c : Int))), some (.val (encT calls)), some (.ref m.length), some (.val (.int ((n + 1 : Nat) : Int))), some (.val (.int (j : Int))), some (.val (.int (x' : Int))), e6], _, ge, ?_, ⟨W ++ [x'], n + 1, some (.val (.int (j : Int))), some (.val (.int (x' : Int))), e6, nodup_snoc hW hx, by rw [List.length_append, List.length_singleton]; omega, ?_, rfl, rfl⟩⟩
        · have fin : m ++ [Ob.lst (encI (W ++ [x']))] = mm.set m.length (.lst (encI W ++ [.int (x' : Int)])) := by
            rw [← hmm, setN]
            unfold encI
            rw [List.map_append]
            rfl
          rw [fin]
          simp only [l_fewest_brings2, ev_seq, ev_asg, ev_par, ev_if, ev_ret, ev_retN, ev_expr, ev_bin, ev_un, ev_ap, ev_cons, ev_nil, ev_varS, ev_var0, ev_c, ob_some, ev_gNm, ev_tOf, ev_asB, ev_asI, ev_tNot, ev_tAnd, ev_tOr, ev_eOf, ev_eIf, ev_chain, List.set_cons_succ, List.set_cons_zero, ev_then_nx, ev_then_rt, ev_next, ev_pTup, ev_valsC, ev_vals0, ev_eL, ev_bm, ev_aug, pix_t, pix_l, pixq0, pixq1, atI_0, atI_1, atI_2, pp_ii, ps_ii, pa_ii, plt_ii, ple_ii, pgt_ii, pge_ii, peq_ii, pne_ii, pneg_i, List.length_cons, List.length_nil, Nat.reduceAdd, Nat.reduceSub, Nat.reduceLeDiff, sz, if_true, Bool.false_eq_true, if_false, Bool.not_true, Bool.not_false, leave_v, List.take_length, plen_t, plen_l, ptup_l, ptup_t, pint_i, pis_n, pis_i, pis_t, pisnt_n, pisnt_i, pisnt_t, Int.cast_ofNat_Int, ne_eq, not_true_eq_false, not_false_eq_true, decide_true, decide_false, p1, hx, n1, pl, hc2', al, ap]
        · rw [bel_add hx hc2] at hn
          omega
  have hz : calls.zipIdx.length = calls.length := List.length_zipIdx
  rw [hz, List.drop_length] at hn
  have hn2 : n = bel c far calls [] := by
    have : bel c far [] W = 0 := rfl
    omega
  have ck := check_ok (m := m) (c := c) (calls := calls) hc hc3 hl hp
  have z0 : m ++ [Ob.lst []] = m ++ [Ob.lst (encI [])] := rfl
  rw [← hn2]
  have ee : ∀ mm, en1 [.val (encT calls)] mm = iL (calls.zipIdx.map encE) mm := fun mm => by
    show en1 [.val (.tuple (encI calls))] mm = _
    rw [en1_t, enum_N]
  have z1 : ((0 : Nat) : Int) = 0 := rfl
  rw [z1] at h
  simp only [m_fewest_brings, bodyF, List.length_cons, List.length_nil, Nat.reduceAdd, Nat.reduceSub, List.map_cons, List.map_nil, List.replicate, List.cons_append, List.nil_append, List.append_nil, b_fewest_brings, ev_seq, ev_asg, ev_par, ev_if, ev_ret, ev_retN, ev_expr, ev_bin, ev_un, ev_ap, ev_cons, ev_nil, ev_varS, ev_var0, ev_c, ob_some, ev_gNm, ev_tOf, ev_asB, ev_asI, ev_tNot, ev_tAnd, ev_tOr, ev_eOf, ev_eIf, ev_chain, List.set_cons_succ, List.set_cons_zero, ev_then_nx, ev_then_rt, ev_next, ev_pTup, ev_valsC, ev_vals0, ev_eL, ev_bm, ev_aug, pix_t, pix_l, pixq0, pixq1, atI_0, atI_1, atI_2, pp_ii, ps_ii, pa_ii, plt_ii, ple_ii, pgt_ii, pge_ii, peq_ii, pne_ii, pneg_i, List.length_cons, List.length_nil, Nat.reduceAdd, Nat.reduceSub, Nat.reduceLeDiff, sz, if_true, Bool.false_eq_true, if_false, Bool.not_true, Bool.not_false, leave_v, List.take_length, plen_t, plen_l, ptup_l, ptup_t, pint_i, pis_n, pis_i, pis_t, pisnt_n, pisnt_i, pisnt_t, Int.cast_ofNat_Int, ne_eq, not_true_eq_false, not_false_eq_true, decide_true, decide_false, ck, ev_eNew, ev_nLst, ev_for, it_en, ee, run_iL, h, z0, tk]
end
end L38

set_option Elab.async false
set_option linter.all false
set_option maxRecDepth 100000
set_option maxHeartbeats 0
namespace L38
open PySem PySem.Spec PyProof.Rows L2 Ev Mk Be
theorem encN {n : Nat} : PyData.tuple [.int (n : Int), .int 1] = encQ ((n : Nat) : Rat) := rfl
def hs : Nat → Rat
  | 0 => 0
  | n + 1 => hs n + 1 / ((n + 1 : Nat) : Rat)
theorem hs_ok : ∀ {j : Nat}, j ≤ 3 → Qa.In (6 ^ 1) (hs j) ∧ 0 ≤ hs j ∧ hs j ≤ ((j : Nat) : Rat)
  | 0, _ => ⟨Qa.In.nat 0, by decide, by decide⟩
  | n + 1, h => by
    obtain ⟨a, b, d⟩ := hs_ok (j := n) (by omega)
    have h1 := share_in (t := 0) (n := n + 1) (q := 1) (Qa.In.nat 1) (by omega) h
    have h3 := share_nn (n := n + 1) (q := 1) (by omega) (by decide)
    have h4 := share (n := n + 1) (by omega) (1 : Rat)
    have hn : (1 : Rat) ≤ ((n + 1 : Nat) : Rat) := by
      have : ((1 : Nat) : Rat) ≤ ((n + 1 : Nat) : Rat) := Rat.natCast_le_natCast.mpr (by omega)
      exact_mod_cast this
    have e : (1 : Rat) * (1 / ((n + 1 : Nat) : Rat)) = 1 / ((n + 1 : Nat) : Rat) := by grind
    rw [e] at h1 h3 h4
    have h5 := Rat.mul_le_mul_of_nonneg_left hn h3
    have e1 : ((n + 1 : Nat) : Rat) = ((n : Nat) : Rat) + 1 := by push_cast; rfl
    unfold hs
    refine ⟨a.add h1, ?_, ?_⟩
    · generalize 1 / ((n + 1 : Nat) : Rat) = u at *
      grind
    · generalize 1 / ((n + 1 : Nat) : Rat) = u at *
      rw [h4] at h5
      have : u * 1 = u := by grind
      rw [this] at h5
      rw [e1]
      grind
theorem hs_ge {c : Nat} (h1 : 1 ≤ c) (h3 : c ≤ 3) : ((c : Nat) : Rat) ≤ 2 * hs c := by
  have : c = 1 ∨ c = 2 ∨ c = 3 := by omega
  rcases this with rfl | rfl | rfl
  · simp only [hs]
    push_cast
    grind
  · simp only [hs]
    push_cast
    grind
  · simp only [hs]
    push_cast
    grind
section
variable {rest m : M} {c : Nat}
theorem drawn {te : EF} {k : Nat} {env : Sl} (h : Bx rest m) (hk : 0 < k) (hk2 : k < 1000000) (he : env.length = 12) (h1 : env[1]? = some (some (.ref 0)))
    (ht : ∀ (d : D) (m : M), te ((wipeE env [10]).set 10 (some (.val d))) m = m__law_draw [.ref 0, .val (.int (k : Int))] m) :
    ∃ (l : List Nat) (m' : M), nComp (itRng1 (aCons (eAp m__law_draw (aCons (eVar 1) (aCons (eC (.int 9)) aNil))) aNil)) (.nm 10) [10] tTrue te env m = some (encI l, m') ∧ l.length ≤ 8 ∧ (∀ x ∈ l, x < k) ∧ Bx rest m' := by
  obtain ⟨d, m1, a1, a2, a3⟩ := drawN h (k := 9) (by decide) (by decide)
  have a1' : m__law_draw [.ref 0, .val (.int 9)] m = some (.val (.int (d : Int)), m1) := a1
  have rg := rg1_nat (m := m1) (n := d) (by omega)
  have it : itRng1 (aCons (eAp m__law_draw (aCons (eVar 1) (aCons (eC (.int 9)) aNil))) aNil) env m = iL ((List.range d).map nI) m1 := by
    match env, he with
    | [e0, e1, e2, e3, e4, e5, e6, e7, e8, e9, e10, e11], _ =>
      cases h1
      simp only [it_rg1, ev_asg, ev_par, ev_if, ev_ret, ev_retN, ev_expr, ev_bin, ev_un, ev_ap, ev_cons, ev_nil, ev_varS, ev_var0, ev_c, ob_some, ev_gNm, ev_tOf, ev_asB, ev_asI, ev_tNot, ev_tAnd, ev_tOr, ev_eOf, ev_eIf, ev_chain, List.set_cons_succ, List.set_cons_zero, ev_then_nx, ev_then_rt, ev_next, ev_pTup, ev_valsC, ev_vals0, ev_eL, ev_bm, ev_aug, pix_t, pix_l, pixq0, pixq1, atI_0, atI_1, atI_2, pp_ii, ps_ii, pa_ii, plt_ii, ple_ii, pgt_ii, pge_ii, peq_ii, pne_ii, pneg_i, List.length_cons, List.length_nil, Nat.reduceAdd, Nat.reduceSub, Nat.reduceLeDiff, sz, if_true, Bool.false_eq_true, if_false, Bool.not_true, Bool.not_false, leave_v, List.take_length, plen_t, plen_l, ptup_l, ptup_t, pint_i, pis_n, pis_i, pis_t, pisnt_n, pisnt_i, pisnt_t, Int.cast_ofNat_Int, ne_eq, not_true_eq_false, not_false_eq_true, decide_true, decide_false, a1', rg]
  obtain ⟨ds, m', b1, b2, b3, b4⟩ := clpL_inv (p := .nm 10) (te := te) (env := wipeE env [10]) (Bx rest) (fun d => ∃ v : Nat, d = nI v ∧ v < k) ((List.range d).map nI) m1 a3 fun d hd mm hB => by
    obtain ⟨v, m2, v1, v2, v3⟩ := drawN hB hk hk2
    refine ⟨(wipeE env [10]).set 10 (some (.val d)), nI v, m2, ?_, by rw [ht]; exact v1, ⟨v, rfl, v2⟩, v3⟩
    match env, he with
    | [e0, e1, e2, e3, e4, e5, e6, e7, e8, e9, e10, e11], _ => rfl
  obtain ⟨l, rfl, hl⟩ := unmap b3
  rw [List.length_map, List.length_map, List.length_range] at b2
  refine ⟨l, m', ?_, by omega, hl, b4⟩
  rw [nComp_L it (by rw [List.length_map, List.length_range, sz]; omega)]
  exact b1
theorem mean_in (hc : 1 ≤ c) (hc3 : c ≤ 3) {calls : List Nat} (hl : calls.length ≤ 8) : Qa.In (6 ^ 8) (mean c calls) ∧ 0 ≤ mean c calls ∧ mean c calls ≤ ((8 : Nat) : Rat) := by
  obtain ⟨M, I, _⟩ := run_inv hc hc3 calls
  refine ⟨I.tin.dvd (Nat.pow_dvd_pow 6 hl), I.t0, Rat.le_trans I.tt (Rat.natCast_le_natCast.mpr hl)⟩
theorem law_box (h : Bx rest m) {e0 : Option R} : ∃ m', z_law_2 [e0, some (.ref 0), none, none, none, none, none, none, none, none, none, none] m = some (.rt (.val (.bool true)) m') := by
  obtain ⟨d, m1, a1, a2, a3⟩ := drawN h (k := 3) (by decide) (by decide)
  have a1' : m__law_draw [.ref 0, .val (.int 3)] m = some (.val (.int (d : Int)), m1) := a1
  have c1 : (1 : Int) + (d : Int) = ((d + 1 : Nat) : Int) := by omega
  have hc : 1 ≤ d + 1 := by omega
  have hc3 : d + 1 ≤ 3 := by omega
  have s2 : q_law_2 [e0, some (.ref 0), none, none, none, none, none, none, none, none, none, none] m = some (.nx [e0, some (.ref 0), some (.val (.int ((d + 1 : Nat) : Int))), none, none, none, none, none, none, none, none, none] m1) := by
    simp only [q_law_2, ev_asg, ev_par, ev_if, ev_ret, ev_retN, ev_expr, ev_bin, ev_un, ev_ap, ev_cons, ev_nil, ev_varS, ev_var0, ev_c, ob_some, ev_gNm, ev_tOf, ev_asB, ev_asI, ev_tNot, ev_tAnd, ev_tOr, ev_eOf, ev_eIf, ev_chain, List.set_cons_succ, List.set_cons_zero, ev_then_nx, ev_then_rt, ev_next, ev_pTup, ev_valsC, ev_vals0, ev_eL, ev_bm, ev_aug, pix_t, pix_l, pixq0, pixq1, atI_0, atI_1, atI_2, pp_ii, ps_ii, pa_ii, plt_ii, ple_ii, pgt_ii, pge_ii, peq_ii, pne_ii, pneg_i, List.length_cons, List.length_nil, Nat.reduceAdd, Nat.reduceSub, Nat.reduceLeDiff, sz, if_true, Bool.false_eq_true, if_false, Bool.not_true, Bool.not_false, leave_v, List.take_length, plen_t, plen_l, ptup_l, ptup_t, pint_i, pis_n, pis_i, pis_t, pisnt_n, pisnt_i, pisnt_t, Int.cast_ofNat_Int, ne_eq, not_true_eq_false, not_false_eq_true, decide_true, decide_false, a1', c1]
  generalize d + 1 = c at hc hc3 s2
  obtain ⟨calls, m2, b1, b2, b3, b4⟩ := drawn a3 (k := c + 2) (te := e_law1) (env := [e0, some (.ref 0), some (.val (.int (c : Int))), none, none, none, none, none, none, none, none, none]) (by omega) (by omega) rfl rfl fun d m => by
    have : (c : Int) + 2 = ((c + 2 : Nat) : Int) := by omega
    show e_law1 [e0, some (.ref 0), some (.val (.int (c : Int))), none, none, none, none, none, none, none, some (.val d), none] m = _
    simp only [e_law1, ev_asg, ev_par, ev_if, ev_ret, ev_retN, ev_expr, ev_bin, ev_un, ev_ap, ev_cons, ev_nil, ev_varS, ev_var0, ev_c, ob_some, ev_gNm, ev_tOf, ev_asB, ev_asI, ev_tNot, ev_tAnd, ev_tOr, ev_eOf, ev_eIf, ev_chain, List.set_cons_succ, List.set_cons_zero, ev_then_nx, ev_then_rt, ev_next, ev_pTup, ev_valsC, ev_vals0, ev_eL, ev_bm, ev_aug, pix_t, pix_l, pixq0, pixq1, atI_0, atI_1, atI_2, pp_ii, ps_ii, pa_ii, plt_ii, ple_ii, pgt_ii, pge_ii, peq_ii, pne_ii, pneg_i, List.length_cons, List.length_nil, Nat.reduceAdd, Nat.reduceSub, Nat.reduceLeDiff, sz, if_true, Bool.false_eq_true, if_false, Bool.not_true, Bool.not_false, leave_v, List.take_length, plen_t, plen_l, ptup_l, ptup_t, pint_i, pis_n, pis_i, pis_t, pisnt_n, pisnt_i, pisnt_t, Int.cast_ofNat_Int, ne_eq, not_true_eq_false, not_false_eq_true, decide_true, decide_false, this]
  have s3 : q_law_3 [e0, some (.ref 0), some (.val (.int (c : Int))), none, none, none, none, none, none, none, none, none] m1 = some (.nx [e0, some (.ref 0), some (.val (.int (c : Int))), some (.val (encT calls)), none, none, none, none, none, none, none, none] m2) := by
    simp only [q_law_3, ev_asg, ev_par, ev_if, ev_ret, ev_retN, ev_expr, ev_bin, ev_un, ev_ap, ev_cons, ev_nil, ev_varS, ev_var0, ev_c, ob_some, ev_gNm, ev_tOf, ev_asB, ev_asI, ev_tNot, ev_tAnd, ev_tOr, ev_eOf, ev_eIf, ev_chain, List.set_cons_succ, List.set_cons_zero, ev_then_nx, ev_then_rt, ev_next, ev_pTup, ev_valsC, ev_vals0, ev_eL, ev_bm, ev_aug, pix_t, pix_l, pixq0, pixq1, atI_0, atI_1, atI_2, pp_ii, ps_ii, pa_ii, plt_ii, ple_ii, pgt_ii, pge_ii, peq_ii, pne_ii, pneg_i, List.length_cons, List.length_nil, Nat.reduceAdd, Nat.reduceSub, Nat.reduceLeDiff, sz, if_true, Bool.false_eq_true, if_false, Bool.not_true, Bool.not_false, leave_v, List.take_length, plen_t, plen_l, ptup_l, ptup_t, pint_i, pis_n, pis_i, pis_t, pisnt_n, pisnt_i, pisnt_t, Int.cast_ofNat_Int, ne_eq, not_true_eq_false, not_false_eq_true, decide_true, decide_false, b1]
    rfl
  have mo := mean_ok (m := m2) (calls := calls) hc hc3 (by omega) fun x hx => by have := b3 x hx; omega
  have lm := lmean_ok (m := m2) (calls := calls) hc hc3 (by omega)
  have fo := few_ok (m := m2) (calls := calls) hc hc3 (by omega) fun x hx => by have := b3 x hx; omega
  have ge := mean_ge far_ok hc hc3 calls
  have le := mean_le far_ok hc hc3 calls
  obtain ⟨i1, i2, i3⟩ := mean_in hc hc3 b2
  have bl : bel c far calls [] ≤ 8 := by
    have := Rat.le_trans ge i3
    exact Rat.natCast_le_natCast.mp this
  generalize bel c far calls [] = n at fo ge le bl
  generalize mean c calls = q at mo lm ge le i1 i2 i3
  have h100 : ∀ k : Nat, k ≤ 100 → ((k : Nat) : Rat) ≤ ((100 : Nat) : Rat) := fun k h => Rat.natCast_le_natCast.mpr h
  have sq : SmQ q := smq (t := 8) (by decide) i1 i2 (Rat.le_trans i3 (h100 8 (by decide)))
  have sn : SmQ ((n : Nat) : Rat) := smq (t := 0) (by decide) (Qa.In.nat n) Rat.natCast_nonneg (h100 n (by omega))
  have sc : SmQ ((c : Nat) : Rat) := smq (t := 0) (by decide) (Qa.In.nat c) Rat.natCast_nonneg (h100 c (by omega))
  have s4 : q_law_4 [e0, some (.ref 0), some (.val (.int (c : Int))), some (.val (encT calls)), none, none, none, none, none, none, none, none] m2 = some (.nx [e0, some (.ref 0), some (.val (.int (c : Int))), some (.val (encT calls)), some (.val (encQ q)), none, none, none, none, none, none, none] m2) := by
    simp only [q_law_4, ev_asg, ev_par, ev_if, ev_ret, ev_retN, ev_expr, ev_bin, ev_un, ev_ap, ev_cons, ev_nil, ev_varS, ev_var0, ev_c, ob_some, ev_gNm, ev_tOf, ev_asB, ev_asI, ev_tNot, ev_tAnd, ev_tOr, ev_eOf, ev_eIf, ev_chain, List.set_cons_succ, List.set_cons_zero, ev_then_nx, ev_then_rt, ev_next, ev_pTup, ev_valsC, ev_vals0, ev_eL, ev_bm, ev_aug, pix_t, pix_l, pixq0, pixq1, atI_0, atI_1, atI_2, pp_ii, ps_ii, pa_ii, plt_ii, ple_ii, pgt_ii, pge_ii, peq_ii, pne_ii, pneg_i, List.length_cons, List.length_nil, Nat.reduceAdd, Nat.reduceSub, Nat.reduceLeDiff, sz, if_true, Bool.false_eq_true, if_false, Bool.not_true, Bool.not_false, leave_v, List.take_length, plen_t, plen_l, ptup_l, ptup_t, pint_i, pis_n, pis_i, pis_t, pisnt_n, pisnt_i, pisnt_t, Int.cast_ofNat_Int, ne_eq, not_true_eq_false, not_false_eq_true, decide_true, decide_false, mo]
  have shq : Sh 164 1 (encQ q) := sh_Q (N := 6 ^ 8) (B := 8) (by decide) i1 (by have : (0 : Rat) ≤ ((8 : Nat) : Rat) := Rat.natCast_nonneg; grind) i3 (by decide) (by decide)
  have rp := shq.repr (m := m2) (by decide) (by decide)
  have ne := pNe_shown (m := m2) shq.sm
  have s5 : q_law_5 [e0, some (.ref 0), some (.val (.int (c : Int))), some (.val (encT calls)), some (.val (encQ q)), none, none, none, none, none, none, none] m2 = some (.nx [e0, some (.ref 0), some (.val (.int (c : Int))), some (.val (encT calls)), some (.val (encQ q)), none, none, none, none, none, none, none] m2) := by
    simp only [q_law_5, ev_asg, ev_par, ev_if, ev_ret, ev_retN, ev_expr, ev_bin, ev_un, ev_ap, ev_cons, ev_nil, ev_varS, ev_var0, ev_c, ob_some, ev_gNm, ev_tOf, ev_asB, ev_asI, ev_tNot, ev_tAnd, ev_tOr, ev_eOf, ev_eIf, ev_chain, List.set_cons_succ, List.set_cons_zero, ev_then_nx, ev_then_rt, ev_next, ev_pTup, ev_valsC, ev_vals0, ev_eL, ev_bm, ev_aug, pix_t, pix_l, pixq0, pixq1, atI_0, atI_1, atI_2, pp_ii, ps_ii, pa_ii, plt_ii, ple_ii, pgt_ii, pge_ii, peq_ii, pne_ii, pneg_i, List.length_cons, List.length_nil, Nat.reduceAdd, Nat.reduceSub, Nat.reduceLeDiff, sz, if_true, Bool.false_eq_true, if_false, Bool.not_true, Bool.not_false, leave_v, List.take_length, plen_t, plen_l, ptup_l, ptup_t, pint_i, pis_n, pis_i, pis_t, pisnt_n, pisnt_i, pisnt_t, Int.cast_ofNat_Int, ne_eq, not_true_eq_false, not_false_eq_true, decide_true, decide_false, lm, rp, ne]
  have s6 : q_law_6 [e0, some (.ref 0), some (.val (.int (c : Int))), some (.val (encT calls)), some (.val (encQ q)), none, none, none, none, none, none, none] m2 = some (.nx [e0, some (.ref 0), some (.val (.int (c : Int))), some (.val (encT calls)), some (.val (encQ q)), some (.val (.int (n : Int))), none, none, none, none, none, none] m2) := by
    simp only [q_law_6, ev_asg, ev_par, ev_if, ev_ret, ev_retN, ev_expr, ev_bin, ev_un, ev_ap, ev_cons, ev_nil, ev_varS, ev_var0, ev_c, ob_some, ev_gNm, ev_tOf, ev_asB, ev_asI, ev_tNot, ev_tAnd, ev_tOr, ev_eOf, ev_eIf, ev_chain, List.set_cons_succ, List.set_cons_zero, ev_then_nx, ev_then_rt, ev_next, ev_pTup, ev_valsC, ev_vals0, ev_eL, ev_bm, ev_aug, pix_t, pix_l, pixq0, pixq1, atI_0, atI_1, atI_2, pp_ii, ps_ii, pa_ii, plt_ii, ple_ii, pgt_ii, pge_ii, peq_ii, pne_ii, pneg_i, List.length_cons, List.length_nil, Nat.reduceAdd, Nat.reduceSub, Nat.reduceLeDiff, sz, if_true, Bool.false_eq_true, if_false, Bool.not_true, Bool.not_false, leave_v, List.take_length, plen_t, plen_l, ptup_l, ptup_t, pint_i, pis_n, pis_i, pis_t, pisnt_n, pisnt_i, pisnt_t, Int.cast_ofNat_Int, ne_eq, not_true_eq_false, not_false_eq_true, decide_true, decide_false, fo]
  have s7 : q_law_7 [e0, some (.ref 0), some (.val (.int (c : Int))), some (.val (encT calls)), some (.val (encQ q)), some (.val (.int (n : Int))), none, none, none, none, none, none] m2 = some (.nx [e0, some (.ref 0), some (.val (.int (c : Int))), some (.val (encT calls)), some (.val (encQ q)), some (.val (.int (n : Int))), some (.val (encQ 0)), none, none, none, none, none] m2) := by
    simp only [q_law_7, ev_asg, ev_par, ev_if, ev_ret, ev_retN, ev_expr, ev_bin, ev_un, ev_ap, ev_cons, ev_nil, ev_varS, ev_var0, ev_c, ob_some, ev_gNm, ev_tOf, ev_asB, ev_asI, ev_tNot, ev_tAnd, ev_tOr, ev_eOf, ev_eIf, ev_chain, List.set_cons_succ, List.set_cons_zero, ev_then_nx, ev_then_rt, ev_next, ev_pTup, ev_valsC, ev_vals0, ev_eL, ev_bm, ev_aug, pix_t, pix_l, pixq0, pixq1, atI_0, atI_1, atI_2, pp_ii, ps_ii, pa_ii, plt_ii, ple_ii, pgt_ii, pge_ii, peq_ii, pne_ii, pneg_i, List.length_cons, List.length_nil, Nat.reduceAdd, Nat.reduceSub, Nat.reduceLeDiff, sz, if_true, Bool.false_eq_true, if_false, Bool.not_true, Bool.not_false, leave_v, List.take_length, plen_t, plen_l, ptup_l, ptup_t, pint_i, pis_n, pis_i, pis_t, pisnt_n, pisnt_i, pisnt_t, Int.cast_ofNat_Int, ne_eq, not_true_eq_false, not_false_eq_true, decide_true, decide_false, encQ0]
  have s8 : ∃ e7, q_law_8 [e0, some (.ref 0), some (.val (.int (c : Int))), some (.val (encT calls)), some (.val (encQ q)), some (.val (.int (n : Int))), some (.val (encQ 0)), none, none, none, none, none] m2 = some (.nx [e0, some (.ref 0), some (.val (.int (c : Int))), some (.val (encT calls)), some (.val (encQ q)), some (.val (.int (n : Int))), some (.val (encQ (hs c))), e7, none, none, none, none] m2) := by
    obtain ⟨e', mm0, h, e7, he0, hm0⟩ := loop_inv (gf := gNm 7) (sf := l_law2) nI (fun j env mm => ∃ e7, env = [e0, some (.ref 0), some (.val (.int (c : Int))), some (.val (encT calls)), some (.val (encQ q)), some (.val (.int (n : Int))), some (.val (encQ (hs j))), e7, none, none, none, none] ∧ mm = m2) (List.range' 1 c)
      [e0, some (.ref 0), some (.val (.int (c : Int))), some (.val (encT calls)), some (.val (encQ q)), some (.val (.int (n : Int))), some (.val (encQ 0)), none, none, none, none, none] m2 ⟨none, rfl, rfl⟩ fun j a hj env mm ⟨e7, he, hm⟩ => by
      subst he hm
      have hjl : j < c := by
        have := (List.getElem?_eq_some_iff.mp hj).1
        rwa [List.length_range'] at this
      have ea : a = j + 1 := by
        rw [List.getElem?_range' hjl] at hj
        have := Option.some.inj hj
        omega
      subst ea
      obtain ⟨x1, x2, x3⟩ := hs_ok (j := j) (by omega)
      have sh : SmQ (hs j) := smq (t := 1) (by decide) x1 x2 (Rat.le_trans x3 (h100 j (by omega)))
      have pl := lplus_ok (m := mm) sh (smq_inv (n := j + 1) (by omega) (by omega))
      refine ⟨[e0, some (.ref 0), some (.val (.int (c : Int))), some (.val (encT calls)), some (.val (encQ q)), some (.val (.int (n : Int))), some (.val (encQ (hs j))), some (.val (.int ((j + 1 : Nat) : Int))), none, none, none, none], mm, [e0, some (.ref 0), some (.val (.int (c : Int))), some (.val (encT calls)), some (.val (encQ q)), some (.val (.int (n : Int))), some (.val (encQ (hs (j + 1)))), some (.val (.int ((j + 1 : Nat) : Int))), none, none, none, none], mm, rfl, ?_, ⟨_, rfl, rfl⟩⟩
      simp only [l_law2, ev_asg, ev_par, ev_if, ev_ret, ev_retN, ev_expr, ev_bin, ev_un, ev_ap, ev_cons, ev_nil, ev_varS, ev_var0, ev_c, ob_some, ev_gNm, ev_tOf, ev_asB, ev_asI, ev_tNot, ev_tAnd, ev_tOr, ev_eOf, ev_eIf, ev_chain, List.set_cons_succ, List.set_cons_zero, ev_then_nx, ev_then_rt, ev_next, ev_pTup, ev_valsC, ev_vals0, ev_eL, ev_bm, ev_aug, pix_t, pix_l, pixq0, pixq1, atI_0, atI_1, atI_2, pp_ii, ps_ii, pa_ii, plt_ii, ple_ii, pgt_ii, pge_ii, peq_ii, pne_ii, pneg_i, List.length_cons, List.length_nil, Nat.reduceAdd, Nat.reduceSub, Nat.reduceLeDiff, sz, if_true, Bool.false_eq_true, if_false, Bool.not_true, Bool.not_false, leave_v, List.take_length, plen_t, plen_l, ptup_l, ptup_t, pint_i, pis_n, pis_i, pis_t, pisnt_n, pisnt_i, pisnt_t, Int.cast_ofNat_Int, ne_eq, not_true_eq_false, not_false_eq_true, decide_true, decide_false, inv_enc (n := j + 1) (by omega), pl]
      rfl
    subst he0
    rw [hm0, List.length_range'] at h
    have e1 : (c : Int) + 1 = ((c + 1 : Nat) : Int) := by omega
    have rg := rg2_nat (m := m2) (a := 1) (b := c + 1) (i := 1) (j := ((c + 1 : Nat) : Int)) rfl rfl (by decide) (by omega)
    rw [Nat.add_sub_cancel] at rg
    exact ⟨e7, by simp only [q_law_8, ev_for, it_rg2, ev_asg, ev_par, ev_if, ev_ret, ev_retN, ev_expr, ev_bin, ev_un, ev_ap, ev_cons, ev_nil, ev_varS, ev_var0, ev_c, ob_some, ev_gNm, ev_tOf, ev_asB, ev_asI, ev_tNot, ev_tAnd, ev_tOr, ev_eOf, ev_eIf, ev_chain, List.set_cons_succ, List.set_cons_zero, ev_then_nx, ev_then_rt, ev_next, ev_pTup, ev_valsC, ev_vals0, ev_eL, ev_bm, ev_aug, pix_t, pix_l, pixq0, pixq1, atI_0, atI_1, atI_2, pp_ii, ps_ii, pa_ii, plt_ii, ple_ii, pgt_ii, pge_ii, peq_ii, pne_ii, pneg_i, List.length_cons, List.length_nil, Nat.reduceAdd, Nat.reduceSub, Nat.reduceLeDiff, sz, if_true, Bool.false_eq_true, if_false, Bool.not_true, Bool.not_false, leave_v, List.take_length, plen_t, plen_l, ptup_l, ptup_t, pint_i, pis_n, pis_i, pis_t, pisnt_n, pisnt_i, pisnt_t, Int.cast_ofNat_Int, ne_eq, not_true_eq_false, not_false_eq_true, decide_true, decide_false, e1, rg, run_iL, h]⟩
  obtain ⟨e7, s8⟩ := s8
  obtain ⟨x1, x2, x3⟩ := hs_ok hc3
  have hg := hs_ge hc hc3
  generalize hs c = p at x1 x2 x3 hg s8
  have sp : SmQ p := smq (t := 1) (by decide) x1 x2 (Rat.le_trans x3 (h100 c (by omega)))
  have c3 : ((c : Nat) : Rat) ≤ ((3 : Nat) : Rat) := Rat.natCast_le_natCast.mpr hc3
  have n8 : ((n : Nat) : Rat) ≤ ((8 : Nat) : Rat) := Rat.natCast_le_natCast.mpr bl
  have two2 : ((2 : Nat) : Rat) = 2 := rfl
  have i2p : Qa.In (6 ^ 1) (((2 : Nat) : Rat) * p) := by
    have e : ((2 : Nat) : Rat) * p = p + p := by rw [two2]; grind
    rw [e]
    exact x1.add x1
  have h6 := h100 6 (by decide)
  have sp2 : SmQ (((2 : Nat) : Rat) * p) := smq (t := 1) (by decide) i2p (by rw [two2]; grind) (by rw [two2]; push_cast at *; grind)
  have nn : (0 : Rat) ≤ ((n : Nat) : Rat) := Rat.natCast_nonneg
  have pn : p * ((n : Nat) : Rat) ≤ 24 := by
    have h1 := Rat.mul_le_mul_of_nonneg_left n8 x2
    have h2 : p * ((8 : Nat) : Rat) ≤ 24 := by push_cast at *; grind
    exact Rat.le_trans h1 h2
  have pn0 : 0 ≤ p * ((n : Nat) : Rat) := Rat.mul_nonneg x2 nn
  have ip : Qa.In (6 ^ 1) (p * ((n : Nat) : Rat)) := by
    have := x1.mul (Qa.In.nat (N := 1) n)
    rwa [Nat.mul_one] at this
  have e3 : ((2 : Nat) : Rat) * p * ((n : Nat) : Rat) = p * ((n : Nat) : Rat) + p * ((n : Nat) : Rat) := by rw [two2]; grind
  have sp3 : SmQ (((2 : Nat) : Rat) * p * ((n : Nat) : Rat)) := by
    rw [e3]
    exact smq (t := 1) (by decide) (ip.add ip) (by grind) (by have := h100 48 (by decide); push_cast at *; grind)
  have t1 := ltimes_ok (m := m2) (smq (t := 0) (by decide) (Qa.In.nat 2) Rat.natCast_nonneg (h100 2 (by decide))) sp
  have t2 := ltimes_ok (m := m2) sp2 sn
  have t3 := lplus_ok (m := m2) sp3 sc
  have bd : q ≤ ((2 : Nat) : Rat) * p * ((n : Nat) : Rat) + ((c : Nat) : Rat) := by
    have h1 := Rat.mul_le_mul_of_nonneg_left hg nn
    rw [e3]
    push_cast at le
    grind
  have sbd : SmQ (((2 : Nat) : Rat) * p * ((n : Nat) : Rat) + ((c : Nat) : Rat)) := by
    rw [e3]
    exact smq (t := 1) (by decide) ((ip.add ip).add (Qa.In.nat c)) (by have : (0 : Rat) ≤ ((c : Nat) : Rat) := Rat.natCast_nonneg; grind) (by have := h100 51 (by decide); push_cast at *; grind)
  generalize hbd : ((2 : Nat) : Rat) * p * ((n : Nat) : Rat) + ((c : Nat) : Rat) = bd0 at bd t3 sbd
  have two1 : PyData.tuple [.int 2, .int 1] = encQ ((2 : Nat) : Rat) := rfl
  have s9 : q_law_9 [e0, some (.ref 0), some (.val (.int (c : Int))), some (.val (encT calls)), some (.val (encQ q)), some (.val (.int (n : Int))), some (.val (encQ p)), e7, none, none, none, none] m2 = some (.nx [e0, some (.ref 0), some (.val (.int (c : Int))), some (.val (encT calls)), some (.val (encQ q)), some (.val (.int (n : Int))), some (.val (encQ p)), e7, some (.val (encQ bd0)), none, none, none] m2) := by
    simp only [q_law_9, ev_asg, ev_par, ev_if, ev_ret, ev_retN, ev_expr, ev_bin, ev_un, ev_ap, ev_cons, ev_nil, ev_varS, ev_var0, ev_c, ob_some, ev_gNm, ev_tOf, ev_asB, ev_asI, ev_tNot, ev_tAnd, ev_tOr, ev_eOf, ev_eIf, ev_chain, List.set_cons_succ, List.set_cons_zero, ev_then_nx, ev_then_rt, ev_next, ev_pTup, ev_valsC, ev_vals0, ev_eL, ev_bm, ev_aug, pix_t, pix_l, pixq0, pixq1, atI_0, atI_1, atI_2, pp_ii, ps_ii, pa_ii, plt_ii, ple_ii, pgt_ii, pge_ii, peq_ii, pne_ii, pneg_i, List.length_cons, List.length_nil, Nat.reduceAdd, Nat.reduceSub, Nat.reduceLeDiff, sz, if_true, Bool.false_eq_true, if_false, Bool.not_true, Bool.not_false, leave_v, List.take_length, plen_t, plen_l, ptup_l, ptup_t, pint_i, pis_n, pis_i, pis_t, pisnt_n, pisnt_i, pisnt_t, Int.cast_ofNat_Int, ne_eq, not_true_eq_false, not_false_eq_true, decide_true, decide_false, two1, encN, t1, t2, t3]
  have u1 := more_ok (m := m2) sn sq
  have u2 := more_ok (m := m2) sq sbd
  have d1 : ¬ (q < ((n : Nat) : Rat)) := by grind
  have d2 : ¬ (bd0 < q) := by grind
  have s10 : q_law_10 [e0, some (.ref 0), some (.val (.int (c : Int))), some (.val (encT calls)), some (.val (encQ q)), some (.val (.int (n : Int))), some (.val (encQ p)), e7, some (.val (encQ bd0)), none, none, none] m2 = some (.nx [e0, some (.ref 0), some (.val (.int (c : Int))), some (.val (encT calls)), some (.val (encQ q)), some (.val (.int (n : Int))), some (.val (encQ p)), e7, some (.val (encQ bd0)), none, none, none] m2) := by
    simp only [q_law_10, ev_asg, ev_par, ev_if, ev_ret, ev_retN, ev_expr, ev_bin, ev_un, ev_ap, ev_cons, ev_nil, ev_varS, ev_var0, ev_c, ob_some, ev_gNm, ev_tOf, ev_asB, ev_asI, ev_tNot, ev_tAnd, ev_tOr, ev_eOf, ev_eIf, ev_chain, List.set_cons_succ, List.set_cons_zero, ev_then_nx, ev_then_rt, ev_next, ev_pTup, ev_valsC, ev_vals0, ev_eL, ev_bm, ev_aug, pix_t, pix_l, pixq0, pixq1, atI_0, atI_1, atI_2, pp_ii, ps_ii, pa_ii, plt_ii, ple_ii, pgt_ii, pge_ii, peq_ii, pne_ii, pneg_i, List.length_cons, List.length_nil, Nat.reduceAdd, Nat.reduceSub, Nat.reduceLeDiff, sz, if_true, Bool.false_eq_true, if_false, Bool.not_true, Bool.not_false, leave_v, List.take_length, plen_t, plen_l, ptup_l, ptup_t, pint_i, pis_n, pis_i, pis_t, pisnt_n, pisnt_i, pisnt_t, Int.cast_ofNat_Int, ne_eq, not_true_eq_false, not_false_eq_true, decide_true, decide_false, encN, u1, u2, d1, d2, decide_false]
  obtain ⟨few, m3, f1, f2, f3, f4⟩ := drawn b4 (k := c) (te := e_law3) (env := [e0, some (.ref 0), some (.val (.int (c : Int))), some (.val (encT calls)), some (.val (encQ q)), some (.val (.int (n : Int))), some (.val (encQ p)), e7, some (.val (encQ bd0)), none, none, none]) (by omega) (by omega) rfl rfl fun d m => by
    show e_law3 [e0, some (.ref 0), some (.val (.int (c : Int))), some (.val (encT calls)), some (.val (encQ q)), some (.val (.int (n : Int))), some (.val (encQ p)), e7, some (.val (encQ bd0)), none, some (.val d), none] m = _
    simp only [e_law3, ev_asg, ev_par, ev_if, ev_ret, ev_retN, ev_expr, ev_bin, ev_un, ev_ap, ev_cons, ev_nil, ev_varS, ev_var0, ev_c, ob_some, ev_gNm, ev_tOf, ev_asB, ev_asI, ev_tNot, ev_tAnd, ev_tOr, ev_eOf, ev_eIf, ev_chain, List.set_cons_succ, List.set_cons_zero, ev_then_nx, ev_then_rt, ev_next, ev_pTup, ev_valsC, ev_vals0, ev_eL, ev_bm, ev_aug, pix_t, pix_l, pixq0, pixq1, atI_0, atI_1, atI_2, pp_ii, ps_ii, pa_ii, plt_ii, ple_ii, pgt_ii, pge_ii, peq_ii, pne_ii, pneg_i, List.length_cons, List.length_nil, Nat.reduceAdd, Nat.reduceSub, Nat.reduceLeDiff, sz, if_true, Bool.false_eq_true, if_false, Bool.not_true, Bool.not_false, leave_v, List.take_length, plen_t, plen_l, ptup_l, ptup_t, pint_i, pis_n, pis_i, pis_t, pisnt_n, pisnt_i, pisnt_t, Int.cast_ofNat_Int, ne_eq, not_true_eq_false, not_false_eq_true, decide_true, decide_false]
  have s11 : q_law_11 [e0, some (.ref 0), some (.val (.int (c : Int))), some (.val (encT calls)), some (.val (encQ q)), some (.val (.int (n : Int))), some (.val (encQ p)), e7, some (.val (encQ bd0)), none, none, none] m2 = some (.nx [e0, some (.ref 0), some (.val (.int (c : Int))), some (.val (encT calls)), some (.val (encQ q)), some (.val (.int (n : Int))), some (.val (encQ p)), e7, some (.val (encQ bd0)), some (.val (encT few)), none, none] m3) := by
    simp only [q_law_11, ev_asg, ev_par, ev_if, ev_ret, ev_retN, ev_expr, ev_bin, ev_un, ev_ap, ev_cons, ev_nil, ev_varS, ev_var0, ev_c, ob_some, ev_gNm, ev_tOf, ev_asB, ev_asI, ev_tNot, ev_tAnd, ev_tOr, ev_eOf, ev_eIf, ev_chain, List.set_cons_succ, List.set_cons_zero, ev_then_nx, ev_then_rt, ev_next, ev_pTup, ev_valsC, ev_vals0, ev_eL, ev_bm, ev_aug, pix_t, pix_l, pixq0, pixq1, atI_0, atI_1, atI_2, pp_ii, ps_ii, pa_ii, plt_ii, ple_ii, pgt_ii, pge_ii, peq_ii, pne_ii, pneg_i, List.length_cons, List.length_nil, Nat.reduceAdd, Nat.reduceSub, Nat.reduceLeDiff, sz, if_true, Bool.false_eq_true, if_false, Bool.not_true, Bool.not_false, leave_v, List.take_length, plen_t, plen_l, ptup_l, ptup_t, pint_i, pis_n, pis_i, pis_t, pisnt_n, pisnt_i, pisnt_t, Int.cast_ofNat_Int, ne_eq, not_true_eq_false, not_false_eq_true, decide_true, decide_false, f1]
    rfl
  have mf := mean_ok (m := m3) (calls := few) hc hc3 (by omega) fun x hx => by have := f3 x hx; omega
  rw [mean_few hc f3] at mf
  have cm : nComp (itAny (eVar 9)) (.nm 11) [11] tTrue e_law4 [e0, some (.ref 0), some (.val (.int (c : Int))), some (.val (encT calls)), some (.val (encQ q)), some (.val (.int (n : Int))), some (.val (encQ p)), e7, some (.val (encQ bd0)), some (.val (encT few)), none, none] m3 = some (few.map fun y => PyData.tuple [nI y, .bool true], m3) :=
    comp_all nI (fun y => .tuple [nI y, .bool true]) few rfl (by omega) fun a ha => ⟨[e0, some (.ref 0), some (.val (.int (c : Int))), some (.val (encT calls)), some (.val (encQ q)), some (.val (.int (n : Int))), some (.val (encQ p)), e7, some (.val (encQ bd0)), some (.val (encT few)), none, some (.val (.int (a : Int)))], rfl, by
      simp only [e_law4, ev_asg, ev_par, ev_if, ev_ret, ev_retN, ev_expr, ev_bin, ev_un, ev_ap, ev_cons, ev_nil, ev_varS, ev_var0, ev_c, ob_some, ev_gNm, ev_tOf, ev_asB, ev_asI, ev_tNot, ev_tAnd, ev_tOr, ev_eOf, ev_eIf, ev_chain, List.set_cons_succ, List.set_cons_zero, ev_then_nx, ev_then_rt, ev_next, ev_pTup, ev_valsC, ev_vals0, ev_eL, ev_bm, ev_aug, pix_t, pix_l, pixq0, pixq1, atI_0, atI_1, atI_2, pp_ii, ps_ii, pa_ii, plt_ii, ple_ii, pgt_ii, pge_ii, peq_ii, pne_ii, pneg_i, List.length_cons, List.length_nil, Nat.reduceAdd, Nat.reduceSub, Nat.reduceLeDiff, sz, if_true, Bool.false_eq_true, if_false, Bool.not_true, Bool.not_false, leave_v, List.take_length, plen_t, plen_l, ptup_l, ptup_t, pint_i, pis_n, pis_i, pis_t, pisnt_n, pisnt_i, pisnt_t, Int.cast_ofNat_Int, ne_eq, not_true_eq_false, not_false_eq_true, decide_true, decide_false]⟩
  have dp := dictP_ok (m := m3) (l := few)
  have hdd : few.foldl insN [] = few.foldl dd [] := rfl
  rw [hdd] at dp
  generalize few.foldl dd [] = D at dp mf
  have dl := dlen_n (m := m3 ++ [.dct false false (kF nI tru D)]) (j := m3.length) (f := tru) (ks := D) getN
  have eT : PyData.tuple [.int ((D.length : Nat) : Int), .int 1] = encT [D.length, 1] := rfl
  have eQ : encQ ((D.length : Nat) : Rat) = encT [D.length, 1] := rfl
  rw [eQ] at mf
  have eq := peq_dd (m := m3) (shT [D.length, 1]) (shT [D.length, 1])
  rw [eqv_T] at eq
  have s12 : q_law_12 [e0, some (.ref 0), some (.val (.int (c : Int))), some (.val (encT calls)), some (.val (encQ q)), some (.val (.int (n : Int))), some (.val (encQ p)), e7, some (.val (encQ bd0)), some (.val (encT few)), none, none] m3 = some (.rt (.val (.bool true)) m3) := by
    simp only [q_law_12, ev_asg, ev_par, ev_if, ev_ret, ev_retN, ev_expr, ev_bin, ev_un, ev_ap, ev_cons, ev_nil, ev_varS, ev_var0, ev_c, ob_some, ev_gNm, ev_tOf, ev_asB, ev_asI, ev_tNot, ev_tAnd, ev_tOr, ev_eOf, ev_eIf, ev_chain, List.set_cons_succ, List.set_cons_zero, ev_then_nx, ev_then_rt, ev_next, ev_pTup, ev_valsC, ev_vals0, ev_eL, ev_bm, ev_aug, pix_t, pix_l, pixq0, pixq1, atI_0, atI_1, atI_2, pp_ii, ps_ii, pa_ii, plt_ii, ple_ii, pgt_ii, pge_ii, peq_ii, pne_ii, pneg_i, List.length_cons, List.length_nil, Nat.reduceAdd, Nat.reduceSub, Nat.reduceLeDiff, sz, if_true, Bool.false_eq_true, if_false, Bool.not_true, Bool.not_false, leave_v, List.take_length, plen_t, plen_l, ptup_l, ptup_t, pint_i, pis_n, pis_i, pis_t, pisnt_n, pisnt_i, pisnt_t, Int.cast_ofNat_Int, ne_eq, not_true_eq_false, not_false_eq_true, decide_true, decide_false, mf, ev_cut, cm, dp, dl, tk, eT, eq]
  refine ⟨m3, ?_⟩
  simp only [z_law_2, z_law_3, z_law_4, z_law_5, z_law_6, z_law_7, z_law_8, z_law_9, z_law_10, z_law_11, z_law_12, ev_seq, s2, s3, s4, s5, s6, s7, s8, s9, s10, s11, s12, ob_some, ev_then_nx]
end
theorem law_true (ns : List Int) (_ : ns.length ≤ 63) : ∃ m, m_law [.val (.list (ns.map .int))] [] = some (.val (.bool true), m) := by
  obtain ⟨c, hc⟩ : ∃ c : Int, m__law_cell [.val (.list (ns.map .int)), .val (.int 0)] [] = some (.val (.int c), []) := by
    by_cases h : 0 < ns.length
    · obtain ⟨a, l, rfl⟩ : ∃ a l, ns = a :: l := by
        cases ns with
        | nil => simp at h
        | cons a l => exact ⟨a, l, rfl⟩
      refine ⟨a, ?_⟩
      have h2 : (0 : Int) < (((a :: l).length : Nat) : Int) := by omega
      simp only [m__law_cell, bodyF, b__law_cell]
      simp
    · refine ⟨0, ?_⟩
      have : ns = [] := by
        cases ns with
        | nil => rfl
        | cons a l => simp at h
      subst this
      simp [m__law_cell, bodyF, b__law_cell]
  have hs : ∃ m, m__law_stream [.val (.list (ns.map .int)), .val (.int 0)] [] = some (.ref 0, m) ∧ Bx [] m := by
    have e : ∀ i : Int, pMod (.val (.int i)) (.val (.int 1000003)) [] = some (.val (.int (i % 1000003)), []) := fun i => pmd_ii (by decide)
    refine ⟨[Ob.lst [.int (if c < 0 then -c else c), .int ((if c < 0 then -c else c) % 1000003 + 7)]], ?_, ⟨_, _, rfl, ?_, ?_, ?_⟩⟩
    · simp [m__law_stream, bodyK, b__law_stream, hc, e]
    · split <;> omega
    · have := Int.emod_nonneg (if c < 0 then -c else c) (show (1000003 : Int) ≠ 0 by decide)
      omega
    · have := Int.emod_lt_of_pos (if c < 0 then -c else c) (show (0 : Int) < 1000003 by decide)
      omega
  obtain ⟨m, hs, hB⟩ := hs
  obtain ⟨m', hb⟩ := law_box hB (e0 := some (.val (.list (ns.map .int))))
  refine ⟨[], ?_⟩
  have s1 : q_law_1 [some (.val (.list (ns.map .int))), none, none, none, none, none, none, none, none, none, none, none] [] = some (.nx [some (.val (.list (ns.map .int))), some (.ref 0), none, none, none, none, none, none, none, none, none, none] m) := by
    simp only [q_law_1, ev_asg, ev_par, ev_if, ev_ret, ev_retN, ev_expr, ev_bin, ev_un, ev_ap, ev_cons, ev_nil, ev_varS, ev_var0, ev_c, ob_some, ev_gNm, ev_tOf, ev_asB, ev_asI, ev_tNot, ev_tAnd, ev_tOr, ev_eOf, ev_eIf, ev_chain, List.set_cons_succ, List.set_cons_zero, ev_then_nx, ev_then_rt, ev_next, ev_pTup, ev_valsC, ev_vals0, ev_eL, ev_bm, ev_aug, pix_t, pix_l, pixq0, pixq1, atI_0, atI_1, atI_2, pp_ii, ps_ii, pa_ii, plt_ii, ple_ii, pgt_ii, pge_ii, peq_ii, pne_ii, pneg_i, List.length_cons, List.length_nil, Nat.reduceAdd, Nat.reduceSub, Nat.reduceLeDiff, sz, if_true, Bool.false_eq_true, if_false, Bool.not_true, Bool.not_false, leave_v, List.take_length, plen_t, plen_l, ptup_l, ptup_t, pint_i, pis_n, pis_i, pis_t, pisnt_n, pisnt_i, pisnt_t, Int.cast_ofNat_Int, ne_eq, not_true_eq_false, not_false_eq_true, decide_true, decide_false, hs]
  simp only [m_law, bodyF, List.length_cons, List.length_nil, Nat.reduceAdd, Nat.reduceSub, List.map_cons, List.map_nil, List.replicate, List.cons_append, List.nil_append, List.append_nil, b_law, z_law_1, ev_seq, s1, ob_some, ev_then_nx, hb, leave]
  rfl
end L38

open PySem PySem.W PyProof.Rows in
set_option maxRecDepth 100000 in
set_option maxHeartbeats 0 in
theorem PySem.Challenge.cw_allnights_k38_whole_marks_holds : PySem.Challenge.rw_allnights_k38_whole_marks.Holds := by
  w_on; o_law; k_head; (case hw => w_witness2)
  k_fill
  refine Ev.law_end (l := PySem.Challenge.rw_allnights_k38_whole_marks) (k := 9) (F := L38.m_law) (x := "script") rfl rfl ⟨rfl, by decide, by decide⟩ ?F L38.law_true
  case F =>
    intro w mg fa h Y G hmg
    have KX := PySem.W.km_in_of Y
    have hT := PySem.W.km_tabs_of Y
    refine' L38.fin KX ?kt hmg (Ev.hasCode KX G (fun _ _ _ _ _ _ us hl => match us, hl with | [_, _], _ => rfl) ?a_fewest_brings ?l_fewest_brings ?c_fewest_brings ?nf_fewest_brings ?nc_fewest_brings) ?lc_fewest_brings ?hp_fewest_brings ?hd_fewest_brings ?tT_fewest_brings ?nd ?d__law_cell ?d__law_stream ?d_is_integer ?d_is_between ?d_check_calls ?d_after_call ?d_common ?d_fraction ?d_plus ?d_times ?d_mean_brings ?d__law_lowest ?d__law_plus ?d__law_draw ?d__law_times ?d__law_more ?d__law_mean ?d_law ?k_MOST_CALLS ?k_MOST_MARKED ?k_MOST_PLACES ?k_MOST_PLATE ?z_abs ?z_all ?z_bool ?z_dict ?z_enumerate ?z_int ?z_isinstance ?z_len ?z_max ?z_range ?z_repr ?z_sorted ?z_tuple
    (case kt => kernel_rfl)
    (case a_fewest_brings => k_is)
    (case l_fewest_brings => k_is)
    (case c_fewest_brings => k_is)
    (case lc_fewest_brings => k_is)
    (case hp_fewest_brings => rfl)
    (case hd_fewest_brings => kernel_rfl)
    (case tT_fewest_brings => exact hT _ (by decide))
    (case nf_fewest_brings => rfl)
    (case nc_fewest_brings => rfl)
    (case nd => decide)
    case d__law_cell =>
      refine' Ev.HasCode.def_ (Ev.hasCode KX G (fun _ _ _ _ _ _ us hl => match us, hl with | [_, _], _ => rfl) ?a ?l ?c ?nf ?nc)
      (case a => k_is)
      (case l => k_is)
      (case c => k_is)
      (case nf => rfl)
      (case nc => rfl)
    case d__law_stream =>
      refine' Ev.HasCode.def_ (Ev.hasCode KX G (fun _ _ _ _ _ _ us hl => match us, hl with | [_, _], _ => rfl) ?a ?l ?c ?nf ?nc)
      (case a => k_is)
      (case l => k_is)
      (case c => k_is)
      (case nf => rfl)
      (case nc => rfl)
    case d_is_integer =>
      refine' Ev.HasCode.def_ (Ev.hasCode KX G (fun _ _ _ _ _ _ us hl => match us, hl with | [_], _ => rfl) ?a ?l ?c ?nf ?nc)
      (case a => k_is)
      (case l => k_is)
      (case c => k_is)
      (case nf => rfl)
      (case nc => rfl)
    case d_is_between =>
      refine' Ev.HasCode.def_ (Ev.hasCode KX G (fun _ _ _ _ _ _ us hl => match us, hl with | [_, _, _], _ => rfl) ?a ?l ?c ?nf ?nc)
      (case a => k_is)
      (case l => k_is)
      (case c => k_is)
      (case nf => rfl)
      (case nc => rfl)
    case d_check_calls =>
      refine' Ev.HasCode.def_ (Ev.hasCode KX G (fun _ _ _ _ _ _ us hl => match us, hl with | [_, _], _ => rfl) ?a ?l ?c ?nf ?nc)
      (case a => k_is)
      (case l => k_is)
      (case c => k_is)
      (case nf => rfl)
      (case nc => rfl)
    case d_after_call =>
      refine' Ev.HasCode.def_ (Ev.hasCode KX G (fun _ _ _ _ _ _ us hl => match us, hl with | [_, _, _, _], _ => rfl) ?a ?l ?c ?nf ?nc)
      (case a => k_is)
      (case l => k_is)
      (case c => k_is)
      (case nf => rfl)
      (case nc => rfl)
    case d_common =>
      refine' Ev.HasCode.def_ (Ev.hasCode KX G (fun _ _ _ _ _ _ us hl => match us, hl with | [_, _], _ => rfl) ?a ?l ?c ?nf ?nc)
      (case a => k_is)
      (case l => k_is)
      (case c => k_is)
      (case nf => rfl)
      (case nc => rfl)
    case d_fraction =>
      refine' Ev.HasCode.def_ (Ev.hasCode KX G (fun _ _ _ _ _ _ us hl => match us, hl with | [_, _], _ => rfl) ?a ?l ?c ?nf ?nc)
      (case a => k_is)
      (case l => k_is)
      (case c => k_is)
      (case nf => rfl)
      (case nc => rfl)
    case d_plus =>
      refine' Ev.HasCode.def_ (Ev.hasCode KX G (fun _ _ _ _ _ _ us hl => match us, hl with | [_, _], _ => rfl) ?a ?l ?c ?nf ?nc)
      (case a => k_is)
      (case l => k_is)
      (case c => k_is)
      (case nf => rfl)
      (case nc => rfl)
    case d_times =>
      refine' Ev.HasCode.def_ (Ev.hasCode KX G (fun _ _ _ _ _ _ us hl => match us, hl with | [_, _], _ => rfl) ?a ?l ?c ?nf ?nc)
      (case a => k_is)
      (case l => k_is)
      (case c => k_is)
      (case nf => rfl)
      (case nc => rfl)
    case d_mean_brings =>
      refine' Ev.HasCode.def_ (Ev.hasCode KX G (fun _ _ _ _ _ _ us hl => match us, hl with | [_, _], _ => rfl) ?a ?l ?c ?nf ?nc)
      (case a => k_is)
      (case l => k_is)
      (case c => k_is)
      (case nf => rfl)
      (case nc => rfl)
    case d__law_lowest =>
      refine' Ev.HasCode.def_ (Ev.hasCode KX G (fun _ _ _ _ _ _ us hl => match us, hl with | [_, _], _ => rfl) ?a ?l ?c ?nf ?nc)
      (case a => k_is)
      (case l => k_is)
      (case c => k_is)
      (case nf => rfl)
      (case nc => rfl)
    case d__law_plus =>
      refine' Ev.HasCode.def_ (Ev.hasCode KX G (fun _ _ _ _ _ _ us hl => match us, hl with | [_, _], _ => rfl) ?a ?l ?c ?nf ?nc)
      (case a => k_is)
      (case l => k_is)
      (case c => k_is)
      (case nf => rfl)
      (case nc => rfl)
    case d__law_draw =>
      refine' Ev.HasCode.def_ (Ev.hasCode KX G (fun _ _ _ _ _ _ us hl => match us, hl with | [_, _], _ => rfl) ?a ?l ?c ?nf ?nc)
      (case a => k_is)
      (case l => k_is)
      (case c => k_is)
      (case nf => rfl)
      (case nc => rfl)
    case d__law_times =>
      refine' Ev.HasCode.def_ (Ev.hasCode KX G (fun _ _ _ _ _ _ us hl => match us, hl with | [_, _], _ => rfl) ?a ?l ?c ?nf ?nc)
      (case a => k_is)
      (case l => k_is)
      (case c => k_is)
      (case nf => rfl)
      (case nc => rfl)
    case d__law_more =>
      refine' Ev.HasCode.def_ (Ev.hasCode KX G (fun _ _ _ _ _ _ us hl => match us, hl with | [_, _], _ => rfl) ?a ?l ?c ?nf ?nc)
      (case a => k_is)
      (case l => k_is)
      (case c => k_is)
      (case nf => rfl)
      (case nc => rfl)
    case d__law_mean =>
      refine' Ev.HasCode.def_ (Ev.hasCode KX G (fun _ _ _ _ _ _ us hl => match us, hl with | [_, _], _ => rfl) ?a ?l ?c ?nf ?nc)
      (case a => k_is)
      (case l => k_is)
      (case c => k_is)
      (case nf => rfl)
      (case nc => rfl)
    case d_law =>
      refine' Ev.HasCode.def_ (Ev.hasCode KX G (fun _ _ _ _ _ _ us hl => match us, hl with | [_], _ => rfl) ?a ?l ?c ?nf ?nc)
      (case a => k_is)
      (case l => k_is)
      (case c => k_is)
      (case nf => rfl)
      (case nc => rfl)
    case k_MOST_CALLS =>
      refine' Ev.cst_ KX G ?a ?e
      (case a => k_is)
      (case e => exact ⟨_, rfl⟩)
    case k_MOST_MARKED =>
      refine' Ev.cst_ KX G ?a ?e
      (case a => k_is)
      (case e => exact ⟨_, rfl⟩)
    case k_MOST_PLACES =>
      refine' Ev.cst_ KX G ?a ?e
      (case a => k_is)
      (case e => exact ⟨_, rfl⟩)
    case k_MOST_PLATE =>
      refine' Ev.cst_ KX G ?a ?e
      (case a => k_is)
      (case e => exact ⟨_, rfl⟩)
    case z_abs =>
      refine' PySem.W.mg_none_of KX G ?a
      (case a => k_is)
    case z_all =>
      refine' PySem.W.mg_none_of KX G ?a
      (case a => k_is)
    case z_bool =>
      refine' PySem.W.mg_none_of KX G ?a
      (case a => k_is)
    case z_dict =>
      refine' PySem.W.mg_none_of KX G ?a
      (case a => k_is)
    case z_enumerate =>
      refine' PySem.W.mg_none_of KX G ?a
      (case a => k_is)
    case z_int =>
      refine' PySem.W.mg_none_of KX G ?a
      (case a => k_is)
    case z_isinstance =>
      refine' PySem.W.mg_none_of KX G ?a
      (case a => k_is)
    case z_len =>
      refine' PySem.W.mg_none_of KX G ?a
      (case a => k_is)
    case z_max =>
      refine' PySem.W.mg_none_of KX G ?a
      (case a => k_is)
    case z_range =>
      refine' PySem.W.mg_none_of KX G ?a
      (case a => k_is)
    case z_repr =>
      refine' PySem.W.mg_none_of KX G ?a
      (case a => k_is)
    case z_sorted =>
      refine' PySem.W.mg_none_of KX G ?a
      (case a => k_is)
    case z_tuple =>
      refine' PySem.W.mg_none_of KX G ?a
      (case a => k_is)
