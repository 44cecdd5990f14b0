import PyProof.Rows.All
import Wide.All
import OpenK.AllK
import Wide.FinOn
import HandS.ForMost
import HandS.ForExc
import HandS.HotCalls
import HandS.ExcIs
import HandS.Walk
import HandS.Deep
import HandS.IsInst
import HandS.TupAny
import HandS.TupMul
import HandS.Strs
import KE.SortData
import HandS.Wide
import KE.DataCmp
import HandS.Style
import PyProof.StrBlock2
import KE.DataEq
import KE.DataIsa
import KE.DataFind
import HandS.Conv
import PyProof.SeqIndex
import HandS.SetFor
import KE.KTryMore
import PyProof.EnumMake
import PyProof.WalksEnum
import PyProof.Draws
import PySem.Challenge.RW_wirereadings_k40_whole_again_and_kept
set_option Elab.async false
set_option linter.all false
set_option maxRecDepth 100000
set_option maxHeartbeats 4000000
/-! New tuples, with the object known: it has no dict of its own. -/
namespace Sim
open PySem PySem.Spec L2 PyProof.Rows
section
variable {X : Cx}
/-- what is wanted of a new tuple -/
abbrev NewT (H : Hp) (xs : List V) (Q : VK) : Prop := ∀ (p : Addr) (o : PySem.Obj), H p = none → o.dict = none → Q (.ref p) (upd H p (.frz o (.tup xs)))
theorem okZ {P : Program} {w : World} {H : Hp} {h : Heap} {a : Addr} {o : PySem.Obj} {xs : List V} {us : List Value} {n : Nat} (g : h.get? a = some o) (c : o.cls = .type "tuple") (d : o.data = .seq us.toArray n) (z : xs.length ≤ sizeLine) (r : Vals xs us) : ObjOk P w H h a (.frz o (.tup xs)) :=
  ⟨g, z, us, r, ⟨o, g, c, n, d⟩⟩
theorem pe_tupZ {es : List Expr} {t : TA} {k : Nat} {pos : Pos} (h : PA X es t) : PE X (.Tuple es k pos) (fun σ H Q => t σ H fun xs H1 => xs.length ≤ sizeLine ∧ NewT H1 xs Q) := by
  constructor
  intro pins s0 σ H Q I hq
  apply wpAny_Tuple_spliced
  refine thn (h.run pos pins s0 σ H _ I hq) ?_
  rintro us sA ⟨xs, HA, IA, r, z, q⟩
  refine ⟨by rw [← r.length]; exact z, .ref sA.heap.objs.size, upd HA sA.heap.objs.size (.frz _ (.tup xs)), IA.laid (t' := sA.toks) (fun b u e => Heap.get?_push_of_some _ e) (Nat.le_refl _) (okZ (Heap.get?_push_size _ rfl) rfl rfl z r), rfl, ?_⟩
  exact q _ _ (IA.hok.fresh (Nat.le_refl _)) rfl
def rCatZ (K : PySem.W.Frag) : R2 := fun x y H Q => ∃ a b xs ys, x = .ref a ∧ y = .ref b ∧ SqT K H a xs ∧ SqT K H b ys ∧ xs.length + ys.length ≤ sizeLine ∧
  (xs = [] → Q (.ref b) H) ∧ (xs ≠ [] → ys = [] → Q (.ref a) H) ∧ (xs ≠ [] → ys ≠ [] → NewT H (xs ++ ys) Q)
theorem op_catZ : OpR X (binaryOp .Add) (rCatZ X.K) := by
  intro pins s σ H x y v u Q I rx ry h
  obtain ⟨a, b, xs, ys, rfl, rfl, ta, tb, hz, w0, w1, w2⟩ := h
  by_cases hx : xs = []
  · refine op_catA pins s σ H _ _ v u Q I rx ry ⟨a, b, xs, ys, rfl, rfl, ta, tb, hz, w0, w1, fun z => absurd hx z⟩
  · cases rx
    cases ry
    obtain ⟨us, ra, pa, _⟩ := I.tuple ta
    obtain ⟨vs, rb, pb, _⟩ := I.tuple tb
    apply HT.cat_tup pa pb
    · exact fun z => hx (ra.nil_iff.mp z)
    · exact fun z => ⟨.ref a, H, I, rfl, w1 hx (rb.nil_iff.mp z)⟩
    · intro z
      refine ⟨.ref s.heap.objs.size, upd H s.heap.objs.size (.frz _ (.tup (xs ++ ys))), I.laid (t' := s.toks) (fun _ _ g => Heap.get?_push_of_some _ g) (Nat.le_refl _) (okZ (us := us ++ vs) (Heap.get?_push_size _ rfl) rfl rfl (by rw [List.length_append]; exact hz) (ra.append rb)), rfl, ?_⟩
      exact w2 hx (fun e => z (rb.nil_iff.mpr e)) _ _ (I.hok.fresh (Nat.le_refl _)) rfl
    · rw [← ra.length, ← rb.length]; exact hz
def rSlZ (K : PySem.W.Frag) : V → Option Int → Option Int → Hp → VK → Prop := fun x lo hi H Q => ∃ a xs, x = .ref a ∧ SqT K H a xs ∧
  (HT.sIx xs.length 0 lo = 0 ∧ HT.sIx xs.length xs.length hi = xs.length → Q (.ref a) H) ∧ (¬ (HT.sIx xs.length 0 lo = 0 ∧ HT.sIx xs.length xs.length hi = xs.length) → NewT H (cutV xs lo hi) Q)
theorem sl_tupZ : SlR X (rSlZ X.K) := by
  intro pins s σ H x v vl vu lo hi sl Q I rx hs pl pu h
  obtain ⟨a, xs, rfl, tx, w1, w2⟩ := h
  by_cases hw : HT.sIx xs.length 0 lo = 0 ∧ HT.sIx xs.length xs.length hi = xs.length
  · exact sl_tupA pins s σ H _ v vl vu lo hi sl Q I rx hs pl pu ⟨a, xs, rfl, tx, w1, fun z => absurd hw z⟩
  · cases rx
    obtain ⟨us, r, pt, hz⟩ := I.tuple tx
    have el : us.toArray.size = xs.length := by rw [List.size_toArray, ← r.length]
    refine ⟨"tuple", _, PyProof.Rows.slot_tuple_getitem.lookup, pt.typeIs, ?_⟩
    apply HT.getItem_tuple_cut pt hs pl pu (by rw [el]; exact hw) _ (by rw [el]; exact hz)
    rw [el]
    refine ⟨.ref s.heap.objs.size, upd H s.heap.objs.size (.frz _ (.tup (cutV xs lo hi))), I.laid (t' := s.toks) (fun _ _ g => Heap.get?_push_of_some _ g) (Nat.le_refl _) (okZ (Heap.get?_push_size _ rfl) rfl rfl (Nat.le_trans (cutV_length xs lo hi) hz) ?_), rfl, ?_⟩
    · exact (r.drop (HT.sIx xs.length 0 lo)).take _
    · exact w2 hw _ _ (I.hok.fresh (Nat.le_refl _)) rfl
def rRepZ (K : PySem.W.Frag) : R2 := fun x y H Q => ∃ a m vs, x = .ref a ∧ y = .int m ∧ SqT K H a vs ∧ (vs ≠ [] ∧ vs.length ≤ 1000) ∧ (2 ≤ m ∧ m ≤ 1000) ∧ NewT H (List.replicate m.toNat vs).flatten Q
theorem repZ_len {m : Int} {n : Nat} (hm : m ≤ 1000) (hn : n ≤ 1000) : m.toNat * n ≤ sizeLine := by
  refine Nat.le_trans (Nat.mul_le_mul (show m.toNat ≤ 1000 by omega) hn) ?_
  rw [sizeLine_eq]; decide
theorem op_repZ : OpR X (binaryOp .Mult) (rRepZ X.K) := by
  intro pins s σ H x y v u Q I rx ry h
  obtain ⟨a, m, vs, rfl, rfl, sq, ⟨ne, l1⟩, ⟨m1, m2⟩, q⟩ := h
  cases rx
  obtain ⟨tk, rfl⟩ := ry
  obtain ⟨us, rv, ⟨⟨c, od, da, ss⟩, g, ec, w, ed⟩, _⟩ := I.tuple sq
  simp only at ec ed
  subst ec ed
  have lu : us.length = vs.length := rv.length.symm
  have lp : 0 < us.length := by rw [lu]; exact List.length_pos_iff.mpr ne
  have emp : us.toArray.isEmpty = false := by
    match us, lp with
    | _ :: _, _ => rfl
  have zs : (us.toArray.size : Int) = vs.length := by rw [List.size_toArray, lu]
  have zm : (us.toArray.size : Int) * m ≤ 1000000 := by
    rw [zs]
    exact Int.le_trans (Int.mul_le_mul_of_nonneg_right (show ((vs.length : Nat) : Int) ≤ 1000 by omega) (by omega)) (by omega)
  have fl : (List.replicate m.toNat us).flatten.length ≤ sizeLine := by
    rw [PyProof.Rows.lm_len_rep_flat, lu]; exact repZ_len m2 l1
  have b0 : (decide (m < -(2 ^ 63)) || decide (m ≥ 2 ^ 63)) = false := by simp; omega
  have b1 : (us.toArray.isEmpty || m == 1) = false := by rw [emp, Bool.false_or]; simp only [beq_eq_false_iff_ne]; omega
  have b2 : (decide (m ≤ 0) || us.toArray.isEmpty) = false := by rw [emp, Bool.or_false]; simp only [decide_eq_false_iff_not]; omega
  have b4 : Builtin.Tuple.tupleTooMany ((us.toArray.size : Int) * m) = false := by
    unfold Builtin.Tuple.tupleTooMany; rw [sizeLine_eq]; simp only [decide_eq_false_iff_not]; omega
  have mk := tuple_mulW a us.toArray w od ss m tk b0 b1 b2 (by omega) b4 (by rw [size_rep, List.size_toArray]; exact fl)
  refine wpAny_binaryOp_repeat_ref (T := "tuple") (U := "int") (by decide) ⟨_, g, rfl⟩ (fun s' => typeIs_int s' m tk) noFill_tuple_mul F.fills_int_mul F.slot_int_rmul repeat_tuple F.slot_int_index.lookup ?_
  refine call_meets F.slot_int_rmul (typeIs_int s m tk) F.entry_int_rmul (F.args_int_rmul_2 _ _) (int_rmul_tuple m tk a us.toArray w od ss) ⟨g, rfl, ⟨_, g, rfl⟩, ?_⟩
  refine call_meets F.slot_tuple_mul ⟨_, g, rfl⟩ F.entry_tuple_mul (F.args_tuple_mul_2 _ _) mk ⟨g, ?_⟩
  rw [size_rep]
  refine ⟨.ref s.heap.objs.size, upd H s.heap.objs.size (.frz _ (.tup (List.replicate m.toNat vs).flatten)), I.laid (t' := s.toks) (fun _ _ e => Heap.get?_push_of_some _ e) (Nat.le_refl _) (okZ (Heap.get?_push_size _ rfl) rfl rfl ?_ (rv.rep m.toNat)), rfl, q _ _ (I.hok.fresh (Nat.le_refl _)) rfl⟩
  rw [PyProof.Rows.lm_len_rep_flat]; exact repZ_len m2 l1
theorem call_tupleZ : CallR X (.type "tuple") (fun xs H Q => ∃ p ys, xs = [.ref p] ∧ ((SqL X.K H p ys ∧ NewT H ys Q) ∨ (SqT X.K H p ys ∧ Q (.ref p) H))) := by
  intro pins s σ H xs us Q I r h
  obtain ⟨p, ys, rfl, h⟩ := h
  rcases h with ⟨hq, q⟩ | ⟨hq, q⟩
  · obtain ⟨its, rv, pl, hz⟩ := I.list hq
    rw [Vals.ref1 r]
    have hl := rv.length
    apply call_tuple_list pl.isList _ (by rw [List.size_toArray]; omega)
    intro h' kp
    have IA : L2.Inv X pins σ H { s with heap := h' } := I.kept (t' := s.toks) kp
    refine ⟨.ref h'.objs.size, upd H h'.objs.size (.frz _ (.tup ys)), IA.laid (t' := s.toks) (fun _ _ e => Heap.get?_push_of_some _ e) (Nat.le_refl _) (okZ (Heap.get?_push_size _ rfl) rfl rfl hz rv), rfl, ?_⟩
    exact q _ _ (IA.hok.fresh (Nat.le_refl _)) rfl
  · exact call_tuple_of pins s σ H _ us Q I r ⟨p, ys, rfl, .inr ⟨hq, q⟩⟩
end
end Sim

/-! Sim: a data semantics of a def's text, and that the model keeps it. -/
namespace Sim
open PySem L2

abbrev D := PyData
/-- what a listener holds -/
structure LS where
  form : D
  tick : D
  bits : D
  told : D
  past : List D
/-- the state: how many draws there were; the listeners -/
structure Sta where
  n : Nat
  ls : List LS
inductive R (α : Type) where
  | ok (a : α) (n : Sta)
  | exc (c : Nat) (n : Sta)
  | bad
abbrev M (α : Type) := Sta → R α
def ret {α : Type} (a : α) : M α := fun n => .ok a n
def seq {α β : Type} (x : M α) (f : α → M β) : M β := fun n => match x n with
  | .ok a m => f a m
  | .exc c m => .exc c m
  | .bad => .bad
def fault {α : Type} : M α := fun _ => .bad
def lift {α : Type} (o : Option α) : M α := match o with
  | some a => ret a
  | none => fault

abbrev OS := Addr → Prop
def KT (K : PySem.W.Frag) (a : Addr) (xs : List V) : Prop := ∃ (o : Obj) (its : Array Value) (n : Nat), K.lookup a = some o ∧ o.cls = .type "tuple" ∧ o.dict = none ∧ o.data = .seq its n ∧ its.size ≤ sizeLine ∧ Vals xs its.toList
def KL (K : PySem.W.Frag) (a : Addr) (xs : List V) : Prop := ∃ (o : Obj) (its : Array Value) (n : Nat), K.lookup a = some o ∧ o.cls = .type "list" ∧ o.dict = none ∧ o.data = .seq its n ∧ its.size ≤ sizeLine ∧ Vals xs its.toList
def LAt (H : Hp) (O : OS) (a : Addr) (xs : List V) : Prop := Rd H a (.lst xs) ∧ ¬ O a
def TAt (K : PySem.W.Frag) (H : Hp) (O : OS) (a : Addr) (xs : List V) : Prop := (∃ o : Obj, o.dict = none ∧ H a = some (.frz o (.tup xs)) ∧ ¬ O a) ∨ KT K a xs
mutual
/-- the value v is the datum d, none of whose objects is owned -/
inductive Rep (K : PySem.W.Frag) (H : Hp) (O : OS) : V → D → Prop
  | non : Rep K H O .non .none
  | bl (b : Bool) : Rep K H O (.bl b) (.bool b)
  | int (i : Int) : Rep K H O (.int i) (.int i)
  | str (x : Str) : Rep K H O (.str x) (.str x)
  | lst {a : Addr} {xs : List V} {ds : List D} : LAt H O a xs → Reps K H O xs ds → Rep K H O (.ref a) (.list ds)
  | tup {a : Addr} {xs : List V} {ds : List D} : TAt K H O a xs → Reps K H O xs ds → Rep K H O (.ref a) (.tuple ds)
inductive Reps (K : PySem.W.Frag) (H : Hp) (O : OS) : List V → List D → Prop
  | nil : Reps K H O [] []
  | cons {v : V} {vs : List V} {d : D} {ds : List D} : Rep K H O v d → Reps K H O vs ds → Reps K H O (v :: vs) (d :: ds)
end
/-- what is not owned stays, and is not owned later -/
def Step (O : OS) (H : Hp) (O' : OS) (H' : Hp) : Prop := ∀ a o, H a = some o → ¬ O a → H' a = some o ∧ ¬ O' a
theorem Step.refl (O : OS) (H : Hp) : Step O H O H := fun _ _ h n => ⟨h, n⟩
theorem Step.trans {O O1 O2 : OS} {H H1 H2 : Hp} (a : Step O H O1 H1) (b : Step O1 H1 O2 H2) : Step O H O2 H2 := fun x o h n => b x o (a x o h n).1 (a x o h n).2
section
variable {K : PySem.W.Frag} {H H' : Hp} {O O' : OS}
theorem rd_step (st : Step O H O' H') {a : Addr} {u : HO} (r : Rd H a u) (n : ¬ O a) : Rd H' a u ∧ ¬ O' a := by
  rcases r with h | ⟨o, h⟩
  · exact ⟨.inl (st a _ h n).1, (st a _ h n).2⟩
  · exact ⟨.inr ⟨o, (st a _ h n).1⟩, (st a _ h n).2⟩
theorem LAt.step (st : Step O H O' H') {a : Addr} {xs : List V} (h : LAt H O a xs) : LAt H' O' a xs := rd_step st h.1 h.2
theorem TAt.step (st : Step O H O' H') {a : Addr} {xs : List V} (h : TAt K H O a xs) : TAt K H' O' a xs := by
  rcases h with ⟨o, d, h, n⟩ | h
  · exact .inl ⟨o, d, st a _ h n⟩
  · exact .inr h
mutual
theorem Rep.step (st : Step O H O' H') : ∀ (d : D) (v : V), Rep K H O v d → Rep K H' O' v d
  | .none, v, h => by cases h; exact .non
  | .bool b, v, h => by cases h; exact .bl b
  | .int i, v, h => by cases h; exact .int i
  | .str x, v, h => by cases h; exact .str x
  | .list ds, v, h => by
    cases h with
    | lst h1 h2 => exact .lst (h1.step st) (Reps.step st ds _ h2)
  | .tuple ds, v, h => by
    cases h with
    | tup h1 h2 => exact .tup (h1.step st) (Reps.step st ds _ h2)
  | .dict _, v, h => by cases h
theorem Reps.step (st : Step O H O' H') : ∀ (ds : List D) (vs : List V), Reps K H O vs ds → Reps K H' O' vs ds
  | [], vs, h => by cases h; exact .nil
  | d :: ds, vs, h => by
    cases h with
    | cons h1 h2 => exact .cons (Rep.step st d _ h1) (Reps.step st ds _ h2)
end
mutual
theorem Rep.anti (le : ∀ a, O' a → O a) : ∀ (d : D) (v : V), Rep K H O v d → Rep K H O' v d
  | .none, v, h => by cases h; exact .non
  | .bool b, v, h => by cases h; exact .bl b
  | .int i, v, h => by cases h; exact .int i
  | .str x, v, h => by cases h; exact .str x
  | .list ds, v, h => by
    cases h with
    | lst h1 h2 => exact .lst ⟨h1.1, fun q => h1.2 (le _ q)⟩ (Reps.anti le ds _ h2)
  | .tuple ds, v, h => by
    cases h with
    | tup h1 h2 => exact .tup (h1.elim (fun ⟨o, d, h, z⟩ => .inl ⟨o, d, h, fun q => z (le _ q)⟩) .inr) (Reps.anti le ds _ h2)
  | .dict _, v, h => by cases h
theorem Reps.anti (le : ∀ a, O' a → O a) : ∀ (ds : List D) (vs : List V), Reps K H O vs ds → Reps K H O' vs ds
  | [], vs, h => by cases h; exact .nil
  | d :: ds, vs, h => by
    cases h with
    | cons h1 h2 => exact .cons (Rep.anti le d _ h1) (Reps.anti le ds _ h2)
end
theorem LAt.sq {a : Addr} {xs : List V} (h : LAt H O a xs) : SqL K H a xs := .inl h.1
theorem TAt.sq {a : Addr} {xs : List V} (h : TAt K H O a xs) : SqT K H a xs := h.elim (fun ⟨o, _, h, _⟩ => .inl (.inr ⟨o, h⟩)) (fun ⟨o, its, n, l, c, _, d, z, v⟩ => .inr ⟨o, its, n, l, c, d, z, v⟩)
mutual
theorem Rep.dp : ∀ (d : D) (v : V), Rep K H O v d → Dp K H v d
  | .none, v, h => by cases h; exact .non
  | .bool b, v, h => by cases h; exact .bl b
  | .int i, v, h => by cases h; exact .int i
  | .str x, v, h => by cases h; exact .str x
  | .list ds, v, h => by
    cases h with
    | lst h1 h2 => exact .lst h1.sq (Reps.dp ds _ h2)
  | .tuple ds, v, h => by
    cases h with
    | tup h1 h2 => exact .tup h1.sq (Reps.dp ds _ h2)
  | .dict _, v, h => by cases h
theorem Reps.dp : ∀ (ds : List D) (vs : List V), Reps K H O vs ds → DpAll K H vs ds
  | [], vs, h => by cases h; exact .nil
  | d :: ds, vs, h => by
    cases h with
    | cons h1 h2 => exact .cons (Rep.dp d _ h1) (Reps.dp ds _ h2)
end
theorem Reps.length : ∀ {vs : List V} {ds : List D}, Reps K H O vs ds → vs.length = ds.length
  | _, _, .nil => rfl
  | _, _, .cons _ h => congrArg (· + 1) (Reps.length h)
theorem Reps.append : ∀ {vs ws : List V} {ds es : List D}, Reps K H O vs ds → Reps K H O ws es → Reps K H O (vs ++ ws) (ds ++ es)
  | _, _, _, _, .nil, q => q
  | _, _, _, _, .cons r h, q => .cons r (Reps.append h q)
theorem Reps.at : ∀ {vs : List V} {ds : List D} {i : Nat} {v : V}, Reps K H O vs ds → vs[i]? = some v → ∃ d, ds[i]? = some d ∧ Rep K H O v d
  | _, _, _, _, .nil, e => by simp at e
  | _, _, 0, _, .cons r _, e => by simp at e; subst e; exact ⟨_, rfl, r⟩
  | _, _, i + 1, v, .cons _ t, e => by
    obtain ⟨u, h1, h2⟩ := Reps.at (i := i) (v := v) t (by simpa using e)
    exact ⟨u, by simpa using h1, h2⟩
theorem Reps.of : ∀ {vs : List V} {ds : List D} {i : Nat} {d : D}, Reps K H O vs ds → ds[i]? = some d → ∃ v, vs[i]? = some v ∧ Rep K H O v d
  | _, _, _, _, .nil, e => by simp at e
  | _, _, 0, _, .cons r _, e => by simp at e; subst e; exact ⟨_, rfl, r⟩
  | _, _, i + 1, v, .cons _ t, e => by
    obtain ⟨u, h1, h2⟩ := Reps.of (i := i) (d := v) t (by simpa using e)
    exact ⟨u, by simpa using h1, h2⟩
theorem Reps.take : ∀ {vs : List V} {ds : List D} (k : Nat), Reps K H O vs ds → Reps K H O (vs.take k) (ds.take k)
  | _, _, 0, _ => .nil
  | _, _, _ + 1, .nil => .nil
  | _, _, k + 1, .cons r t => .cons r (Reps.take k t)
theorem Reps.drop : ∀ {vs : List V} {ds : List D} (k : Nat), Reps K H O vs ds → Reps K H O (vs.drop k) (ds.drop k)
  | _, _, 0, r => r
  | _, _, _ + 1, .nil => .nil
  | _, _, k + 1, .cons _ t => Reps.drop k t
theorem Reps.set {v : V} {d : D} (r : Rep K H O v d) : ∀ {vs : List V} {ds : List D} (i : Nat), Reps K H O vs ds → Reps K H O (vs.set i v) (ds.set i d)
  | _, _, _, .nil => .nil
  | _, _, 0, .cons _ t => .cons r t
  | _, _, i + 1, .cons q t => .cons q (Reps.set r i t)
theorem Reps.reverse {vs : List V} {ds : List D} (h : Reps K H O vs ds) : Reps K H O vs.reverse ds.reverse := by
  induction h using Reps.rec (motive_1 := fun _ _ _ => True) with
  | nil => exact .nil
  | cons r t ih => rename_i ih2; simp only [List.reverse_cons]; exact Reps.append ih2 (.cons r .nil)
  | _ => trivial
end

/-! ### what a slot holds -/
inductive SV where
  | d (x : D)
  | own (xs : List D)
  | town
  | scr (ns : List Int)
  | ex (a : Addr)
  | lis (k : Nat)
  | dic (kvs : List (D × D))
def SV.ow : SV → Bool
  | .own _ => true
  | .dic _ => true
  | _ => false
/-- the script at a -/
def ScrAt (K : PySem.W.Frag) (H : Hp) (O : OS) (a : Addr) (ns : List Int) : Prop := LAt H O a (ns.map V.int) ∨ KL K a (ns.map V.int)
theorem ScrAt.step {K : PySem.W.Frag} {H H' : Hp} {O O' : OS} (st : Step O H O' H') {a : Addr} {ns : List Int} (h : ScrAt K H O a ns) : ScrAt K H' O' a ns := h.imp (fun z => z.step st) id
theorem ScrAt.sq {K : PySem.W.Frag} {H : Hp} {O : OS} {a : Addr} {ns : List Int} (h : ScrAt K H O a ns) : SqL K H a (ns.map V.int) := h.elim (fun z => z.sq) .inr
theorem ScrAt.anti {K : PySem.W.Frag} {H : Hp} {O O' : OS} (le : ∀ a, O' a → O a) {a : Addr} {ns : List Int} (h : ScrAt K H O a ns) : ScrAt K H O' a ns := h.imp (fun z => ⟨z.1, fun q => z.2 (le _ q)⟩) id
abbrev Env := List (Option SV)
/-! ### what may change: the town, the listeners -/
structure LA where
  a : Addr
  dx : Addr
  pa : Addr
structure Hot where
  t : Addr
  K : PySem.W.Frag
  C : Addr
  L : List LA
def Hot.has (T : Hot) (x : Addr) : Prop := x = T.t ∨ ∃ l ∈ T.L, x = l.a ∨ x = l.pa
def nf : HO → Bool
  | .frz _ _ => false
  | _ => true
/-- there is a thing, and it may change -/
def NF (H : Hp) : OS := fun a => ∃ o, H a = some o ∧ nf o = true
theorem NF.ne {H : Hp} {a : Addr} (h : NF H a) : H a ≠ none := fun z => by obtain ⟨o, e, _⟩ := h; rw [e] at z; cases z
/-- a def's body: what stands fixed while it runs -/
structure Bd where
  K : PySem.W.Frag
  H0 : Hp
  O0 : OS
  T : Hot
  E : XK
  cv : Nat → Value
def Ext (T : Hot) (H H' : Hp) : Prop := ∀ a o, ¬ T.has a → H a = some o → H' a = some o
theorem Ext.refl (T : Hot) (H : Hp) : Ext T H H := fun _ _ _ h => h
theorem Ext.trans {T : Hot} {H H1 H2 : Hp} (a : Ext T H H1) (b : Ext T H1 H2) : Ext T H H2 := fun x o n h => b x o n (a x o n h)
def zeros (n : Nat) : List V := List.replicate n (.int 0)
/-- a listener at la -/
def L1 (K : PySem.W.Frag) (C : Addr) (H : Hp) (la : LA) (l : LS) : Prop := ∃ (f t b d : V) (vs : List V), H la.a = some (.ins C la.dx [("form", f), ("tick", t), ("bits", b), ("told", d), ("past", .ref la.pa)]) ∧ H la.pa = some (.lst vs) ∧
  Rep K H (NF H) f l.form ∧ Rep K H (NF H) t l.tick ∧ Rep K H (NF H) b l.bits ∧ Rep K H (NF H) d l.told ∧ Reps K H (NF H) vs l.past
inductive LsOk (K : PySem.W.Frag) (C : Addr) (H : Hp) : List LA → List LS → Prop
  | nil : LsOk K C H [] []
  | cons {la : LA} {l : LS} {las : List LA} {ls : List LS} : L1 K C H la l → LsOk K C H las ls → LsOk K C H (la :: las) (l :: ls)
def Hot.Ok (T : Hot) : Prop := (∀ l ∈ T.L, l.pa ≠ T.t) ∧ T.L.Pairwise (fun x y => x.a ≠ y.a ∧ x.pa ≠ y.pa)
def Town (T : Hot) (H : Hp) (n : Sta) : Prop := H T.t = some (.lst (zeros n.n)) ∧ LsOk T.K T.C H T.L n.ls ∧ T.Ok
theorem LsOk.nf {K : PySem.W.Frag} {C : Addr} {H : Hp} : ∀ {las : List LA} {ls : List LS}, LsOk K C H las ls → ∀ l ∈ las, NF H l.a ∧ NF H l.pa
  | _, _, .nil, l, h => by cases h
  | _, _, .cons h1 h2, l, h => by
    rcases List.mem_cons.mp h with rfl | h
    · obtain ⟨f, t, b, d, vs, e1, e2, _⟩ := h1
      exact ⟨⟨_, e1, rfl⟩, ⟨_, e2, rfl⟩⟩
    · exact LsOk.nf h2 l h
theorem Town.nf {T : Hot} {H : Hp} {n : Sta} (h : Town T H n) {a : Addr} (ha : T.has a) : NF H a := by
  rcases ha with rfl | ⟨l, hl, rfl | rfl⟩
  · exact ⟨_, h.1, rfl⟩
  · exact (h.2.1.nf l hl).1
  · exact (h.2.1.nf l hl).2
theorem Town.cold {T : Hot} {H : Hp} {n : Sta} (h : Town T H n) {a : Addr} (ha : H a = none) : ¬ T.has a := fun z => (h.nf z).ne ha
/-- what is known to its object stays -/
def Firm (H H' : Hp) : Prop := ∀ a o u, H a = some (.frz o u) → H' a = some (.frz o u)
theorem Firm.step {H H' : Hp} (f : Firm H H') : Step (NF H) H (NF H') H' := fun a o h na => by
  cases o with
  | frz ob u =>
    have e := f a ob u h
    exact ⟨e, fun ⟨o', e', n'⟩ => by rw [e] at e'; cases e'; cases n'⟩
  | _ => exact absurd ⟨_, h, rfl⟩ na
theorem L1.firm {K : PySem.W.Frag} {C : Addr} {H H' : Hp} {la : LA} {l : LS} (f : Firm H H') (h1 : H' la.a = H la.a) (h2 : H' la.pa = H la.pa) (h : L1 K C H la l) : L1 K C H' la l := by
  obtain ⟨vf, vt, vb, vd, vs, e1, e2, r1, r2, r3, r4, r5⟩ := h
  exact ⟨vf, vt, vb, vd, vs, h1.trans e1, h2.trans e2, Rep.step f.step _ _ r1, Rep.step f.step _ _ r2, Rep.step f.step _ _ r3, Rep.step f.step _ _ r4, Reps.step f.step _ _ r5⟩
theorem LsOk.firm {K : PySem.W.Frag} {C : Addr} {H H' : Hp} (f : Firm H H') : ∀ {las : List LA} {ls : List LS}, (∀ l ∈ las, H' l.a = H l.a ∧ H' l.pa = H l.pa) → LsOk K C H las ls → LsOk K C H' las ls
  | _, _, _, .nil => .nil
  | _, _, k, .cons h1 h2 => .cons (h1.firm f (k _ List.mem_cons_self).1 (k _ List.mem_cons_self).2) (LsOk.firm f (fun l hl => k l (List.mem_cons_of_mem _ hl)) h2)
theorem LsOk.len {K : PySem.W.Frag} {C : Addr} {H : Hp} : ∀ {las : List LA} {ls : List LS}, LsOk K C H las ls → las.length = ls.length
  | _, _, .nil => rfl
  | _, _, .cons _ h => congrArg (· + 1) (LsOk.len h)
theorem LsOk.at {K : PySem.W.Frag} {C : Addr} {H : Hp} : ∀ {las : List LA} {ls : List LS} {k : Nat} {la : LA}, LsOk K C H las ls → las[k]? = some la → ∃ l, ls[k]? = some l ∧ L1 K C H la l
  | _, _, _, _, .nil, e => by simp at e
  | _, _, 0, _, .cons r _, e => by simp at e; subst e; exact ⟨_, rfl, r⟩
  | _, _, k + 1, la, .cons _ t, e => by
    obtain ⟨u, h1, h2⟩ := LsOk.at (k := k) (la := la) t (by simpa using e)
    exact ⟨u, by simpa using h1, h2⟩
theorem Town.keep {T : Hot} {H H' : Hp} {n : Sta} (t : Town T H n) (f : Firm H H') (k : ∀ a, T.has a → H' a = H a) : Town T H' n :=
  ⟨(k _ (.inl rfl)).trans t.1, t.2.1.firm f fun l hl => ⟨k _ (.inr ⟨l, hl, .inl rfl⟩), k _ (.inr ⟨l, hl, .inr rfl⟩)⟩, t.2.2⟩
theorem same_town {T : Hot} {n : Sta} {H H' : Hp} (s : Same H H') (t : Town T H n) : Town T H' n := t.keep (fun a o u h => s a _ h) fun a ha => by
  obtain ⟨o, e, _⟩ := t.nf ha
  rw [e]; exact s a o e
/-- an owned dict: its entries -/
def DObj (o : HO) (vs : List (V × V)) : Prop := ∃ kv : List (Key × V), o = .dK kv ∧ vs = kv.map fun p => (kV p.1, p.2)
inductive RepP (K : PySem.W.Frag) (H : Hp) (O : OS) : List (V × V) → List (D × D) → Prop
  | nil : RepP K H O [] []
  | cons {k v : V} {vs : List (V × V)} {a b : D} {ds : List (D × D)} : Rep K H O k a → Rep K H O v b → RepP K H O vs ds → RepP K H O ((k, v) :: vs) ((a, b) :: ds)
theorem RepP.step {K : PySem.W.Frag} {H H' : Hp} {O O' : OS} (st : Step O H O' H') {vs : List (V × V)} {ds : List (D × D)} (h : RepP K H O vs ds) : RepP K H' O' vs ds := by
  induction h with
  | nil => exact .nil
  | cons h1 h2 _ ih => exact .cons (Rep.step st _ _ h1) (Rep.step st _ _ h2) ih
def SlotOk (B : Bd) (H : Hp) (O : OS) (v : V) : SV → Prop
  | .d x => Rep B.K H O v x
  | .own xs => ∃ a vs, v = .ref a ∧ O a ∧ ¬ B.O0 a ∧ ¬ B.T.has a ∧ H a = some (.lst vs) ∧ Reps B.K H O vs xs
  | .town => v = .ref B.T.t
  | .scr ns => ∃ a, v = .ref a ∧ ScrAt B.K H O a ns
  | .ex a => v = .ref a
  | .lis k => ∃ la, B.T.L[k]? = some la ∧ v = .ref la.a
  | .dic kvs => ∃ a o vs, v = .ref a ∧ O a ∧ ¬ B.O0 a ∧ ¬ B.T.has a ∧ H a = some o ∧ DObj o vs ∧ RepP B.K H O vs kvs
structure Sim (B : Bd) (env : Env) (O : OS) (n : Sta) (σ : L2.St) (H : Hp) : Prop where
  len : env.length = σ.length
  slot : ∀ (i : Nat) (sv : SV), env[i]? = some (some sv) → ∃ v, σ[i]? = some (some v) ∧ SlotOk B H O v sv
  sep : ∀ (i j : Nat) (sv tv : SV) (v : V), i ≠ j → env[i]? = some (some sv) → sv.ow = true → env[j]? = some (some tv) → tv.ow = true → σ[i]? = some (some v) → σ[j]? ≠ some (some v)
  dom : ∀ a, O a → NF H a
  town : Town B.T H n
  tO : ∀ a, B.T.has a → O a
  fr1 : Ext B.T B.H0 H
  fr2 : ∀ a, O a → B.O0 a ∨ B.H0 a = none
  fr3 : ∀ a, B.O0 a → O a
  tK : B.T.K = B.K
  tC : ∀ l ∈ B.T.L, B.cv 100 = .ref B.T.C
section
variable {B : Bd} {env : Env} {O O' : OS} {n n' : Sta} {σ : L2.St} {H H' : Hp}
theorem step_of (tO : ∀ a, B.T.has a → O a) (e : Ext B.T H H') : Step O H O H' := fun a o h na => ⟨e a o (fun z => na (tO a z)) h, na⟩
theorem SlotOk.ow {v : V} {sv : SV} (h : SlotOk B H O v sv) (w : sv.ow = true) : ∃ a, v = .ref a ∧ O a ∧ ¬ B.O0 a ∧ ¬ B.T.has a ∧ H a ≠ none := by
  cases sv with
  | own xs =>
    obtain ⟨a, vs, e1, o1, o2, ne, hv, r⟩ := h
    exact ⟨a, e1, o1, o2, ne, by rw [hv]; simp⟩
  | dic kvs =>
    obtain ⟨a, o, vs, e1, o1, o2, ne, hv, r⟩ := h
    exact ⟨a, e1, o1, o2, ne, by rw [hv]; simp⟩
  | _ => cases w
theorem SlotOk.to (st : Step O H O' H') {v : V} {sv : SV} (k : sv.ow = true → ∀ a, v = .ref a → O a → ¬ B.T.has a → O' a ∧ ∀ o, H a = some o → H' a = some o) (h : SlotOk B H O v sv) : SlotOk B H' O' v sv := by
  cases sv with
  | d x => exact Rep.step st _ _ h
  | own xs =>
    obtain ⟨a, vs, e1, o1, o2, ne, hv, r⟩ := h
    exact ⟨a, vs, e1, (k rfl a e1 o1 ne).1, o2, ne, (k rfl a e1 o1 ne).2 _ hv, Reps.step st _ _ r⟩
  | town => exact h
  | scr ns => exact h.imp fun a z => ⟨z.1, z.2.step st⟩
  | ex a => exact h
  | lis k => exact h
  | dic kvs =>
    obtain ⟨a, o, vs, e1, o1, o2, ne, hv, e2, r⟩ := h
    exact ⟨a, o, vs, e1, (k rfl a e1 o1 ne).1, o2, ne, (k rfl a e1 o1 ne).2 _ hv, e2, r.step st⟩
theorem SlotOk.ext (tO : ∀ a, B.T.has a → O a) (e : Ext B.T H H') {v : V} {sv : SV} (h : SlotOk B H O v sv) : SlotOk B H' O v sv :=
  h.to (step_of tO e) fun _ a _ o1 ne => ⟨o1, fun o q => e a o ne q⟩
theorem dom_ext (e : Ext B.T H H') (t : Town B.T H' n') (dom : ∀ a, O a → NF H a) : ∀ a, O a → NF H' a := fun a h => by
  by_cases z : B.T.has a
  · exact t.nf z
  · obtain ⟨o, e1, n1⟩ := dom a h
    exact ⟨o, e a o z e1, n1⟩
theorem Sim.ext (s : Sim B env O n σ H) (e : Ext B.T H H') (t : Town B.T H' n') : Sim B env O n' σ H' where
  len := s.len
  slot := fun i sv h => let ⟨v, h1, h2⟩ := s.slot i sv h; ⟨v, h1, h2.ext s.tO e⟩
  sep := s.sep
  dom := dom_ext e t s.dom
  town := t
  tO := s.tO
  fr1 := s.fr1.trans e
  fr2 := s.fr2
  fr3 := s.fr3
  tK := s.tK
  tC := s.tC
end
/-- what is wanted of an exception that leaves the body -/
def XPost (B : Bd) (c : Nat) (n : Sta) : Prop := ∀ H', Ext B.T B.H0 H' → Town B.T H' n → B.E (B.cv c) none H'
def Post {α β : Type} (B : Bd) (P : Hp → Hp → β → α → Prop) (H : Hp) (r : R α) (Q : β → Hp → Prop) : Prop :=
  match r with
  | .ok a n => ∀ b H', Ext B.T H H' → Town B.T H' n → P H H' b a → Q b H'
  | .exc c n => XPost B c n
  | .bad => False
def tG {α β : Type} (B : Bd) (P : OS → Hp → Hp → β → α → Prop) (f : Env → M α) (σ : L2.St) (H : Hp) (Q : β → Hp → Prop) : Prop :=
  ∃ env O n, Sim B env O n σ H ∧ Post B (P O) H (f env n) Q
/-- shared; borrowed; a new list; a truth value; arguments -/
def pE (B : Bd) : OS → Hp → Hp → V → D → Prop := fun O _ H' v d => Rep B.K H' O v d
def Brw (B : Bd) (H : Hp) (O : OS) (v : V) (d : D) : Prop := Rep B.K H O v d ∨ ∃ a xs ds, v = .ref a ∧ d = .list ds ∧ ¬ B.T.has a ∧ H a = some (.lst xs) ∧ Reps B.K H O xs ds
def pB (B : Bd) : OS → Hp → Hp → V → D → Prop := fun O _ H' v d => Brw B H' O v d
def addO (O : OS) (p : Addr) : OS := fun a => O a ∨ a = p
def pN (B : Bd) : OS → Hp → Hp → V → List D → Prop := fun O H H' v ds => ∃ a xs, v = .ref a ∧ H a = none ∧ H' a = some (.lst xs) ∧ Reps B.K H' (addO O a) xs ds
def pT : OS → Hp → Hp → Bool → Bool → Prop := fun _ _ _ b a => b = a
def ArgOk (B : Bd) (H : Hp) (O : OS) (v : V) : SV → Prop
  | .d x => Rep B.K H O v x
  | .own _ => False
  | .town => v = .ref B.T.t
  | .scr ns => ∃ a, v = .ref a ∧ ScrAt B.K H O a ns
  | .ex a => v = .ref a
  | .lis k => ∃ la, B.T.L[k]? = some la ∧ v = .ref la.a
  | .dic _ => False
inductive ArgsOk (B : Bd) (H : Hp) (O : OS) : List V → List SV → Prop
  | nil : ArgsOk B H O [] []
  | cons {v : V} {vs : List V} {a : SV} {as : List SV} : ArgOk B H O v a → ArgsOk B H O vs as → ArgsOk B H O (v :: vs) (a :: as)
def pA (B : Bd) : OS → Hp → Hp → List V → List SV → Prop := fun O _ H' vs as => ArgsOk B H' O vs as
/-- data alone, borrowed -/
inductive Brws (B : Bd) (H : Hp) (O : OS) : List V → List D → Prop
  | nil : Brws B H O [] []
  | cons {v : V} {vs : List V} {a : D} {as : List D} : Brw B H O v a → Brws B H O vs as → Brws B H O (v :: vs) (a :: as)
def pBs (B : Bd) : OS → Hp → Hp → List V → List D → Prop := fun O _ H' vs as => Brws B H' O vs as
abbrev SE (X : Cx) (B : Bd) (e : Expr) (f : Env → M D) : Prop := PE X e (tG B (pE B) f)
abbrev SB (X : Cx) (B : Bd) (e : Expr) (f : Env → M D) : Prop := PE X e (tG B (pB B) f)
abbrev SN (X : Cx) (B : Bd) (e : Expr) (f : Env → M (List D)) : Prop := PE X e (tG B (pN B) f)
abbrev ST (X : Cx) (B : Bd) (e : Expr) (f : Env → M Bool) : Prop := PT X e (tG B pT f)
abbrev SW (X : Cx) (B : Bd) (e : Expr) (f : Env → M Bool) : Prop := PW X e (tG B pT f)
abbrev SA (X : Cx) (B : Bd) (es : List Expr) (f : Env → M (List SV)) : Prop := PA X es (tG B (pA B) f)
abbrev SBs (X : Cx) (B : Bd) (es : List Expr) (f : Env → M (List D)) : Prop := PA X es (tG B (pBs B) f)
theorem pe_weak {X : Cx} {e : Expr} {t t' : TE} (h : PE X e t) (k : ∀ σ H Q, t' σ H Q → t σ H Q) : PE X e t' := ⟨fun pins s σ H Q I q => h.run pins s σ H Q I (k σ H Q q)⟩
theorem pt_weak {X : Cx} {e : Expr} {t t' : TT} (h : PT X e t) (k : ∀ σ H Q, t' σ H Q → t σ H Q) : PT X e t' := ⟨fun pins s σ H Q I q => h.run pins s σ H Q I (k σ H Q q)⟩
theorem pw_weak {X : Cx} {e : Expr} {t t' : TT} (h : PW X e t) (k : ∀ σ H Q, t' σ H Q → t σ H Q) : PW X e t' := ⟨fun wh pins s σ H Q I q => h.run wh pins s σ H Q I (k σ H Q q)⟩
theorem pa_weak {X : Cx} {e : List Expr} {t t' : TA} (h : PA X e t) (k : ∀ σ H Q, t' σ H Q → t σ H Q) : PA X e t' := ⟨fun pos pins s σ H Q I q => h.run pos pins s σ H Q I (k σ H Q q)⟩
theorem ps_weak {X : Cx} {e : Stmt} {t t' : TS} (h : PS X e t) (k : ∀ D σ H, t' D σ H → t D σ H) : PS X e t' := ⟨fun pins s σ H D I q => h.run pins s σ H D I (k D σ H q)⟩
theorem pss_weak {X : Cx} {e : List Stmt} {t t' : TS} (h : PSs X e t) (k : ∀ D σ H, t' D σ H → t D σ H) : PSs X e t' := ⟨fun pins s σ H D I q => h.run pins s σ H D I (k D σ H q)⟩

section
variable {B : Bd} {α β γ δ : Type} {P : OS → Hp → Hp → β → α → Prop} {P' : OS → Hp → Hp → δ → γ → Prop} {σ : L2.St} {H : Hp} {Q : δ → Hp → Prop}
/-- the first part of a sequence, then the rest -/
theorem tG_seq {f : Env → M α} {g : Env → α → M γ} {Y : β → Hp → Prop} {env : Env} {O : OS} {n : Sta} (s : Sim B env O n σ H) (h : Post B (P' O) H (seq (f env) (g env) n) Q)
    (k : ∀ a b n1 H1, f env n = .ok a n1 → Sim B env O n1 σ H1 → Ext B.T H H1 → P O H H1 b a → Post B (P' O) H (g env a n1) Q → Y b H1) : tG B P f σ H Y := by
  refine ⟨env, O, n, s, ?_⟩
  unfold seq at h
  cases e : f env n with
  | ok a n1 =>
    rw [e] at h
    intro b H1 ex tw p
    exact k a b n1 H1 e (s.ext ex tw) ex p h
  | exc c n1 => rw [e] at h; exact h
  | bad => rw [e] at h; exact h.elim
end
/-- the rest, seen from a later heap -/
theorem Post.later {B : Bd} {α β : Type} {P : Hp → Hp → β → α → Prop} {H H1 : Hp} {r : R α} {Q : β → Hp → Prop} (h : Post B P H r Q) (e : Ext B.T H H1) (k : ∀ H' b a, P H1 H' b a → P H H' b a) : Post B P H1 r Q := by
  cases r with
  | ok a n => exact fun b H' e' t p => h b H' (e.trans e') t (k H' b a p)
  | exc c n => exact h
  | bad => exact h
end Sim

namespace Sim
open PySem L2

/-! ### the operations on data -/
def big : Nat := 1000000
theorem big_line : big ≤ sizeLine := by decide
def addD : D → D → Option D
  | .int i, .int j => some (.int (i + j))
  | .str x, .str y => if x.length + y.length ≤ big then some (.str (x ++ y)) else none
  | .list xs, .list ys => if xs.length + ys.length ≤ big then some (.list (xs ++ ys)) else none
  | .tuple xs, .tuple ys => if xs.length + ys.length ≤ big then some (.tuple (xs ++ ys)) else none
  | _, _ => none
def subD : D → D → Option D
  | .int i, .int j => some (.int (i - j))
  | _, _ => none
def mulD : D → D → Option D
  | .int i, .int j => if i.natAbs < 2 ^ 64 ∨ j.natAbs < 2 ^ 64 then some (.int (i * j)) else none
  | .str x, .int k => if k.natAbs ≤ 1000 ∧ x.length ≤ 1000 then some (.str (Txt.mul x k)) else none
  | .list xs, .int k => if k.natAbs ≤ 1000 ∧ xs.length ≤ 1000 then some (.list (List.replicate k.toNat xs).flatten) else none
  | .tuple xs, .int k => if 2 ≤ k ∧ k ≤ 1000 ∧ xs ≠ [] ∧ xs.length ≤ 1000 then some (.tuple (List.replicate k.toNat xs).flatten) else none
  | _, _ => none
def fdivD : D → D → Option D
  | .int i, .int j => if 0 < j ∧ j.natAbs < 2 ^ 1000 then some (.int (i / j)) else none
  | _, _ => none
def modD : D → D → Option D
  | .int i, .int j => if 0 < j then some (.int (i % j)) else none
  | _, _ => none
def powD : D → D → Option D
  | .int i, .int j => if 0 ≤ j ∧ j ≤ 1000000 ∧ i.natAbs < 2 ^ 64 then some (.int (i ^ j.toNat)) else none
  | _, _ => none
def eqD (d e : D) : Option D := if min d.depth e.depth ≤ 60 then some (.bool (PyData.eqv d e)) else none
def neD (d e : D) : Option D := if min d.depth e.depth ≤ 60 then some (.bool (!PyData.eqv d e)) else none
def cmpB (d e : D) : Bool := PySem.W.alike d e && (match d with | .none => false | _ => true) && decide (min d.depth e.depth ≤ 60)
theorem cmpB_of {d e : D} (h : cmpB d e = true) : PySem.W.alike d e = true ∧ d ≠ .none ∧ min d.depth e.depth ≤ 60 := by
  unfold cmpB at h
  rw [Bool.and_eq_true, Bool.and_eq_true, decide_eq_true_eq] at h
  refine ⟨h.1.1, fun z => ?_, h.2⟩
  subst z
  exact absurd h.1.2 (by decide)
def ltD : D → D → Option D
  | .int i, .int j => some (.bool (decide (i < j)))
  | d, e => if cmpB d e = true then some (.bool (PySem.W.dataLt d e)) else none
def leD : D → D → Option D
  | .int i, .int j => some (.bool (decide (i ≤ j)))
  | d, e => if cmpB d e = true then some (.bool (!PySem.W.dataLt e d)) else none
def gtD : D → D → Option D
  | .int i, .int j => some (.bool (decide (j < i)))
  | d, e => if cmpB d e = true then some (.bool (PySem.W.dataLt e d)) else none
def geD : D → D → Option D
  | .int i, .int j => some (.bool (decide (j ≤ i)))
  | d, e => if cmpB d e = true then some (.bool (!PySem.W.dataLt d e)) else none
def inB : D → D → Option Bool
  | x, .list xs => if min (PyData.depthAll xs) x.depth ≤ 60 then some (xs.any fun y => PyData.eqv y x) else none
  | x, .tuple xs => if min (PyData.depthAll xs) x.depth ≤ 60 then some (xs.any fun y => PyData.eqv y x) else none
  | .str a, .str b => match a.cps.toList with
    | [c] => some (decide (c ∈ b.cps.toList))
    | _ => none
  | _, _ => none
def inD (x y : D) : Option D := (inB x y).map .bool
def notInD (x y : D) : Option D := (inB x y).map fun b => .bool (!b)

/-- what a two-place rule says of data -/
def rD (B : Bd) (g : D → D → Option D) : R2 := fun x y H Q => ∃ O d e z, (∀ a, O a → NF H a) ∧ Brw B H O x d ∧ Brw B H O y e ∧ g d e = some z ∧ ∀ v H', Same H H' → Rep B.K H' O v z → Q v H'
def OpD (X : Cx) (B : Bd) (f : Value → Value → Sem Value) (g : D → D → Option D) : Prop := OpR X f (rD B g)
theorem OpR.imp {X : Cx} {f : Value → Value → Sem Value} {r r' : R2} (h : OpR X f r) (k : ∀ x y H Q, r' x y H Q → r x y H Q) : OpR X f r' := fun pins s σ H x y v u Q I rx ry q => h pins s σ H x y v u Q I rx ry (k x y H Q q)
section
variable {X : Cx} {B : Bd} {H H' : Hp} {O : OS}
theorem Brw.int {v : V} {i : Int} (h : Brw B H O v (.int i)) : v = .int i := by
  rcases h with h | ⟨_, _, _, _, e, _⟩
  · cases h; rfl
  · cases e
theorem Brw.str {v : V} {i : Str} (h : Brw B H O v (.str i)) : v = .str i := by
  rcases h with h | ⟨_, _, _, _, e, _⟩
  · cases h; rfl
  · cases e
theorem Brw.bool {v : V} {i : Bool} (h : Brw B H O v (.bool i)) : v = .bl i := by
  rcases h with h | ⟨_, _, _, _, e, _⟩
  · cases h; rfl
  · cases e
theorem Brw.none {v : V} (h : Brw B H O v .none) : v = .non := by
  rcases h with h | ⟨_, _, _, _, e, _⟩
  · cases h; rfl
  · cases e
theorem Brw.list {v : V} {ds : List D} (h : Brw B H O v (.list ds)) : ∃ a xs, v = .ref a ∧ Rd H a (.lst xs) ∧ Reps B.K H O xs ds := by
  rcases h with h | ⟨a, xs, es, e1, e2, _, e3, e4⟩
  · cases h with
    | lst h1 h2 => exact ⟨_, _, rfl, h1.1, h2⟩
  · cases e2
    exact ⟨a, xs, e1, .inl e3, e4⟩
theorem Brw.tup {v : V} {ds : List D} (h : Brw B H O v (.tuple ds)) : ∃ a xs, v = .ref a ∧ TAt B.K H O a xs ∧ Reps B.K H O xs ds := by
  rcases h with h | ⟨_, _, _, _, e, _⟩
  · cases h with
    | tup h1 h2 => exact ⟨_, _, rfl, h1, h2⟩
  · cases e
theorem Brw.nodict {v : V} {ds : List (D × D)} (h : Brw B H O v (.dict ds)) : False := by
  rcases h with h | ⟨_, _, _, _, e, _⟩
  · cases h
  · cases e
theorem Brw.dp {v : V} {d : D} (h : Brw B H O v d) : Dp B.K H v d := by
  rcases h with h | ⟨a, xs, es, rfl, rfl, _, e3, e4⟩
  · exact Rep.dp _ _ h
  · exact .lst (.inl (.inl e3)) (Reps.dp _ _ e4)
mutual
theorem plain_dp {K : PySem.W.Frag} {H : Hp} : ∀ (d : D) (v : V), Dp K H v d → d.plain = true
  | .none, _, _ => rfl
  | .bool _, _, _ => rfl
  | .int _, _, _ => rfl
  | .str _, _, _ => rfl
  | .list xs, v, h => by
    cases h with
    | lst _ h2 => exact plainAll_dp xs _ h2
  | .tuple xs, v, h => by
    cases h with
    | tup _ h2 => exact plainAll_dp xs _ h2
  | .dict _, v, h => by cases h
theorem plainAll_dp {K : PySem.W.Frag} {H : Hp} : ∀ (ds : List D) (vs : List V), DpAll K H vs ds → PyData.plainAll ds = true
  | [], _, _ => rfl
  | d :: ds, vs, h => by
    cases h with
    | cons h1 h2 =>
      show (d.plain && PyData.plainAll ds) = true
      rw [plain_dp d _ h1, plainAll_dp ds _ h2]; rfl
end
theorem same_ext {T : Hot} (s : Same H H') : Ext T H H' := fun a o _ h => s a o h
theorem same_new {p : Addr} {o : HO} (h : H p = none) : Same H (upd H p o) := fun a u e => by rw [upd_ne (ne_of_none e h)]; exact e
theorem same_step (s : Same H H') : Step O H O H' := fun a o h n => ⟨s a o h, n⟩
/-- a new list, a new tuple -/
theorem rep_newL {p : Addr} {xs : List V} {ds : List D} (dom : ∀ a, O a → NF H a) (hp : H p = none) (r : Reps B.K H O xs ds) : Rep B.K (upd H p (.lst xs)) O (.ref p) (.list ds) :=
  .lst ⟨.inl upd_same, fun z => (dom p z).ne hp⟩ (Reps.step (same_step (same_new hp)) _ _ r)
theorem rep_newT {p : Addr} {o : Obj} {xs : List V} {ds : List D} (dom : ∀ a, O a → NF H a) (hp : H p = none) (od : o.dict = none) (r : Reps B.K H O xs ds) : Rep B.K (upd H p (.frz o (.tup xs))) O (.ref p) (.tuple ds) :=
  .tup (.inl ⟨o, od, upd_same, fun z => (dom p z).ne hp⟩) (Reps.step (same_step (same_new hp)) _ _ r)
theorem lstR {pins : List (Addr × Obj)} {σ : L2.St} {s : Shared} {l : Addr} {xs : List V} (I : Inv X pins σ H s) (r : Rd H l (.lst xs)) : xs.length ≤ sizeLine ∧ ∃ (its : List Value) (n : Nat), Vals xs its ∧ xs.length = its.length ∧ s.heap.get? l = some { cls := .type "list", data := .seq its.toArray n } := by
  obtain ⟨z, its, n, rv, e⟩ := r.ok I.hok
  exact ⟨z, its, n, rv, rv.length, e⟩
/-! ### + -/
def rCatR : R2 := fun x y H Q => ∃ l b xs zs, x = .ref l ∧ y = .ref b ∧ Rd H l (.lst xs) ∧ Rd H b (.lst zs) ∧ xs.length + zs.length ≤ sizeLine ∧ ∀ p, H p = none → Q (.ref p) (upd H p (.lst (xs ++ zs)))
theorem op_catR : OpR X (binaryOp .Add) rCatR := by
  intro pins s σ H x y v u Q I rx ry h
  obtain ⟨l, b, xs, zs, rfl, rfl, hH, hB, hz, q⟩ := h
  cases rx
  cases ry
  obtain ⟨z, its, n, r, hl, e⟩ := lstR I hH
  obtain ⟨z2, its2, n2, r2, hl2, e2⟩ := lstR I hB
  refine PySem.P.add_list e e2 ?_ (by rw [List.size_toArray, List.size_toArray]; omega)
  have ea : its.toArray ++ its2.toArray = (its ++ its2).toArray := by simp
  rw [ea]
  exact ⟨.ref _, _, I.lnew (t' := s.toks) (r.append r2) (by rw [List.length_append]; omega), rfl, q _ I.fresh⟩
theorem opd_add (hK : B.K = X.K) : OpD X B (binaryOp .Add) addD := by
  refine OpR.imp (OpR.or op_add (OpR.or op_add_str (OpR.or op_catR op_catZ))) fun x y H Q h => ?_
  obtain ⟨O, d, e, z, dom, hx, hy, hz, q⟩ := h
  unfold addD at hz
  split at hz
  · cases hz; left
    exact ⟨_, _, hx.int, hy.int, q _ _ (fun _ _ h => h) (.int _)⟩
  · split at hz
    · rename_i hl
      cases hz; right; left
      exact ⟨_, _, hx.str, hy.str, Nat.le_trans hl big_line, q _ _ (fun _ _ h => h) (.str _)⟩
    · cases hz
  · split at hz
    · rename_i hl
      cases hz; right; right; left
      obtain ⟨a, xs, rfl, ra, rxs⟩ := hx.list
      obtain ⟨b, ys, rfl, rb, rys⟩ := hy.list
      refine ⟨a, b, xs, ys, rfl, rfl, ra, rb, ?_, fun p hp => q _ _ (same_new hp) (rep_newL dom hp (rxs.append rys))⟩
      rw [rxs.length, rys.length]; exact Nat.le_trans hl big_line
    · cases hz
  · split at hz
    · rename_i hl
      cases hz; right; right; right
      obtain ⟨a, xs, rfl, ra, rxs⟩ := hx.tup
      obtain ⟨b, ys, rfl, rb, rys⟩ := hy.tup
      rw [hK] at ra rb
      refine ⟨a, b, xs, ys, rfl, rfl, ra.sq, rb.sq, ?_, fun e => ?_, fun _ e => ?_, fun _ _ p o hp od => q _ _ (same_new hp) (rep_newT dom hp od (rxs.append rys))⟩
      · rw [rxs.length, rys.length]; exact Nat.le_trans hl big_line
      · subst e; cases rxs
        rw [← hK] at rb
        exact q _ _ (fun _ _ h => h) (.tup rb rys)
      · subst e; cases rys
        rw [← hK] at ra
        rw [List.append_nil] at q
        exact q _ _ (fun _ _ h => h) (.tup ra rxs)
    · cases hz
  · cases hz
theorem opd_sub : OpD X B (binaryOp .Sub) subD := by
  refine OpR.imp op_sub fun x y H Q h => ?_
  obtain ⟨O, d, e, z, dom, hx, hy, hz, q⟩ := h
  unfold subD at hz
  split at hz
  · cases hz; exact ⟨_, _, hx.int, hy.int, q _ _ (fun _ _ h => h) (.int _)⟩
  · cases hz
/-! ### * -/
def rRepR : R2 := fun x y H Q => ∃ l k xs, x = .ref l ∧ y = .int k ∧ Rd H l (.lst xs) ∧ -(2 ^ 63) ≤ k ∧ k < 2 ^ 63 ∧ xs.length * k.toNat ≤ sizeLine ∧
  ∀ p, H p = none → Q (.ref p) (upd H p (.lst (List.replicate k.toNat xs).flatten))
open PyProof.Rows PySem.Spec in
theorem op_repR : OpR X (binaryOp .Mult) rRepR := by
  intro pins s σ H x y v u Q I rx ry h
  obtain ⟨l, k, xs, rfl, rfl, hH, h1, h2, hz, q⟩ := h
  cases rx
  obtain ⟨t, rfl⟩ := ry
  obtain ⟨z, its, n, r, hl, e⟩ := lstR I hH
  have hlen : its.toArray.size * k.toNat ≤ sizeLine := by rw [List.size_toArray, ← hl]; exact hz
  have hcap : ¬ its.toArray.size * k.toNat > (2 ^ 63 - 1) / 8 := by
    have : (sizeLine : Nat) ≤ (2 ^ 63 - 1) / 8 := by decide
    omega
  have hfit : ¬ (!Builtin.List.listFitsIndex k) = true := by
    rw [fitsIndex_both h1 h2]
    exact Bool.false_ne_true
  have hlong : ¬ Builtin.List.listTooLong (its.toArray.size * k.toNat) = true := by
    rw [notLongL hlen]
    exact Bool.false_ne_true
  have hnew : List.foldl (fun x1 x2 => x1 ++ x2) #[] (List.replicate (if its.toArray.isEmpty = true then 0 else k.toNat) its.toArray) = (List.replicate k.toNat its).flatten.toArray := by
    have f0 : ∀ m : Nat, List.foldl (fun x1 x2 => x1 ++ x2) #[] (List.replicate m its.toArray) = (List.replicate m its).flatten.toArray := fun m => by
      have := foldl_rep its m []
      rw [List.nil_append] at this
      exact this
    rw [f0]
    cases its with
    | nil => simp
    | cons a r' => rw [if_neg (by simp)]
  refine wpAny_binaryOp_repeat_ref (T := "list") (U := "int") (by decide) ⟨_, e, rfl⟩ (fun s' => typeIs_int s' k t) noFill_list_mul F.fills_int_mul F.slot_int_rmul repeat_list F.slot_int_index.lookup
    (call_meets F.slot_int_rmul (typeIs_int s k t) F.entry_int_rmul (F.args_int_rmul_2 _ _) (int___rmul___int_list k t l its.toArray n)
      ⟨e, rfl, ⟨_, e, rfl⟩, call_meets F.slot_list_mul ⟨_, e, rfl⟩ F.entry_list_mul (F.args_list_mul_2 _ _) (AutoListH.list___mul___list_int_3 l its.toArray n k t hfit hcap hlong) ⟨e, ?_⟩⟩)
  rw [hnew]
  exact ⟨.ref _, _, I.lnew (t' := s.toks) (r.rep k.toNat) (by rw [PyProof.Rows.lm_len_rep_flat, Nat.mul_comm]; exact hz), rfl, q _ I.fresh⟩
theorem Reps.rep {K : PySem.W.Frag} {vs : List V} {ds : List D} (h : Reps K H O vs ds) : ∀ k : Nat, Reps K H O (List.replicate k vs).flatten (List.replicate k ds).flatten
  | 0 => by simp; exact .nil
  | k + 1 => by simp only [List.replicate_succ, List.flatten_cons]; exact h.append (Reps.rep h k)
theorem tooLong_small {n : Nat} (h : n ≤ 1000000) : PySem.Builtin.Str.tooLong n = false := by
  unfold PySem.Builtin.Str.tooLong
  simp only [decide_eq_false_iff_not]
  have := sizeLine_eq
  omega
theorem mulOk_small {x : Str} {k : Int} (hk : k.natAbs ≤ 1000) (hx : x.length ≤ 1000) : MulOk x k := by
  refine ⟨?_, fun h1 _ => ?_, fun h1 _ => ?_⟩
  · rw [decide_eq_false (by omega), decide_eq_false (by omega)]; rfl
  · have h2 : (1000 : Int) ≤ (2 ^ 63 - 1) / k := by
      rw [Int.le_ediv_iff_mul_le (by omega)]; omega
    omega
  · refine tooLong_small ?_
    have h3 : k.toNat ≤ 1000 := by omega
    calc x.length * k.toNat ≤ 1000 * 1000 := Nat.mul_le_mul hx h3
      _ = 1000000 := rfl
def rMulS : R2 := fun x y H Q => ∃ z k, x = .str z ∧ y = .int k ∧ MulOk z k ∧ Q (.str (Txt.mul z k)) H
theorem op_mulS : OpR X (binaryOp .Mult) rMulS := by
  intro pins s σ H x y v u Q I rx ry h
  obtain ⟨z, k, rfl, rfl, ok, q⟩ := h
  obtain ⟨t, rfl⟩ := rx
  obtain ⟨t', rfl⟩ := ry
  exact PySem.SB.mul ok fun t k => ⟨.str _, H, I.tok _, ⟨_, rfl⟩, q⟩
theorem opd_mul (hK : B.K = X.K) : OpD X B (binaryOp .Mult) mulD := by
  refine OpR.imp (OpR.or op_mul (OpR.or op_mulS (OpR.or op_repR op_repZ))) fun x y H Q h => ?_
  obtain ⟨O, d, e, z, dom, hx, hy, hz, q⟩ := h
  unfold mulD at hz
  split at hz
  · split at hz
    · rename_i hl
      cases hz; left
      refine ⟨_, _, hx.int, hy.int, ?_, q _ _ (fun _ _ h => h) (.int _)⟩
      rcases hl with hl | hl
      · exact .inl ⟨by omega, by omega⟩
      · exact .inr ⟨by omega, by omega⟩
    · cases hz
  · split at hz
    · rename_i hl
      cases hz; right; left
      exact ⟨_, _, hx.str, hy.int, mulOk_small hl.1 hl.2, q _ _ (fun _ _ h => h) (.str _)⟩
    · cases hz
  · split at hz
    · rename_i hl
      cases hz; right; right; left
      obtain ⟨a, xs, rfl, ra, rxs⟩ := hx.list
      refine ⟨a, _, xs, rfl, hy.int, ra, by omega, by omega, ?_, fun p hp => q _ _ (same_new hp) (rep_newL dom hp (rxs.rep _))⟩
      rw [rxs.length]
      refine Nat.le_trans (Nat.mul_le_mul hl.2 (show _ ≤ 1000 by omega)) (by decide)
    · cases hz
  · split at hz
    · rename_i hl
      cases hz; right; right; right
      obtain ⟨a, xs, rfl, ra, rxs⟩ := hx.tup
      rw [hK] at ra
      refine ⟨a, _, xs, rfl, hy.int, ra.sq, ⟨?_, by rw [rxs.length]; exact hl.2.2.2⟩, ⟨hl.1, hl.2.1⟩, fun p o hp od => q _ _ (same_new hp) (rep_newT dom hp od (rxs.rep _))⟩
      rintro rfl
      cases rxs
      exact hl.2.2.1 rfl
    · cases hz
  · cases hz
theorem opd_fdiv : OpD X B (binaryOp .FloorDiv) fdivD := by
  refine OpR.imp op_fdivW fun x y H Q h => ?_
  obtain ⟨O, d, e, z, dom, hx, hy, hz, q⟩ := h
  unfold fdivD at hz
  split at hz
  · split at hz
    · rename_i hl
      cases hz; exact ⟨_, _, hx.int, hy.int, wide_div hl.1 hl.2 (by decide) (by decide), q _ _ (fun _ _ h => h) (.int _)⟩
    · cases hz
  · cases hz
theorem opd_mod : OpD X B (binaryOp .Mod) modD := by
  refine OpR.imp op_mod fun x y H Q h => ?_
  obtain ⟨O, d, e, z, dom, hx, hy, hz, q⟩ := h
  unfold modD at hz
  split at hz
  · split at hz
    · rename_i hl
      cases hz; exact ⟨_, _, hx.int, hy.int, hl, q _ _ (fun _ _ h => h) (.int _)⟩
    · cases hz
  · cases hz
theorem opd_pow : OpD X B (binaryOp .Pow) powD := by
  refine OpR.imp op_pow fun x y H Q h => ?_
  obtain ⟨O, d, e, z, dom, hx, hy, hz, q⟩ := h
  unfold powD at hz
  split at hz
  · split at hz
    · rename_i hl
      cases hz; exact ⟨_, _, hx.int, hy.int, hl, q _ _ (fun _ _ h => h) (.int _)⟩
    · cases hz
  · cases hz
/-! ### comparisons -/
theorem opd_lt (hK : B.K = X.K) (hu : X.A.units + 64 < cLine) : OpD X B (compareOp .Lt) ltD := by
  intro pins s σ H x y v u Q I rx ry h
  obtain ⟨O, d, e, z, dom, hx, hy, hz, q⟩ := h
  unfold ltD at hz
  split at hz
  · cases hz
    exact op_lt pins s σ H x y v u Q I rx ry ⟨_, _, hx.int, hy.int, q _ _ (fun _ _ h => h) (.bl _)⟩
  · split at hz
    · rename_i hc
      cases hz
      obtain ⟨c1, c2, c3⟩ := cmpB_of hc
      have dx := hx.dp
      have dy := hy.dp
      rw [hK] at dx dy
      obtain ⟨as, r1⟩ := Dp.reads I _ x v dx rx
      obtain ⟨bs, r2⟩ := Dp.reads I _ y u dy ry
      exact PySem.W.lt_data r1 r2 c1 c2 (by omega) ⟨.bl _, H, I, rfl, q _ _ (fun _ _ h => h) (.bl _)⟩
    · cases hz
theorem opd_le (hK : B.K = X.K) (hu : X.A.units + 64 < cLine) : OpD X B (compareOp .LtE) leD := by
  intro pins s σ H x y v u Q I rx ry h
  obtain ⟨O, d, e, z, dom, hx, hy, hz, q⟩ := h
  unfold leD at hz
  split at hz
  · cases hz
    exact op_le pins s σ H x y v u Q I rx ry ⟨_, _, hx.int, hy.int, q _ _ (fun _ _ h => h) (.bl _)⟩
  · split at hz
    · rename_i hc
      cases hz
      obtain ⟨c1, c2, c3⟩ := cmpB_of hc
      have dx := hx.dp
      have dy := hy.dp
      rw [hK] at dx dy
      obtain ⟨as, r1⟩ := Dp.reads I _ x v dx rx
      obtain ⟨bs, r2⟩ := Dp.reads I _ y u dy ry
      exact PySem.W.le_data r1 r2 c1 c2 (by omega) ⟨.bl _, H, I, rfl, q _ _ (fun _ _ h => h) (.bl _)⟩
    · cases hz
theorem opd_gt (hK : B.K = X.K) (hu : X.A.units + 64 < cLine) : OpD X B (compareOp .Gt) gtD := by
  intro pins s σ H x y v u Q I rx ry h
  obtain ⟨O, d, e, z, dom, hx, hy, hz, q⟩ := h
  unfold gtD at hz
  split at hz
  · cases hz
    exact op_gt pins s σ H x y v u Q I rx ry ⟨_, _, hx.int, hy.int, q _ _ (fun _ _ h => h) (.bl _)⟩
  · split at hz
    · rename_i hc
      cases hz
      obtain ⟨c1, c2, c3⟩ := cmpB_of hc
      have dx := hx.dp
      have dy := hy.dp
      rw [hK] at dx dy
      obtain ⟨as, r1⟩ := Dp.reads I _ x v dx rx
      obtain ⟨bs, r2⟩ := Dp.reads I _ y u dy ry
      exact PySem.W.gt_data r1 r2 c1 c2 (by omega) ⟨.bl _, H, I, rfl, q _ _ (fun _ _ h => h) (.bl _)⟩
    · cases hz
theorem opd_ge (hK : B.K = X.K) (hu : X.A.units + 64 < cLine) : OpD X B (compareOp .GtE) geD := by
  intro pins s σ H x y v u Q I rx ry h
  obtain ⟨O, d, e, z, dom, hx, hy, hz, q⟩ := h
  unfold geD at hz
  split at hz
  · cases hz
    exact op_ge pins s σ H x y v u Q I rx ry ⟨_, _, hx.int, hy.int, q _ _ (fun _ _ h => h) (.bl _)⟩
  · split at hz
    · rename_i hc
      cases hz
      obtain ⟨c1, c2, c3⟩ := cmpB_of hc
      have dx := hx.dp
      have dy := hy.dp
      rw [hK] at dx dy
      obtain ⟨as, r1⟩ := Dp.reads I _ x v dx rx
      obtain ⟨bs, r2⟩ := Dp.reads I _ y u dy ry
      exact PySem.W.ge_data r1 r2 c1 c2 (by omega) ⟨.bl _, H, I, rfl, q _ _ (fun _ _ h => h) (.bl _)⟩
    · cases hz
theorem opd_eq (hK : B.K = X.K) (hu : X.A.units + 64 < cLine) : OpD X B (compareOp .Eq) eqD := by
  intro pins s σ H x y v u Q I rx ry h
  obtain ⟨O, d, e, z, dom, hx, hy, hz, q⟩ := h
  unfold eqD at hz
  split at hz
  · rename_i hl
    cases hz
    have dx := hx.dp
    have dy := hy.dp
    rw [hK] at dx dy
    obtain ⟨as, r1⟩ := Dp.reads I d x v dx rx
    obtain ⟨bs, r2⟩ := Dp.reads I e y u dy ry
    exact PySem.SeqAt.eq_plain r1 r2 (plain_dp _ _ dx) (plain_dp _ _ dy) (by omega) ⟨.bl _, H, I, rfl, q _ _ (fun _ _ h => h) (.bl _)⟩
  · cases hz
theorem opd_ne (hK : B.K = X.K) (hu : X.A.units + 64 < cLine) : OpD X B (compareOp .NotEq) neD := by
  intro pins s σ H x y v u Q I rx ry h
  obtain ⟨O, d, e, z, dom, hx, hy, hz, q⟩ := h
  unfold neD at hz
  split at hz
  · rename_i hl
    cases hz
    have dx := hx.dp
    have dy := hy.dp
    rw [hK] at dx dy
    obtain ⟨as, r1⟩ := Dp.reads I d x v dx rx
    obtain ⟨bs, r2⟩ := Dp.reads I e y u dy ry
    exact PySem.SeqAt.ne_plain r1 r2 (plain_dp _ _ dx) (plain_dp _ _ dy) (by omega) ⟨.bl _, H, I, rfl, q _ _ (fun _ _ h => h) (.bl _)⟩
  · cases hz
theorem one_sign {a : Str} {c : Nat} (h : a.cps.toList = [c]) : a = ⟨#[c]⟩ := by
  obtain ⟨cps⟩ := a
  simp only at h
  have : cps = #[c] := by
    apply Array.toList_inj.mp
    rw [h]
  rw [this]
theorem opd_in (hK : B.K = X.K) (hu : X.A.units + 64 < cLine) : OpD X B (compareOp .In) inD := by
  intro pins s σ H x y v u Q I rx ry h
  obtain ⟨O, d, e, z, dom, hx, hy, hz, q⟩ := h
  have dx := hx.dp
  have dy := hy.dp
  rw [hK] at dx dy
  obtain ⟨as, r1⟩ := Dp.reads I d x v dx rx
  obtain ⟨bs, r2⟩ := Dp.reads I e y u dy ry
  unfold inD inB at hz
  split at hz
  · split at hz
    · cases hz
      exact PySem.SeqAt.in_list_data r2 r1 (by simpa [PyData.plain] using plain_dp _ _ dy) (plain_dp _ _ dx) (by omega) ⟨.bl _, H, I, rfl, q _ _ (fun _ _ h => h) (.bl _)⟩
    · cases hz
  · split at hz
    · cases hz
      exact PySem.SeqAt.in_tuple_data r2 r1 (by simpa [PyData.plain] using plain_dp _ _ dy) (plain_dp _ _ dx) (by omega) ⟨.bl _, H, I, rfl, q _ _ (fun _ _ h => h) (.bl _)⟩
    · cases hz
  · split at hz
    · rename_i c hc
      cases hz
      have e1 := hx.str
      have e2 := hy.str
      subst e1 e2
      exact op_in_sign pins s σ H _ _ v u Q I rx ry ⟨c, _, by rw [one_sign hc], rfl, q _ _ (fun _ _ h => h) (.bl _)⟩
    · cases hz
  · cases hz
theorem opd_notIn (hK : B.K = X.K) (hu : X.A.units + 64 < cLine) : OpD X B (compareOp .NotIn) notInD := by
  intro pins s σ H x y v u Q I rx ry h
  obtain ⟨O, d, e, z, dom, hx, hy, hz, q⟩ := h
  have dx := hx.dp
  have dy := hy.dp
  rw [hK] at dx dy
  obtain ⟨as, r1⟩ := Dp.reads I d x v dx rx
  obtain ⟨bs, r2⟩ := Dp.reads I e y u dy ry
  unfold notInD inB at hz
  split at hz
  · split at hz
    · cases hz
      exact PySem.SeqAt.notIn_list_data r2 r1 (by simpa [PyData.plain] using plain_dp _ _ dy) (plain_dp _ _ dx) (by omega) ⟨.bl _, H, I, rfl, q _ _ (fun _ _ h => h) (.bl _)⟩
    · cases hz
  · split at hz
    · cases hz
      exact PySem.SeqAt.notIn_tuple_data r2 r1 (by simpa [PyData.plain] using plain_dp _ _ dy) (plain_dp _ _ dx) (by omega) ⟨.bl _, H, I, rfl, q _ _ (fun _ _ h => h) (.bl _)⟩
    · cases hz
  · split at hz
    · rename_i c hc
      cases hz
      have e1 := hx.str
      have e2 := hy.str
      subst e1 e2
      exact op_notIn_sign pins s σ H _ _ v u Q I rx ry ⟨c, _, by rw [one_sign hc], rfl, q _ _ (fun _ _ h => h) (.bl _)⟩
    · cases hz
  · cases hz
end
end Sim

namespace Sim
open PySem L2

def Lat {α β : Type} (B : Bd) (P : OS → Hp → Hp → β → α → Prop) : Prop := ∀ O H H1 n H' b a, Ext B.T H H1 → Town B.T H1 n → P O H1 H' b a → P O H H' b a
def pRs (B : Bd) : OS → Hp → Hp → List V → List D → Prop := fun O _ H' vs as => Reps B.K H' O vs as
section
variable {B : Bd}
theorem lat_E : Lat B (pE B) := fun _ _ _ _ _ _ _ _ _ p => p
theorem lat_B : Lat B (pB B) := fun _ _ _ _ _ _ _ _ _ p => p
theorem lat_T : Lat B pT := fun _ _ _ _ _ _ _ _ _ p => p
theorem lat_A : Lat B (pA B) := fun _ _ _ _ _ _ _ _ _ p => p
theorem lat_Bs : Lat B (pBs B) := fun _ _ _ _ _ _ _ _ _ p => p
theorem lat_Rs : Lat B (pRs B) := fun _ _ _ _ _ _ _ _ _ p => p
theorem none_back {T : Hot} {H H1 : Hp} {n : Sta} {a : Addr} (e : Ext T H H1) (t : Town T H1 n) (h : H1 a = none) : H a = none := by
  have na : ¬ T.has a := t.cold h
  cases q : H a with
  | none => rfl
  | some o => rw [e a o na q] at h; cases h
theorem lat_N : Lat B (pN B) := fun O H H1 n H' b a e t p => by
  obtain ⟨c, xs, h1, h2, h3, h4⟩ := p
  exact ⟨c, xs, h1, none_back e t h2, h3, h4⟩
variable {α β γ δ : Type} {P : OS → Hp → Hp → β → α → Prop} {P' : OS → Hp → Hp → δ → γ → Prop} {σ : L2.St} {H : Hp} {Q : δ → Hp → Prop}
/-- the first part of a sequence, then the rest, from the later heap -/
theorem tG_seq1 {f : Env → M α} {g : Env → α → M γ} {Y : β → Hp → Prop} {env : Env} {O : OS} {n : Sta} (l : Lat B P') (s : Sim B env O n σ H) (h : Post B (P' O) H (seq (f env) (g env) n) Q)
    (k : ∀ a b n1 H1, Sim B env O n1 σ H1 → Ext B.T H H1 → P O H H1 b a → Post B (P' O) H1 (g env a n1) Q → Y b H1) : tG B P f σ H Y :=
  tG_seq s h fun a b n1 H1 _ s1 e1 p1 q1 => k a b n1 H1 s1 e1 p1 (q1.later e1 fun H' b a p => l O H H1 n1 H' b a e1 s1.town p)
end
section
variable {B : Bd} {H H' : Hp} {O : OS}
theorem Brw.ext (tO : ∀ a, B.T.has a → O a) (e : Ext B.T H H') {v : V} {d : D} (h : Brw B H O v d) : Brw B H' O v d := by
  rcases h with h | ⟨a, xs, ds, h1, h2, ne, h3, h4⟩
  · exact .inl (Rep.step (step_of tO e) _ _ h)
  · exact .inr ⟨a, xs, ds, h1, h2, ne, e a _ ne h3, Reps.step (step_of tO e) _ _ h4⟩
theorem ArgOk.ext (tO : ∀ a, B.T.has a → O a) (e : Ext B.T H H') {v : V} {a : SV} (h : ArgOk B H O v a) : ArgOk B H' O v a := by
  cases a with
  | d x => exact Rep.step (step_of tO e) _ _ h
  | own _ => exact h
  | town => exact h
  | scr ns => exact h.imp fun a z => ⟨z.1, z.2.step (step_of tO e)⟩
  | ex _ => exact h
  | lis _ => exact h
  | dic _ => exact h
end

/-! ### names, constants -/
def varM : Option (Option SV) → M D
  | some (some (.d x)) => ret x
  | _ => fault
def borM : Option (Option SV) → M D
  | some (some (.d x)) => ret x
  | some (some (.own xs)) => ret (.list xs)
  | _ => fault
def varE (i : Nat) : Env → M D := fun env => varM env[i]?
def borE (i : Nat) : Env → M D := fun env => borM env[i]?
def cE (d : D) : Env → M D := fun _ => ret d
section
variable {X : Cx} {B : Bd} {e a b c : Expr} {pos : Pos} {fa fb fc : Env → M D}
theorem se_var {i : Nat} {x : Str} (h : PE X (.Name x pos) (tVar i)) : SE X B (.Name x pos) (varE i) := by
  refine pe_weak h fun σ H Q q => ?_
  obtain ⟨env, O, n, s, post⟩ := q
  have post : Post B (pE B O) H (varM env[i]? n) Q := post
  rcases e : env[i]? with _ | _ | x | xs | _ | _ | _ | _ | _ <;> rw [e] at post <;> first | exact post.elim | skip
  · obtain ⟨v, hv, r⟩ := s.slot i _ e
    exact ⟨v, hv, post v H (Ext.refl _ _) s.town r⟩
theorem sb_var {i : Nat} {x : Str} (h : PE X (.Name x pos) (tVar i)) : SB X B (.Name x pos) (borE i) := by
  refine pe_weak h fun σ H Q q => ?_
  obtain ⟨env, O, n, s, post⟩ := q
  have post : Post B (pB B O) H (borM env[i]? n) Q := post
  rcases e : env[i]? with _ | _ | x | xs | _ | _ | _ | _ | _ <;> rw [e] at post <;> first | exact post.elim | skip
  · obtain ⟨v, hv, r⟩ := s.slot i _ e
    exact ⟨v, hv, post v H (Ext.refl _ _) s.town (.inl r)⟩
  · obtain ⟨v, hv, a, vs, e1, o1, o2, ne, hl, r⟩ := s.slot i _ e
    exact ⟨v, hv, post v H (Ext.refl _ _) s.town (.inr ⟨a, vs, xs, e1, rfl, ne, hl, r⟩)⟩
theorem sb_of (h : SE X B e fa) : SB X B e fa := by
  refine pe_weak h fun σ H Q q => ?_
  obtain ⟨env, O, n, s, post⟩ := q
  refine ⟨env, O, n, s, ?_⟩
  cases r : fa env n with
  | ok a n1 => rw [r] at post; exact fun v H' e t p => post v H' e t (.inl p)
  | exc c n1 => rw [r] at post; exact post
  | bad => rw [r] at post; exact post
theorem se_c {v : V} {d : D} (h : PE X e (tC v)) (r : ∀ H O, Rep B.K H O v d) : SE X B e (cE d) := by
  refine pe_weak h fun σ H Q q => ?_
  obtain ⟨env, O, n, s, post⟩ := q
  exact post v H (Ext.refl _ _) s.town (r _ _)
theorem se_int {i : Int} {j : Nat} : SE X B (.Constant (.int i) j pos) (cE (.int i)) := se_c pe_int fun _ _ => .int i
theorem se_str {x : Str} {j : Nat} : SE X B (.Constant (.str x) j pos) (cE (.str x)) := se_c pe_str fun _ _ => .str x
theorem se_bl {x : Bool} {j : Nat} : SE X B (.Constant (.bool x) j pos) (cE (.bool x)) := se_c pe_bl fun _ _ => .bl x
theorem se_non {j : Nat} : SE X B (.Constant .none j pos) (cE .none) := se_c pe_non fun _ _ => .non

/-! ### operators -/
def opE (g : D → D → Option D) (fa fb : Env → M D) : Env → M D := fun env => seq (fa env) fun x => seq (fb env) fun y => lift (g x y)
theorem lift_post {α β : Type} {P : Hp → Hp → β → α → Prop} {H : Hp} {o : Option α} {n : Sta} {Q : β → Hp → Prop} (h : Post B P H (lift o n) Q) : ∃ z, o = some z ∧ ∀ b H', Ext B.T H H' → Town B.T H' n → P H H' b z → Q b H' := by
  cases o with
  | none => exact h.elim
  | some z => exact ⟨z, rfl, h⟩
theorem opE_run {g : D → D → Option D} {σ : L2.St} {H : Hp} {Q : VK} (h : tG B (pE B) (opE g fa fb) σ H Q) : tOp (rD B g) (tG B (pB B) fa) (tG B (pB B) fb) σ H Q := by
  obtain ⟨env, O, n, s, post⟩ := h
  refine tG_seq1 (g := fun env x => seq (fb env) fun y => lift (g x y)) lat_E s post fun x vx n1 H1 s1 e1 p1 q1 => ?_
  refine tG_seq1 (g := fun env y => lift (g x y)) lat_E s1 q1 fun y vy n2 H2 s2 e2 p2 q2 => ?_
  obtain ⟨z, hz, k⟩ := lift_post q2
  exact ⟨O, x, y, z, s2.dom, p1.ext s2.tO e2, p2, hz, fun v H' sm r => k v H' (same_ext sm) (same_town sm s2.town) r⟩
theorem se_op {op : Operator} {g : D → D → Option D} (ho : OpD X B (binaryOp op) g) (ha : SB X B a fa) (hb : SB X B b fb) : SE X B (.BinOp a op b pos) (opE g fa fb) :=
  pe_weak (pe_op ho ha hb) fun _ _ _ h => opE_run h
theorem se_cmp {op : CmpOp} {g : D → D → Option D} (ho : OpD X B (compareOp op) g) (ha : SB X B a fa) (hb : SB X B b fb) (hm : behindInMarks op b = false) : SE X B (.Compare a [op] [b] pos) (opE g fa fb) :=
  pe_weak (pe_cmpR ho ha hb hm) fun _ _ _ h => opE_run h
/-- a value that is a truth value -/
def boolM (x : D) : M Bool := match x with
  | .bool b => ret b
  | _ => fault
def testE (fa : Env → M D) : Env → M Bool := fun env => seq (fa env) boolM
theorem bool_post {P : Hp → Hp → Bool → Bool → Prop} {H : Hp} {x : D} {n : Sta} {Q : Bool → Hp → Prop} (h : Post B P H (boolM x n) Q) : ∃ b, x = .bool b ∧ ∀ b' H', Ext B.T H H' → Town B.T H' n → P H H' b' b → Q b' H' := by
  unfold boolM at h
  split at h
  · rename_i b; exact ⟨b, rfl, h⟩
  · exact h.elim
theorem testE_run {σ : L2.St} {H : Hp} {Q : Bool → Hp → Prop} (h : tG B pT (testE fa) σ H Q) : tG B (pE B) fa σ H fun x H1 => ∃ c, x = .bl c ∧ Q c H1 := by
  obtain ⟨env, O, n, s, post⟩ := h
  refine tG_seq1 (g := fun env => boolM) lat_T s post fun x vx n1 H1 s1 e1 p1 q1 => ?_
  obtain ⟨b, rfl, k⟩ := bool_post q1
  have e : vx = .bl b := by cases p1; rfl
  exact ⟨b, e, k b H1 (Ext.refl _ _) s1.town rfl⟩
theorem st_val (h : SE X B e fa) (he : ∀ whole, isTrue e X.env whole = (do let v ← whole; standAt e.pos; holding [v] (truthy v)) := by intro _; rfl) : ST X B e (testE fa) :=
  pt_weak (pt_val h he) fun _ _ _ q => testE_run q
theorem st_cmp {op : CmpOp} {g : D → D → Option D} (ho : OpD X B (compareOp op) g) (ha : SB X B a fa) (hb : SB X B b fb) (hm : behindInMarks op b = false) : ST X B (.Compare a [op] [b] pos) (testE (opE g fa fb)) := by
  refine pt_weak (pt_cmpR ho ha hb hm) fun σ H Q q => ?_
  have h := testE_run q
  exact opE_run (Q := fun x H' => ∃ k, x = .bl k ∧ Q k H') h
/-! ### chains -/
def chainE (g g' : D → D → Option D) (fa fb fc : Env → M D) : Env → M D := fun env => seq (fa env) fun x => seq (fb env) fun y => seq (lift (g x y)) fun r => seq (boolM r) fun k => if k = true then seq (fc env) fun z => lift (g' y z) else ret (.bool false)
theorem chainE_run {g g' : D → D → Option D} {σ : L2.St} {H : Hp} {Q : VK} (h : tG B (pE B) (chainE g g' fa fb fc) σ H Q) : tChain (rD B g) (rD B g') (tG B (pB B) fa) (tG B (pB B) fb) (tG B (pB B) fc) σ H Q := by
  obtain ⟨env, O, n, s, post⟩ := h
  unfold tChain
  refine tG_seq1 (g := fun env x => seq (fb env) fun y => seq (lift (g x y)) fun r => seq (boolM r) fun k => if k = true then seq (fc env) fun z => lift (g' y z) else ret (.bool false)) lat_E s post fun x vx n1 H1 s1 e1 p1 q1 => ?_
  refine tG_seq1 (g := fun env y => seq (lift (g x y)) fun r => seq (boolM r) fun k => if k = true then seq (fc env) fun z => lift (g' y z) else ret (.bool false)) lat_E s1 q1 fun y vy n2 H2 s2 e2 p2 q2 => ?_
  cases hz : g x y with
  | none => rw [hz] at q2; exact q2.elim
  | some z =>
    rw [hz] at q2
    refine ⟨O, x, y, z, s2.dom, p1.ext s2.tO e2, p2, hz, fun v H' sm r => ?_⟩
    cases z with
    | bool k =>
      have ev : v = .bl k := by cases r; rfl
      refine ⟨k, ev, ?_⟩
      cases k with
      | true =>
        have s3 : Sim B env O n2 σ H' := s2.ext (same_ext sm) (same_town sm s2.town)
        show tG B (pB B) fc σ H' fun w' H4 => rD B g' vy w' H4 Q
        refine tG_seq1 (g := fun env z => lift (g' y z)) lat_E s3 (Post.later (P := pE B O) q2 (same_ext sm) (fun _ _ _ p => p)) fun c vc n4 H4 s4 e4 p4 q4 => ?_
        obtain ⟨z', hz', k'⟩ := lift_post q4
        exact ⟨O, y, c, z', s4.dom, (p2.ext s2.tO (same_ext sm)).ext s4.tO e4, p4, hz', fun v H' sm r => k' v H' (same_ext sm) (same_town sm s4.town) r⟩
      | false => exact q2 (.bl false) H' (same_ext sm) (same_town sm s2.town) (.bl false)
    | _ => exact q2.elim
theorem se_chain {op op' : CmpOp} {g g' : D → D → Option D} (ho : OpD X B (compareOp op) g) (ho' : OpD X B (compareOp op') g') (ha : SB X B a fa) (hb : SB X B b fb) (hc : SB X B c fc) (hm : lastMarks [op, op'] [b, c] = false := by rfl) :
    SE X B (.Compare a [op, op'] [b, c] pos) (chainE g g' fa fb fc) := pe_weak (pe_chain ho ho' ha hb hc hm) fun _ _ _ h => chainE_run h
theorem st_chain {op op' : CmpOp} {g g' : D → D → Option D} (ho : OpD X B (compareOp op) g) (ho' : OpD X B (compareOp op') g') (ha : SB X B a fa) (hb : SB X B b fb) (hc : SB X B c fc) (hm : lastMarks [op, op'] [b, c] = false := by rfl) :
    ST X B (.Compare a [op, op'] [b, c] pos) (testE (chainE g g' fa fb fc)) := pt_weak (pt_chain ho ho' ha hb hc hm) fun σ H Q q => chainE_run (Q := fun x H' => ∃ k, x = .bl k ∧ Q k H') (testE_run q)
/-! ### is None -/
def isNoneD : D → Bool
  | .none => true
  | _ => false
def isNE (fa : Env → M D) : Env → M D := fun env => seq (fa env) fun x => ret (.bool (isNoneD x))
def notNE (fa : Env → M D) : Env → M D := fun env => seq (fa env) fun x => ret (.bool (!isNoneD x))
theorem rep_none {K : PySem.W.Frag} {H : Hp} {O : OS} {v : V} {d : D} (h : Rep K H O v d) : decide (v = .non) = isNoneD d := by cases h <;> rfl
theorem isNE_run {σ : L2.St} {H : Hp} {Q : VK} (h : tG B (pE B) (isNE fa) σ H Q) : tG B (pE B) fa σ H fun x H1 => Q (.bl (decide (x = .non))) H1 := by
  obtain ⟨env, O, n, s, post⟩ := h
  refine tG_seq1 (g := fun env x => ret (PyData.bool (isNoneD x))) lat_E s post fun x vx n1 H1 s1 e1 p1 q1 => ?_
  rw [rep_none p1]
  exact q1 _ H1 (Ext.refl _ _) s1.town (.bl _)
theorem notNE_run {σ : L2.St} {H : Hp} {Q : VK} (h : tG B (pE B) (notNE fa) σ H Q) : tG B (pE B) fa σ H fun x H1 => Q (.bl (!decide (x = .non))) H1 := by
  obtain ⟨env, O, n, s, post⟩ := h
  refine tG_seq1 (g := fun env x => ret (PyData.bool (!isNoneD x))) lat_E s post fun x vx n1 H1 s1 e1 p1 q1 => ?_
  rw [rep_none p1]
  exact q1 _ H1 (Ext.refl _ _) s1.town (.bl _)
theorem se_isN {j : Nat} {p : Pos} (ha : SE X B a fa) : SE X B (.Compare a [.Is] [.Constant .none j p] pos) (isNE fa) := pe_weak (pe_cmp (pc_isN ha)) fun _ _ _ h => isNE_run h
theorem se_notN {j : Nat} {p : Pos} (ha : SE X B a fa) : SE X B (.Compare a [.IsNot] [.Constant .none j p] pos) (notNE fa) := pe_weak (pe_cmp (pc_notN ha)) fun _ _ _ h => notNE_run h
theorem st_isN {j : Nat} {p : Pos} (ha : SE X B a fa) : ST X B (.Compare a [.Is] [.Constant .none j p] pos) (testE (isNE fa)) := pt_weak (pt_cmp (pc_isN ha)) fun σ H Q h => isNE_run (Q := fun x H' => ∃ k, x = .bl k ∧ Q k H') (testE_run h)
theorem st_notN {j : Nat} {p : Pos} (ha : SE X B a fa) : ST X B (.Compare a [.IsNot] [.Constant .none j p] pos) (testE (notNE fa)) := pt_weak (pt_cmp (pc_notN ha)) fun σ H Q h => notNE_run (Q := fun x H' => ∃ k, x = .bl k ∧ Q k H') (testE_run h)
/-! ### and, or, not; if -/
variable {ga gb : Env → M Bool} {rest : List Expr}
def andT (ga gb : Env → M Bool) : Env → M Bool := fun env => seq (ga env) fun x => if x = true then gb env else ret false
def orT (ga gb : Env → M Bool) : Env → M Bool := fun env => seq (ga env) fun x => if x = true then ret true else gb env
def notT (ga : Env → M Bool) : Env → M Bool := fun env => seq (ga env) fun x => ret (!x)
theorem sw_and1 (ha : ST X B a ga) : SW X B (.BoolOp .And [a] pos) ga := pw_and1 ha
theorem sw_or1 (ha : ST X B a ga) : SW X B (.BoolOp .Or [a] pos) ga := pw_or1 ha
theorem sw_and (ha : ST X B a ga) (hb : SW X B (.BoolOp .And (b :: rest) pos) gb) : SW X B (.BoolOp .And (a :: b :: rest) pos) (andT ga gb) := by
  refine pw_weak (pw_and ha hb) fun σ H Q h => ?_
  obtain ⟨env, O, n, s, post⟩ := h
  refine tG_seq1 (g := fun env x => if x = true then gb env else ret false) lat_T s post fun x vx n1 H1 s1 e1 p1 q1 => ?_
  cases p1
  cases x with
  | true => exact ⟨env, O, n1, s1, q1⟩
  | false => exact q1 false H1 (Ext.refl _ _) s1.town rfl
theorem sw_or (ha : ST X B a ga) (hb : SW X B (.BoolOp .Or (b :: rest) pos) gb) : SW X B (.BoolOp .Or (a :: b :: rest) pos) (orT ga gb) := by
  refine pw_weak (pw_or ha hb) fun σ H Q h => ?_
  obtain ⟨env, O, n, s, post⟩ := h
  refine tG_seq1 (g := fun env x => if x = true then ret true else gb env) lat_T s post fun x vx n1 H1 s1 e1 p1 q1 => ?_
  cases p1
  cases x with
  | true => exact q1 true H1 (Ext.refl _ _) s1.town rfl
  | false => exact ⟨env, O, n1, s1, q1⟩
theorem st_of (h : SW X B e ga) : ST X B e ga := h.pt
theorem st_not (ha : ST X B a ga) : ST X B (.UnaryOp .Not a pos) (notT ga) := by
  refine pt_weak (pt_not ha) fun σ H Q h => ?_
  obtain ⟨env, O, n, s, post⟩ := h
  refine tG_seq1 (g := fun env (x : Bool) => ret (!x)) lat_T s post fun x vx n1 H1 s1 e1 p1 q1 => ?_
  cases p1
  exact q1 _ H1 (Ext.refl _ _) s1.town rfl
/-- as values -/
def andE (fa fb : Env → M D) : Env → M D := fun env => seq (fa env) fun x => seq (boolM x) fun k => if k = true then fb env else ret (.bool false)
def orE (fa fb : Env → M D) : Env → M D := fun env => seq (fa env) fun x => seq (boolM x) fun k => if k = true then ret (.bool true) else fb env
def notE (fa : Env → M D) : Env → M D := fun env => seq (fa env) fun x => seq (boolM x) fun k => ret (.bool (!k))
theorem se_one {op} (h : SE X B a fa) : SE X B (.BoolOp op [a] pos) fa := pe_one h
theorem se_and (ha : SE X B a fa) (hb : SE X B (.BoolOp .And (b :: rest) pos) fb) : SE X B (.BoolOp .And (a :: b :: rest) pos) (andE fa fb) := by
  refine pe_weak (pe_and ha hb) fun σ H Q h => ?_
  obtain ⟨env, O, n, s, post⟩ := h
  refine tG_seq1 (g := fun env x => seq (boolM x) fun k => if k = true then fb env else ret (.bool false)) lat_E s post fun x vx n1 H1 s1 e1 p1 q1 => ?_
  cases p1 with
  | bl k =>
    refine ⟨k, rfl, ?_⟩
    cases k with
    | true => exact ⟨env, O, n1, s1, q1⟩
    | false => exact q1 _ H1 (Ext.refl _ _) s1.town (.bl _)
  | _ => exact q1.elim
theorem se_or (ha : SE X B a fa) (hb : SE X B (.BoolOp .Or (b :: rest) pos) fb) : SE X B (.BoolOp .Or (a :: b :: rest) pos) (orE fa fb) := by
  refine pe_weak (pe_or ha hb) fun σ H Q h => ?_
  obtain ⟨env, O, n, s, post⟩ := h
  refine tG_seq1 (g := fun env x => seq (boolM x) fun k => if k = true then ret (PyData.bool true) else fb env) lat_E s post fun x vx n1 H1 s1 e1 p1 q1 => ?_
  cases p1 with
  | bl k =>
    refine ⟨k, rfl, ?_⟩
    cases k with
    | true => exact q1 _ H1 (Ext.refl _ _) s1.town (.bl _)
    | false => exact ⟨env, O, n1, s1, q1⟩
  | _ => exact q1.elim
theorem se_not (ha : SE X B a fa) : SE X B (.UnaryOp .Not a pos) (notE fa) := by
  refine pe_weak (pe_not ha) fun σ H Q h => ?_
  obtain ⟨env, O, n, s, post⟩ := h
  refine tG_seq1 (g := fun env x => seq (boolM x) fun k => ret (PyData.bool (!k))) lat_E s post fun x vx n1 H1 s1 e1 p1 q1 => ?_
  cases p1 with
  | bl k => exact ⟨k, rfl, q1 _ H1 (Ext.refl _ _) s1.town (.bl _)⟩
  | _ => exact q1.elim
def ifE (gc : Env → M Bool) {α : Type} (fa fb : Env → M α) : Env → M α := fun env => seq (gc env) fun k => if k = true then fa env else fb env
theorem se_if {gc : Env → M Bool} (hc : ST X B c gc) (ha : SE X B a fa) (hb : SE X B b fb) : SE X B (.IfExp c a b pos) (ifE gc fa fb) := by
  refine pe_weak (pe_ifExp hc ha hb) fun σ H Q h => ?_
  obtain ⟨env, O, n, s, post⟩ := h
  refine tG_seq1 (g := fun env k => if k = true then fa env else fb env) lat_E s post fun x vx n1 H1 s1 e1 p1 q1 => ?_
  cases p1
  cases x with
  | true => exact ⟨env, O, n1, s1, q1⟩
  | false => exact ⟨env, O, n1, s1, q1⟩
theorem sb_if {gc : Env → M Bool} (hc : ST X B c gc) (ha : SB X B a fa) (hb : SB X B b fb) : SB X B (.IfExp c a b pos) (ifE gc fa fb) := by
  refine pe_weak (pe_ifExp hc ha hb) fun σ H Q h => ?_
  obtain ⟨env, O, n, s, post⟩ := h
  refine tG_seq1 (g := fun env k => if k = true then fa env else fb env) lat_B s post fun x vx n1 H1 s1 e1 p1 q1 => ?_
  cases p1
  cases x with
  | true => exact ⟨env, O, n1, s1, q1⟩
  | false => exact ⟨env, O, n1, s1, q1⟩
/-! ### argument lists -/
variable {es : List Expr}
abbrev SRs (X : Cx) (B : Bd) (es : List Expr) (f : Env → M (List D)) : Prop := PA X es (tG B (pRs B) f)
def nilE {α : Type} : Env → M (List α) := fun _ => ret []
def consE (fa : Env → M D) (fr : Env → M (List D)) : Env → M (List D) := fun env => seq (fa env) fun x => seq (fr env) fun r => ret (x :: r)
def consA (fa : Env → M D) (fr : Env → M (List SV)) : Env → M (List SV) := fun env => seq (fa env) fun x => seq (fr env) fun r => ret (.d x :: r)
def townM (fr : M (List SV)) : Option (Option SV) → M (List SV)
  | some (some .town) => seq fr fun r => ret (.town :: r)
  | _ => fault
def townA (i : Nat) (fr : Env → M (List SV)) : Env → M (List SV) := fun env => townM (fr env) env[i]?
theorem sr_nil : SRs X B [] nilE := pa_weak pa_nil fun σ H Q h => by
  obtain ⟨env, O, n, s, post⟩ := h
  exact post [] H (Ext.refl _ _) s.town .nil
theorem sbs_nil : SBs X B [] nilE := pa_weak pa_nil fun σ H Q h => by
  obtain ⟨env, O, n, s, post⟩ := h
  exact post [] H (Ext.refl _ _) s.town .nil
theorem sa_nil : SA X B [] nilE := pa_weak pa_nil fun σ H Q h => by
  obtain ⟨env, O, n, s, post⟩ := h
  exact post [] H (Ext.refl _ _) s.town .nil
theorem sr_cons {fr : Env → M (List D)} (ha : SE X B e fa) (hr : SRs X B es fr) (hs : starEach (e :: es) X.env = (false, eval e X.env) :: starEach es X.env := by rfl) : SRs X B (e :: es) (consE fa fr) :=
  pa_weak (pa_cons ha hr hs) fun σ H Q h => by
    obtain ⟨env, O, n, s, post⟩ := h
    refine tG_seq1 (g := fun env x => seq (fr env) fun r => ret (x :: r)) lat_Rs s post fun x vx n1 H1 s1 e1 p1 q1 => ?_
    refine tG_seq1 (g := fun env r => ret (x :: r)) lat_Rs s1 q1 fun y vy n2 H2 s2 e2 p2 q2 => ?_
    exact q2 _ H2 (Ext.refl _ _) s2.town (.cons (Rep.step (step_of s2.tO e2) _ _ p1) p2)
theorem sbs_cons {fr : Env → M (List D)} (ha : SB X B e fa) (hr : SBs X B es fr) (hs : starEach (e :: es) X.env = (false, eval e X.env) :: starEach es X.env := by rfl) : SBs X B (e :: es) (consE fa fr) :=
  pa_weak (pa_cons ha hr hs) fun σ H Q h => by
    obtain ⟨env, O, n, s, post⟩ := h
    refine tG_seq1 (g := fun env x => seq (fr env) fun r => ret (x :: r)) lat_Bs s post fun x vx n1 H1 s1 e1 p1 q1 => ?_
    refine tG_seq1 (g := fun env r => ret (x :: r)) lat_Bs s1 q1 fun y vy n2 H2 s2 e2 p2 q2 => ?_
    exact q2 _ H2 (Ext.refl _ _) s2.town (.cons (Brw.ext s2.tO e2 p1) p2)
theorem sa_cons {fr : Env → M (List SV)} (ha : SE X B e fa) (hr : SA X B es fr) (hs : starEach (e :: es) X.env = (false, eval e X.env) :: starEach es X.env := by rfl) : SA X B (e :: es) (consA fa fr) :=
  pa_weak (pa_cons ha hr hs) fun σ H Q h => by
    obtain ⟨env, O, n, s, post⟩ := h
    refine tG_seq1 (g := fun env x => seq (fr env) fun r => ret (SV.d x :: r)) lat_A s post fun x vx n1 H1 s1 e1 p1 q1 => ?_
    refine tG_seq1 (g := fun env r => ret (SV.d x :: r)) lat_A s1 q1 fun y vy n2 H2 s2 e2 p2 q2 => ?_
    exact q2 _ H2 (Ext.refl _ _) s2.town (.cons (show ArgOk B H2 O vx (.d x) from Rep.step (step_of s2.tO e2) _ _ p1) p2)
theorem sa_town {i : Nat} {x : Str} {fr : Env → M (List SV)} (ha : PE X (.Name x pos) (tVar i)) (hr : SA X B es fr) (hs : starEach (.Name x pos :: es) X.env = (false, eval (.Name x pos) X.env) :: starEach es X.env := by rfl) : SA X B (.Name x pos :: es) (townA i fr) :=
  pa_weak (pa_cons ha hr hs) fun σ H Q h => by
    obtain ⟨env, O, n, s, post⟩ := h
    have post : Post B (pA B O) H (townM (fr env) env[i]? n) Q := post
    rcases e : env[i]? with _ | _ | x | xs | _ | _ | _ | _ | _ <;> rw [e] at post <;> first | exact post.elim | skip
    · obtain ⟨v, hv, r⟩ := s.slot i _ e
      refine ⟨v, hv, ?_⟩
      refine tG_seq1 (g := fun env r => ret (SV.town :: r)) lat_A s post fun y vy n2 H2 s2 e2 p2 q2 => ?_
      exact q2 _ H2 (Ext.refl _ _) s2.town (.cons (show ArgOk B H2 O v .town from r) p2)
def scrM (fr : M (List SV)) : Option (Option SV) → M (List SV)
  | some (some (.scr ns)) => seq fr fun r => ret (.scr ns :: r)
  | _ => fault
def scrA (i : Nat) (fr : Env → M (List SV)) : Env → M (List SV) := fun env => scrM (fr env) env[i]?
theorem sa_scr {i : Nat} {x : Str} {fr : Env → M (List SV)} (ha : PE X (.Name x pos) (tVar i)) (hr : SA X B es fr) (hs : starEach (.Name x pos :: es) X.env = (false, eval (.Name x pos) X.env) :: starEach es X.env := by rfl) : SA X B (.Name x pos :: es) (scrA i fr) :=
  pa_weak (pa_cons ha hr hs) fun σ H Q h => by
    obtain ⟨env, O, n, s, post⟩ := h
    have post : Post B (pA B O) H (scrM (fr env) env[i]? n) Q := post
    rcases e : env[i]? with _ | _ | x | xs | _ | ns | _ | _ | _ <;> rw [e] at post <;> first | exact post.elim | skip
    · obtain ⟨v, hv, r⟩ := s.slot i _ e
      refine ⟨v, hv, ?_⟩
      refine tG_seq1 (g := fun env r => ret (SV.scr ns :: r)) lat_A s post fun y vy n2 H2 s2 e2 p2 q2 => ?_
      exact q2 _ H2 (Ext.refl _ _) s2.town (.cons (show ArgOk B H2 O v (.scr ns) from ArgOk.ext s2.tO e2 (show ArgOk B H O v (.scr ns) from r)) p2)
/-! ### displays -/
theorem step_add {H : Hp} {O : OS} {p : Addr} {o : HO} (hp : H p = none) : Step O H (addO O p) (upd H p o) := fun a u h n => ⟨by rw [upd_ne (ne_of_none h hp)]; exact h, fun z => z.elim n (ne_of_none h hp)⟩
def tupE (fr : Env → M (List D)) : Env → M D := fun env => seq (fr env) fun r => lift (if r.length ≤ big then some (.tuple r) else none)
def lstN (fr : Env → M (List D)) : Env → M (List D) := fun env => seq (fr env) fun r => lift (if r.length ≤ big then some r else none)
theorem Reps.len_le {K : PySem.W.Frag} {H : Hp} {O : OS} {vs : List V} {ds : List D} (h : Reps K H O vs ds) (l : ds.length ≤ big) : vs.length ≤ sizeLine := by rw [h.length]; exact Nat.le_trans l big_line
theorem se_tup {fr : Env → M (List D)} {k : Nat} (h : SRs X B es fr) : SE X B (.Tuple es k pos) (tupE fr) := by
  refine pe_weak (pe_tupZ h) fun σ H Q h => ?_
  obtain ⟨env, O, n, s, post⟩ := h
  refine tG_seq1 (g := fun env (r : List D) => lift (if r.length ≤ big then some (PyData.tuple r) else none)) lat_E s post fun x vx n1 H1 s1 e1 p1 q1 => ?_
  obtain ⟨z, hz, k⟩ := lift_post q1
  split at hz
  · rename_i hl
    cases hz
    exact ⟨p1.len_le hl, fun p o hp od => k _ _ (same_ext (same_new hp)) (same_town (same_new hp) s1.town) (rep_newT s1.dom hp od p1)⟩
  · cases hz
theorem sn_lst {fr : Env → M (List D)} (h : SRs X B es fr) : SN X B (.List es pos) (lstN fr) := by
  refine pe_weak (pe_lst h) fun σ H Q h => ?_
  obtain ⟨env, O, n, s, post⟩ := h
  refine tG_seq1 (g := fun env (r : List D) => lift (if r.length ≤ big then some r else none)) lat_N s post fun x vx n1 H1 s1 e1 p1 q1 => ?_
  obtain ⟨z, hz, k⟩ := lift_post q1
  split at hz
  · rename_i hl
    cases hz
    exact ⟨p1.len_le hl, fun p hp => k _ _ (same_ext (same_new hp)) (same_town (same_new hp) s1.town) ⟨p, vx, rfl, hp, upd_same, Reps.step (step_add hp) _ _ p1⟩⟩
  · cases hz
def listE (fr : Env → M (List D)) : Env → M D := fun env => seq (fr env) fun r => ret (.list r)
theorem pN_rep {H H' : Hp} {O : OS} {v : V} {ds : List D} (dom : ∀ a, O a → NF H a) (h : pN B O H H' v ds) : Rep B.K H' O v (.list ds) := by
  obtain ⟨a, xs, rfl, h1, h2, h3⟩ := h
  exact .lst ⟨.inl h2, fun z => (dom a z).ne h1⟩ (Reps.anti (fun _ q => .inl q) _ _ h3)
theorem se_of_sn {fr : Env → M (List D)} (h : SN X B e fr) : SE X B e (listE fr) := by
  refine pe_weak h fun σ H Q h => ?_
  obtain ⟨env, O, n, s, post⟩ := h
  exact tG_seq1 (g := fun env (r : List D) => ret (PyData.list r)) lat_E s post fun x vx n1 H1 s1 e1 p1 q1 => q1 _ H1 (Ext.refl _ _) s1.town (pN_rep s.dom p1)
theorem se_lst {fr : Env → M (List D)} (h : SRs X B es fr) : SE X B (.List es pos) (listE (lstN fr)) := se_of_sn (sn_lst h)
end
end Sim

namespace Sim
open PySem L2

/-! ### a[i] -/
def ixD : D → D → Option D
  | .list xs, .int i => atI xs i
  | .tuple xs, .int i => atI xs i
  | .str z, .int i => if z.length ≤ big then (atI z.cps.toList i).map fun c => .str ⟨#[c]⟩ else none
  | _, _ => none
section
variable {X : Cx} {B : Bd} {e a b c : Expr} {es : List Expr} {pos : Pos} {fa fb fc : Env → M D}
theorem Reps.atI {K : PySem.W.Frag} {H : Hp} {O : OS} {vs : List V} {ds : List D} {i : Int} {d : D} (h : Reps K H O vs ds) (e : atI ds i = some d) : ∃ v, L2.atI vs i = some v ∧ Rep K H O v d := by
  unfold L2.atI at e ⊢
  rw [h.length]
  cases q : ixN ds.length i with
  | none => rw [q] at e; cases e
  | some j =>
    rw [q] at e
    obtain ⟨v, h1, h2⟩ := Reps.of h (show ds[j]? = some d from e)
    exact ⟨v, h1, h2⟩
theorem IxR.imp {r r' : R2} (h : IxR X r) (k : ∀ x y H Q, r' x y H Q → r x y H Q) : IxR X r' := fun vl sl pins s σ H x y v u Q I rx ry q => h vl sl pins s σ H x y v u Q I rx ry (k x y H Q q)
theorem ixd (hK : B.K = X.K) : IxR X (rD B ixD) := by
  refine IxR.imp ix_seq fun x y H Q h => ?_
  obtain ⟨O, d, e, z, dom, hx, hy, hz, q⟩ := h
  unfold ixD at hz
  split at hz
  · left
    obtain ⟨a, xs, rfl, ra, rxs⟩ := hx.list
    obtain ⟨v, hv, rv⟩ := rxs.atI hz
    exact ⟨a, xs, _, v, rfl, hy.int, .inl ra, hv, q v H (fun _ _ h => h) rv⟩
  · right; left
    obtain ⟨a, xs, rfl, ra, rxs⟩ := hx.tup
    obtain ⟨v, hv, rv⟩ := rxs.atI hz
    rw [hK] at ra
    exact ⟨a, xs, _, v, rfl, hy.int, ra.sq, hv, q v H (fun _ _ h => h) rv⟩
  · right; right
    split at hz
    · rename_i hl
      rename_i z' i
      cases e : L2.atI z'.cps.toList i with
      | none => rw [e] at hz; cases hz
      | some c =>
        rw [e] at hz
        cases hz
        exact ⟨_, _, c, hx.str, hy.int, Nat.le_trans hl big_line, e, q _ H (fun _ _ h => h) (.str _)⟩
    · cases hz
  · cases hz
theorem se_ix (hK : B.K = X.K) (ha : SB X B a fa) (hb : SB X B b fb) (hs : PlainIx b) : SE X B (.Subscript a b pos) (opE ixD fa fb) :=
  pe_weak (pe_ix (ixd hK) ha hb hs) fun _ _ _ h => opE_run h
/-! ### slices -/
def cutL {α : Type} (xs : List α) (lo hi : Option Int) : List α := (xs.drop (HT.sIx xs.length 0 lo)).take (HT.sIx xs.length xs.length hi - HT.sIx xs.length 0 lo)
def sliceD : D → Option Int → Option Int → Option D
  | .list xs, lo, hi => some (.list (cutL xs lo hi))
  | .tuple xs, lo, hi => some (.tuple (cutL xs lo hi))
  | .str z, lo, hi => if z.length ≤ big then some (.str (cutS z lo hi)) else none
  | _, _, _ => none
def intM : D → M Int
  | .int i => ret i
  | _ => fault
def noneO : Env → M (Option Int) := fun _ => ret none
def someO (fa : Env → M D) : Env → M (Option Int) := fun env => seq (fa env) fun x => seq (intM x) fun i => ret (some i)
def pO : OS → Hp → Hp → Option Int → Option Int → Prop := fun _ _ _ b a => b = a
theorem lat_O : Lat B pO := fun _ _ _ _ _ _ _ _ _ p => p
abbrev SO (X : Cx) (B : Bd) (e : Option Expr) (f : Env → M (Option Int)) : Prop := PO X e (tG B pO f)
theorem po_weak {e : Option Expr} {t t' : TO} (h : PO X e t) (k : ∀ σ H Q, t' σ H Q → t σ H Q) : PO X e t' := ⟨fun pins s σ H Q I q => h.run pins s σ H Q I (k σ H Q q)⟩
theorem so_none : SO X B none noneO := po_weak po_none fun σ H Q h => by
  obtain ⟨env, O, n, s, post⟩ := h
  exact post none H (Ext.refl _ _) s.town rfl
theorem so_some (ha : SE X B a fa) : SO X B (some a) (someO fa) := po_weak (po_some ha) fun σ H Q h => by
  obtain ⟨env, O, n, s, post⟩ := h
  refine tG_seq1 (g := fun env x => seq (intM x) fun i => ret (some i)) lat_O s post fun x vx n1 H1 s1 e1 p1 q1 => ?_
  cases p1 with
  | int i => exact ⟨i, rfl, q1 _ H1 (Ext.refl _ _) s1.town rfl⟩
  | _ => exact q1.elim
def sliceE (fa : Env → M D) (fl fh : Env → M (Option Int)) : Env → M D := fun env => seq (fa env) fun x => seq (fl env) fun l => seq (fh env) fun h => lift (sliceD x l h)
theorem Reps.cut {K : PySem.W.Frag} {H : Hp} {O : OS} {vs : List V} {ds : List D} (h : Reps K H O vs ds) (lo hi : Option Int) : Reps K H O (cutV vs lo hi) (cutL ds lo hi) := by
  unfold cutV cutL
  rw [h.length]
  exact Reps.take _ (Reps.drop _ h)
theorem cut_whole {α : Type} (xs : List α) {lo hi : Option Int} (h : HT.sIx xs.length 0 lo = 0 ∧ HT.sIx xs.length xs.length hi = xs.length) : cutL xs lo hi = xs := by
  unfold cutL
  rw [h.1, h.2]; simp
theorem sld (hK : B.K = X.K) : SlR X (fun x lo hi H Q => ∃ O d z, (∀ a, O a → NF H a) ∧ Brw B H O x d ∧ sliceD d lo hi = some z ∧ ∀ v H', Same H H' → Rep B.K H' O v z → Q v H') := by
  have base := SlR.or (X := X) sl_list (SlR.or sl_tupZ sl_str)
  intro pins s σ H x v vl vu lo hi sl Q I rx hs pl pu h
  refine base pins s σ H x v vl vu lo hi sl Q I rx hs pl pu ?_
  obtain ⟨O, d, z, dom, hx, hz, q⟩ := h
  unfold sliceD at hz
  split at hz
  · cases hz; left
    obtain ⟨a, xs, rfl, ra, rxs⟩ := hx.list
    exact ⟨a, xs, rfl, .inl ra, fun p hp => q _ _ (same_new hp) (rep_newL dom hp (rxs.cut _ _))⟩
  · cases hz; right; left
    obtain ⟨a, xs, rfl, ra, rxs⟩ := hx.tup
    have ra' := ra
    rw [hK] at ra'
    refine ⟨a, xs, rfl, ra'.sq, fun hw => ?_, fun _ p o hp od => q _ _ (same_new hp) (rep_newT dom hp od (rxs.cut _ _))⟩
    rw [rxs.length] at hw
    rw [cut_whole _ hw] at q
    exact q _ H (fun _ _ h => h) (.tup ra rxs)
  · split at hz
    · rename_i hl
      cases hz; right; right
      exact ⟨_, hx.str, Nat.le_trans hl big_line, q _ H (fun _ _ h => h) (.str _)⟩
    · cases hz
  · cases hz
theorem se_slice {lo hi : Option Expr} {p2 : Pos} {fl fh : Env → M (Option Int)} (hK : B.K = X.K) (ha : SB X B a fa) (hl : SO X B lo fl) (hh : SO X B hi fh) : SE X B (.Subscript a (.Slice lo hi none p2) pos) (sliceE fa fl fh) := by
  refine pe_weak (pe_slice (sld hK) ha hl hh) fun σ H Q h => ?_
  obtain ⟨env, O, n, s, post⟩ := h
  refine tG_seq1 (g := fun env x => seq (fl env) fun l => seq (fh env) fun h => lift (sliceD x l h)) lat_E s post fun x vx n1 H1 s1 e1 p1 q1 => ?_
  refine tG_seq1 (g := fun env l => seq (fh env) fun h => lift (sliceD x l h)) lat_E s1 q1 fun y vy n2 H2 s2 e2 p2 q2 => ?_
  refine tG_seq1 (g := fun env h => lift (sliceD x y h)) lat_E s2 q2 fun w vw n3 H3 s3 e3 p3 q3 => ?_
  cases p2; cases p3
  obtain ⟨z, hz, k⟩ := lift_post q3
  exact ⟨O, x, z, s3.dom, (p1.ext s3.tO e2).ext s3.tO e3, hz, fun v H' sm r => k v H' (same_ext sm) (same_town sm s3.town) r⟩
/-- a[::-1] of a list -/
def revE (fa : Env → M D) : Env → M D := fun env => seq (fa env) fun x => lift (match x with | .list xs => some (.list xs.reverse) | _ => none)
theorem se_revL {k : Nat} {p1 p2 p3 : Pos} (hK : B.K = X.K) (ha : SB X B a fa) : SE X B (.Subscript a (.Slice none none (some (.UnaryOp .USub (.Constant (.int 1) k p1) p2)) p3) pos) (revE fa) := by
  refine pe_weak (pe_revL ha) fun σ H Q h => ?_
  obtain ⟨env, O, n, s, post⟩ := h
  refine tG_seq1 (g := fun env (x : D) => lift (match x with | .list xs => some (PyData.list xs.reverse) | _ => none)) lat_E s post fun x vx n1 H1 s1 e1 p1 q1 => ?_
  obtain ⟨z, hz, k⟩ := lift_post q1
  split at hz
  · cases hz
    obtain ⟨a, xs, rfl, ra, rxs⟩ := Brw.list p1
    exact ⟨a, xs, rfl, .inl ra, fun p hp => k _ _ (same_ext (same_new hp)) (same_town (same_new hp) s1.town) (rep_newL s1.dom hp rxs.reverse)⟩
  · cases hz
/-! ### built-ins called -/
def rC (B : Bd) (g : List D → Option D) : List V → Hp → VK → Prop := fun vs H Q => ∃ O ds z, (∀ a, O a → NF H a) ∧ Brws B H O vs ds ∧ g ds = some z ∧ ∀ v H', Same H H' → Rep B.K H' O v z → Q v H'
def CallD (X : Cx) (B : Bd) (f : Value) (g : List D → Option D) : Prop := CallR X f (rC B g)
theorem CallR.imp {f : Value} {r r' : List V → Hp → VK → Prop} (h : CallR X f r) (k : ∀ vs H Q, r' vs H Q → r vs H Q) : CallR X f r' := fun pins s σ H vs us Q I rv q => h pins s σ H vs us Q I rv (k vs H Q q)
def callB (g : List D → Option D) (fs : Env → M (List D)) : Env → M D := fun env => seq (fs env) fun ds => lift (g ds)
theorem callB_run {g : List D → Option D} {fs : Env → M (List D)} {σ : L2.St} {H : Hp} {Q : VK} (h : tG B (pE B) (callB g fs) σ H Q) : tCB (rC B g) (tG B (pBs B) fs) σ H Q := by
  obtain ⟨env, O, n, s, post⟩ := h
  refine tG_seq1 (g := fun env ds => lift (g ds)) lat_E s post fun x vx n1 H1 s1 e1 p1 q1 => ?_
  obtain ⟨z, hz, k⟩ := lift_post q1
  exact ⟨O, x, z, s1.dom, p1, hz, fun v H' sm r => k v H' (same_ext sm) (same_town sm s1.town) r⟩
theorem se_callB {id : String} {x : Str} {p : Pos} {g : List D → Option D} {fs : Env → M (List D)} (hc : CallD X B (.builtin id) g) (hg : Gl X x) (hm : X.mg x = none) (hv : bootBuiltins x = some (.builtin id)) (ha : SBs X B (e :: es) fs) (hn : x ≠ "__name__" := by decide) (hdb : (x == ("__debug__" : Str)) = false := by decide)
    (he : starEach (e :: es) X.env = (false, eval e X.env) :: starEach es X.env := by rfl) (hpl : (backTo pos (starEach es X.env)).any (·.1) = false := by rfl) : SE X B (.Call (.Name x p) (e :: es) [] pos) (callB g fs) :=
  pe_weak (pe_callB hc hg hm hv ha hn hdb he hpl) fun _ _ _ h => callB_run h
theorem se_callTy {T : String} {x : Str} {p : Pos} {g : List D → Option D} {fs : Env → M (List D)} (hc : CallD X B (.type T) g) (hg : Gl X x) (hm : X.mg x = none) (hv : bootBuiltins x = some (.type T)) (ha : SBs X B (e :: es) fs) (hn : x ≠ "__name__" := by decide) (hdb : (x == ("__debug__" : Str)) = false := by decide)
    (he : starEach (e :: es) X.env = (false, eval e X.env) :: starEach es X.env := by rfl) (hpl : (backTo pos (starEach es X.env)).any (·.1) = false := by rfl) : SE X B (.Call (.Name x p) (e :: es) [] pos) (callB g fs) :=
  pe_weak (pe_callTy hc hg hm hv ha hn hdb he hpl) fun _ _ _ h => callB_run h
theorem Brws.one {H : Hp} {O : OS} {vs : List V} {d : D} (h : Brws B H O vs [d]) : ∃ v, vs = [v] ∧ Brw B H O v d := by
  cases h with
  | cons h1 h2 => cases h2; exact ⟨_, rfl, h1⟩
theorem Brws.two {H : Hp} {O : OS} {vs : List V} {d e : D} (h : Brws B H O vs [d, e]) : ∃ v w, vs = [v, w] ∧ Brw B H O v d ∧ Brw B H O w e := by
  cases h with
  | cons h1 h2 =>
    cases h2 with
    | cons h2 h3 => cases h3; exact ⟨_, _, rfl, h1, h2⟩
def lenD : List D → Option D
  | [.list xs] => some (.int xs.length)
  | [.tuple xs] => some (.int xs.length)
  | [.str z] => if z.length ≤ big then some (.int z.length) else none
  | _ => none
theorem calld_len (hK : B.K = X.K) : CallD X B (.builtin "len") lenD := by
  refine CallR.imp (CallR.or call_len_seq call_len_str) fun vs H Q h => ?_
  obtain ⟨O, ds, z, dom, hv, hz, q⟩ := h
  unfold lenD at hz
  split at hz
  · cases hz; left
    obtain ⟨v, rfl, h1⟩ := hv.one
    obtain ⟨a, xs, rfl, ra, rxs⟩ := h1.list
    refine ⟨a, xs, rfl, .inl (.inl ra), ?_⟩
    rw [rxs.length]
    exact q _ H (fun _ _ h => h) (.int _)
  · cases hz; left
    obtain ⟨v, rfl, h1⟩ := hv.one
    obtain ⟨a, xs, rfl, ra, rxs⟩ := h1.tup
    rw [hK] at ra
    refine ⟨a, xs, rfl, .inr ra.sq, ?_⟩
    rw [rxs.length]
    exact q _ H (fun _ _ h => h) (.int _)
  · split at hz
    · rename_i hl
      cases hz; right
      obtain ⟨v, rfl, h1⟩ := hv.one
      exact ⟨_, by rw [h1.str], Nat.le_trans hl big_line, q _ H (fun _ _ h => h) (.int _)⟩
    · cases hz
  · cases hz
def intD : List D → Option D
  | [.int i] => some (.int i)
  | [.bool k] => some (.int (if k then 1 else 0))
  | [.str z] => if z.length ≤ 640 then (PySem.intText? z).map .int else none
  | _ => none
theorem calld_int : CallD X B (.type "int") intD := by
  refine CallR.imp (CallR.or call_int1 call_int_str) fun vs H Q h => ?_
  obtain ⟨O, ds, z, dom, hv, hz, q⟩ := h
  unfold intD at hz
  split at hz
  · cases hz; left; left
    obtain ⟨v, rfl, h1⟩ := hv.one
    exact ⟨_, by rw [h1.int], q _ H (fun _ _ h => h) (.int _)⟩
  · cases hz; left; right
    obtain ⟨v, rfl, h1⟩ := hv.one
    exact ⟨_, by rw [h1.bool], q _ H (fun _ _ h => h) (.int _)⟩
  · split at hz
    · rename_i hl
      right
      obtain ⟨v, rfl, h1⟩ := hv.one
      rename_i x
      cases e : PySem.intText? x with
      | none => rw [e] at hz; cases hz
      | some i =>
        rw [e] at hz; cases hz
        exact ⟨_, i, by rw [h1.str], e, hl, q _ H (fun _ _ h => h) (.int _)⟩
    · cases hz
  · cases hz
def strD : List D → Option D
  | [.int i] => if i.natAbs < 1000000 then some (.str (toString i)) else none
  | _ => none
theorem calld_str : CallD X B (.type "str") strD := by
  refine CallR.imp call_str_int fun vs H Q h => ?_
  obtain ⟨O, ds, z, dom, hv, hz, q⟩ := h
  unfold strD at hz
  split at hz
  · split at hz
    · rename_i i hl
      cases hz
      obtain ⟨v, rfl, h1⟩ := hv.one
      refine ⟨_, by rw [h1.int], ?_, q _ H (fun _ _ h => h) (.str _)⟩
      by_cases h0 : i.natAbs = 0
      · rw [h0]; decide
      · have : i.natAbs.log2 < 20 := (Nat.log2_lt h0).mpr (by omega)
        omega
    · cases hz
  · cases hz
def intsOf : List D → Option (List Int)
  | [] => some []
  | .int i :: r => (intsOf r).map (i :: ·)
  | _ :: _ => none
theorem intsOf_reps {K : PySem.W.Frag} {H : Hp} {O : OS} : ∀ {vs : List V} {ds : List D} {ns : List Int}, Reps K H O vs ds → intsOf ds = some ns → vs = ns.map V.int
  | _, _, _, .nil, e => by cases e; rfl
  | _, _, ns, .cons (d := d) (ds := ds) r t, e => by
    cases d with
    | int i =>
      unfold intsOf at e
      cases q : intsOf ds with
      | none => rw [q] at e; cases e
      | some ms =>
        rw [q] at e; cases e
        cases r
        rw [intsOf_reps t q]; rfl
    | _ => cases e
def boolsOf : List D → Option (List Bool)
  | [] => some []
  | .bool i :: r => (boolsOf r).map (i :: ·)
  | _ :: _ => none
theorem boolsOf_reps {K : PySem.W.Frag} {H : Hp} {O : OS} : ∀ {vs : List V} {ds : List D} {ns : List Bool}, Reps K H O vs ds → boolsOf ds = some ns → vs = ns.map V.bl
  | _, _, _, .nil, e => by cases e; rfl
  | _, _, ns, .cons (d := d) (ds := ds) r t, e => by
    cases d with
    | bool i =>
      unfold boolsOf at e
      cases q : boolsOf ds with
      | none => rw [q] at e; cases e
      | some ms =>
        rw [q] at e; cases e
        cases r
        rw [boolsOf_reps t q]; rfl
    | _ => cases e
def strsOf : List D → Option (List Str)
  | [] => some []
  | .str i :: r => (strsOf r).map (i :: ·)
  | _ :: _ => none
theorem strsOf_reps {K : PySem.W.Frag} {H : Hp} {O : OS} : ∀ {vs : List V} {ds : List D} {ns : List Str}, Reps K H O vs ds → strsOf ds = some ns → vs = ns.map V.str
  | _, _, _, .nil, e => by cases e; rfl
  | _, _, ns, .cons (d := d) (ds := ds) r t, e => by
    cases d with
    | str i =>
      unfold strsOf at e
      cases q : strsOf ds with
      | none => rw [q] at e; cases e
      | some ms =>
        rw [q] at e; cases e
        cases r
        rw [strsOf_reps t q]; rfl
    | _ => cases e
def sumD : List D → Option D
  | [.list xs] => (intsOf xs).map fun ns => .int ns.sum
  | _ => none
theorem calld_sum (hc : X.calm = true) : CallD X B (.builtin "sum") sumD := by
  refine CallR.imp (cr_sum hc) fun vs H Q h => ?_
  obtain ⟨O, ds, z, dom, hv, hz, q⟩ := h
  unfold sumD at hz
  split at hz
  · rename_i xs
    obtain ⟨v, rfl, h1⟩ := hv.one
    obtain ⟨a, ys, rfl, ra, rxs⟩ := h1.list
    cases e : intsOf xs with
    | none => rw [e] at hz; cases hz
    | some ns =>
      rw [e] at hz; cases hz
      have e2 := intsOf_reps rxs e
      subst e2
      exact ⟨a, ns, rfl, .inl ra, q _ H (fun _ _ h => h) (.int _)⟩
  · cases hz
def allD : List D → Option D
  | [.list xs] => (boolsOf xs).map fun ns => .bool (ns.all id)
  | _ => none
theorem calld_all (hc : X.calm = true) : CallD X B (.builtin "all") allD := by
  refine CallR.imp (cr_all hc) fun vs H Q h => ?_
  obtain ⟨O, ds, z, dom, hv, hz, q⟩ := h
  unfold allD at hz
  split at hz
  · rename_i xs
    obtain ⟨v, rfl, h1⟩ := hv.one
    obtain ⟨a, ys, rfl, ra, rxs⟩ := h1.list
    cases e : boolsOf xs with
    | none => rw [e] at hz; cases hz
    | some ns =>
      rw [e] at hz; cases hz
      have e2 := boolsOf_reps rxs e
      subst e2
      exact ⟨a, ns, rfl, .inl ra, q _ H (fun _ _ h => h) (.bl _)⟩
  · cases hz
def max2D : List D → Option D
  | [.int i, .int j] => some (.int (if j > i then j else i))
  | _ => none
theorem calld_max2 (hc : X.calm = true) : CallD X B (.builtin "max") max2D := by
  refine CallR.imp (call_max2 hc) fun vs H Q h => ?_
  obtain ⟨O, ds, z, dom, hv, hz, q⟩ := h
  unfold max2D at hz
  split at hz
  · cases hz
    obtain ⟨v, w, rfl, h1, h2⟩ := hv.two
    exact ⟨_, _, by rw [h1.int, h2.int], q _ H (fun _ _ h => h) (.int _)⟩
  · cases hz
def min2D : List D → Option D
  | [.int i, .int j] => some (.int (if j < i then j else i))
  | _ => none
theorem calld_min2 (hc : X.calm = true) : CallD X B (.builtin "min") min2D := by
  refine CallR.imp (call_min2 hc) fun vs H Q h => ?_
  obtain ⟨O, ds, z, dom, hv, hz, q⟩ := h
  unfold min2D at hz
  split at hz
  · cases hz
    obtain ⟨v, w, rfl, h1, h2⟩ := hv.two
    exact ⟨_, _, by rw [h1.int, h2.int], q _ H (fun _ _ h => h) (.int _)⟩
  · cases hz
def listD : List D → Option D
  | [.list xs] => some (.list xs)
  | [.tuple xs] => some (.list xs)
  | _ => none
theorem calld_list (hK : B.K = X.K) : CallD X B (.type "list") listD := by
  refine CallR.imp call_list_of fun vs H Q h => ?_
  obtain ⟨O, ds, z, dom, hv, hz, q⟩ := h
  unfold listD at hz
  split at hz
  · cases hz
    obtain ⟨v, rfl, h1⟩ := hv.one
    obtain ⟨a, xs, rfl, ra, rxs⟩ := h1.list
    exact ⟨a, xs, rfl, .inl (.inl ra), fun p hp => q _ _ (same_new hp) (rep_newL dom hp rxs)⟩
  · cases hz
    obtain ⟨v, rfl, h1⟩ := hv.one
    obtain ⟨a, xs, rfl, ra, rxs⟩ := h1.tup
    rw [hK] at ra
    exact ⟨a, xs, rfl, .inr ra.sq, fun p hp => q _ _ (same_new hp) (rep_newL dom hp rxs)⟩
  · cases hz
def tupleD : List D → Option D
  | [.list xs] => some (.tuple xs)
  | [.tuple xs] => some (.tuple xs)
  | _ => none
theorem calld_tuple (hK : B.K = X.K) : CallD X B (.type "tuple") tupleD := by
  refine CallR.imp call_tupleZ fun vs H Q h => ?_
  obtain ⟨O, ds, z, dom, hv, hz, q⟩ := h
  unfold tupleD at hz
  split at hz
  · cases hz
    obtain ⟨v, rfl, h1⟩ := hv.one
    obtain ⟨a, xs, rfl, ra, rxs⟩ := h1.list
    exact ⟨a, xs, rfl, .inl ⟨.inl ra, fun p o hp od => q _ _ (same_new hp) (rep_newT dom hp od rxs)⟩⟩
  · cases hz
    obtain ⟨v, rfl, h1⟩ := hv.one
    obtain ⟨a, xs, rfl, ra, rxs⟩ := h1.tup
    have ra' := ra
    rw [hK] at ra'
    exact ⟨a, xs, rfl, .inr ⟨ra'.sq, q _ H (fun _ _ h => h) (.tup ra rxs)⟩⟩
  · cases hz
/-! ### isinstance(x, T) -/
def isiE (g : D → Bool) (fa : Env → M D) : Env → M D := fun env => seq (fa env) fun x => ret (.bool (g x))
def rIsi (K : PySem.W.Frag) (T : String) (g : D → Bool) : List V → Hp → VK → Prop := fun vs H Q => ∃ x d, vs = [x, .ty T] ∧ Dp K H x d ∧ Q (.bl (g d)) H
theorem isi_of {T : String} {g : D → Bool} (h : ∀ {s : Shared} {v : Value} {d : PyData} {as : List Addr} {Q : Value → Shared → Prop} {E : Value → Shared → Prop}, Reads s.heap v d as → (∀ tk, s.toks ≤ tk → Q (.bool (g d)) { s with toks := tk }) →
    wpAny (model X.prog X.w) X.A (call (.builtin "isinstance") [v, .type T]) Q E s) : CallR X (.builtin "isinstance") (rIsi X.K T g) := by
  intro pins s σ H vs us Q I rv q
  obtain ⟨x, d, rfl, dp, q⟩ := q
  cases rv with
  | cons r1 rr =>
    cases rr with
    | cons r2 rr =>
      cases rr
      cases r2
      obtain ⟨as, rd⟩ := Dp.reads I d x _ dp r1
      exact h rd fun tk _ => ⟨.bl (g d), H, I.tok tk, rfl, q⟩
theorem isi_int : CallR X (.builtin "isinstance") (rIsi X.K "int" PyData.isInt) := isi_of fun r h => PySem.W.isinstance_int_data r h
theorem isi_bool : CallR X (.builtin "isinstance") (rIsi X.K "bool" PyData.isBool) := isi_of fun r h => PySem.W.isinstance_bool_data r h
theorem isi_str : CallR X (.builtin "isinstance") (rIsi X.K "str" PyData.isStr) := isi_of fun r h => PySem.W.isinstance_str_data r h
theorem isi_list : CallR X (.builtin "isinstance") (rIsi X.K "list" PyData.isList) := isi_of fun r h => PySem.W.isinstance_list_data r h
theorem isi_tuple : CallR X (.builtin "isinstance") (rIsi X.K "tuple" PyData.isTuple) := isi_of fun r h => PySem.W.isinstance_tuple_data r h
theorem se_isi {T : String} {g : D → Bool} {t : Str} {p p2 : Pos} (hK : B.K = X.K) (hc : CallR X (.builtin "isinstance") (rIsi X.K T g)) (hg : Gl X "isinstance") (hm : X.mg "isinstance" = none) (hgt : Gl X t) (hmt : X.mg t = none) (hvt : bootBuiltins t = some (.type T)) (ha : SB X B a fa)
    (hnt : t ≠ "__name__" := by decide) (hdt : (t == ("__debug__" : Str)) = false := by decide)
    (h1 : starEach [a, .Name t p2] X.env = (false, eval a X.env) :: starEach [.Name t p2] X.env := by rfl) (h2 : starEach [.Name t p2] X.env = (false, eval (.Name t p2) X.env) :: starEach [] X.env := by rfl) (hpl : (backTo pos (starEach [.Name t p2] X.env)).any (·.1) = false := by rfl) :
    SE X B (.Call (.Name "isinstance" p) [a, .Name t p2] [] pos) (isiE g fa) := by
  refine pe_weak (pe_callB hc hg hm (by decide +kernel) (pa_cons ha (pa_cons (pe_bltn (v := .ty T) hgt hmt hvt rfl hnt hdt) pa_nil h2) h1) (by decide) (by decide) h1 hpl) fun σ H Q h => ?_
  obtain ⟨env, O, n, s, post⟩ := h
  refine tG_seq1 (g := fun env x => ret (PyData.bool (g x))) lat_E s post fun x vx n1 H1 s1 e1 p1 q1 => ?_
  have dp := Brw.dp p1
  rw [hK] at dp
  exact ⟨vx, x, rfl, dp, q1 _ H1 (Ext.refl _ _) s1.town (.bl _)⟩
/-! ### methods -/
def rM (B : Bd) (g : D → List D → Option D) : V → List V → Hp → VK → Prop := fun x vs H Q => ∃ O d ds z, (∀ a, O a → NF H a) ∧ Brw B H O x d ∧ Brws B H O vs ds ∧ g d ds = some z ∧ ∀ v H', Same H H' → Rep B.K H' O v z → Q v H'
def MtD (X : Cx) (B : Bd) (id : String) (g : D → List D → Option D) : Prop := MtR X id (rM B g)
theorem MtR.imp {id : String} {r r' : V → List V → Hp → VK → Prop} (h : MtR X id r) (k : ∀ x vs H Q, r' x vs H Q → r x vs H Q) : MtR X id r' := fun pins s σ H x vs v us Q I rx rv q => h pins s σ H x vs v us Q I rx rv (k x vs H Q q)
def methE (ok : D → Bool) (g : D → List D → Option D) (fo : Env → M D) (fs : Env → M (List D)) : Env → M D := fun env => seq (fo env) fun x => if ok x = true then seq (fs env) fun ds => lift (g x ds) else fault
theorem se_meth {T : String} {call : Expr} {ok : D → Bool} {g : D → List D → Option D} {fo : Env → M D} {fs : Env → M (List D)} (hT : ∀ H O v d, Brw B H O v d → ok d = true → tyV X.K T v H) (h : PE X call (tBM X.K T (rM B g) (tG B (pB B) fo) (tG B (pBs B) fs))) :
    SE X B call (methE ok g fo fs) := by
  refine pe_weak h fun σ H Q h => ?_
  obtain ⟨env, O, n, s, post⟩ := h
  refine tG_seq1 (g := fun env x => if ok x = true then seq (fs env) fun ds => lift (g x ds) else fault) lat_E s post fun x vx n1 H1 s1 e1 p1 q1 => ?_
  by_cases hok : ok x = true
  · rw [if_pos hok] at q1
    refine ⟨hT _ _ _ _ p1 hok, ?_⟩
    refine tG_seq1 (g := fun env ds => lift (g x ds)) lat_E s1 q1 fun y vy n2 H2 s2 e2 p2 q2 => ?_
    obtain ⟨z, hz, k⟩ := lift_post q2
    exact ⟨O, x, y, z, s2.dom, Brw.ext s2.tO e2 p1, p2, hz, fun v H' sm r => k v H' (same_ext sm) (same_town sm s2.town) r⟩
  · rw [if_neg hok] at q1; exact q1.elim
end
end Sim

namespace Sim
open PySem L2

inductive Fl where
  | next (env : Env)
  | ret (d : D)
  | rn (xs : List D)
  | brk (env : Env)
  | cont (env : Env)
/-- a new list is handed back -/
def RN (B : Bd) (H' : Hp) (v : V) (xs : List D) : Prop := ∃ a vs, v = .ref a ∧ B.H0 a = none ∧ H' a = some (.lst vs) ∧ Reps B.K H' (addO B.O0 a) vs xs
def SPost (B : Bd) (De : Ends) (O : OS) (H : Hp) (r : R Fl) : Prop := match r with
  | .ok (.next env) n => ∀ σ' O' H', Sim B env O' n σ' H' → Step O H O' H' → De.nx σ' H'
  | .ok (.brk env) n => ∀ σ' O' H', Sim B env O' n σ' H' → Step O H O' H' → De.bk σ' H'
  | .ok (.cont env) n => ∀ σ' O' H', Sim B env O' n σ' H' → Step O H O' H' → De.ct σ' H'
  | .ok (.ret d) n => ∀ v H', Ext B.T B.H0 H' → Town B.T H' n → Rep B.K H' B.O0 v d → De.rt v H'
  | .ok (.rn xs) n => ∀ v H', Ext B.T B.H0 H' → Town B.T H' n → RN B H' v xs → De.rt v H'
  | .exc c n => XPost B c n
  | .bad => False
def tS (B : Bd) (g : Env → M Fl) : TS := fun De σ H => ∃ env O n, Sim B env O n σ H ∧ SPost B De O H (g env n)
abbrev SS (X : Cx) (B : Bd) (st : Stmt) (g : Env → M Fl) : Prop := PS X st (tS B g)
abbrev SSs (X : Cx) (B : Bd) (sts : List Stmt) (g : Env → M Fl) : Prop := PSs X sts (tS B g)
theorem SPost.later {B : Bd} {De : Ends} {O O1 : OS} {H H1 : Hp} {r : R Fl} (h : SPost B De O H r) (st : Step O H O1 H1) : SPost B De O1 H1 r := by
  cases r with
  | ok f n =>
    cases f with
    | next env => exact fun σ' O' H' s st' => h σ' O' H' s (st.trans st')
    | brk env => exact fun σ' O' H' s st' => h σ' O' H' s (st.trans st')
    | cont env => exact fun σ' O' H' s st' => h σ' O' H' s (st.trans st')
    | ret d => exact h
    | rn xs => exact h
  | exc c n => exact h
  | bad => exact h
section
variable {B : Bd} {α β : Type} {P : OS → Hp → Hp → β → α → Prop} {σ : L2.St} {H : Hp} {De : Ends}
/-- an expression first, then a flow -/
theorem tS_seq {f : Env → M α} {g : Env → α → M Fl} {Y : β → Hp → Prop} {env : Env} {O : OS} {n : Sta} (s : Sim B env O n σ H) (h : SPost B De O H (seq (f env) (g env) n))
    (k : ∀ a b n1 H1, Sim B env O n1 σ H1 → Ext B.T H H1 → P O H H1 b a → SPost B De O H1 (g env a n1) → Y b H1) : tG B P f σ H Y := by
  refine ⟨env, O, n, s, ?_⟩
  unfold seq at h
  cases e : f env n with
  | ok a n1 =>
    rw [e] at h
    intro b H1 ex tw p
    exact k a b n1 H1 (s.ext ex tw) ex p (SPost.later h (step_of s.tO ex))
  | exc c n1 => rw [e] at h; exact h
  | bad => rw [e] at h; exact h.elim
end

/-! ### what a store does -/
theorem set_slot {env : Env} {i j : Nat} {x : Option SV} {sv : SV} (h : (env.set i x)[j]? = some (some sv)) : (i = j ∧ x = some sv ∧ i < env.length) ∨ (i ≠ j ∧ env[j]? = some (some sv)) := by
  by_cases hj : i = j
  · subst hj
    by_cases hl : i < env.length
    · rw [List.getElem?_set_self hl] at h
      exact .inl ⟨rfl, Option.some.inj h, hl⟩
    · rw [List.getElem?_eq_none (by rw [List.length_set]; omega)] at h; cases h
  · rw [List.getElem?_set_ne hj] at h
    exact .inr ⟨hj, h⟩
section
variable {B : Bd} {env : Env} {O : OS} {n n' : Sta} {σ : L2.St} {H H' : Hp}
theorem Sim.setV (s : Sim B env O n σ H) (i : Nat) {v : V} {sv : SV} (w : sv.ow = false) (r : SlotOk B H O v sv) : Sim B (env.set i (some sv)) O n (σ.set i (some v)) H where
  len := by rw [List.length_set, List.length_set]; exact s.len
  slot := fun j tv h => by
    rcases set_slot h with ⟨rfl, e, hl⟩ | ⟨hj, h⟩
    · cases e
      exact ⟨v, by rw [List.getElem?_set_self (by rw [← s.len]; exact hl)], r⟩
    · rw [List.getElem?_set_ne hj]
      exact s.slot j tv h
  sep := fun j k tv uv x hjk h1 w1 h2 w2 h3 => by
    rcases set_slot h1 with ⟨rfl, e, hl⟩ | ⟨nj, h1⟩
    · cases e; rw [w] at w1; cases w1
    rcases set_slot h2 with ⟨rfl, e, hl⟩ | ⟨nk, h2⟩
    · cases e; rw [w] at w2; cases w2
    rw [List.getElem?_set_ne nj] at h3
    rw [List.getElem?_set_ne nk]
    exact s.sep j k tv uv x hjk h1 w1 h2 w2 h3
  dom := s.dom
  town := s.town
  tO := s.tO
  fr1 := s.fr1
  fr2 := s.fr2
  fr3 := s.fr3
  tK := s.tK
  tC := s.tC
theorem Sim.setD (s : Sim B env O n σ H) (i : Nat) {v : V} {d : D} (r : Rep B.K H O v d) : Sim B (env.set i (some (.d d))) O n (σ.set i (some v)) H := s.setV i rfl r
/-- a new owned thing at p -/
theorem Sim.setNew (s : Sim B env O n σ H) (i : Nat) {p : Addr} {o : HO} {sv : SV} (e : Ext B.T H H') (t : Town B.T H' n') (hp : H p = none) (hp' : H' p = some o) (no : nf o = true) (r : ¬ B.O0 p → ¬ B.T.has p → SlotOk B H' (addO O p) (.ref p) sv) :
    Sim B (env.set i (some sv)) (addO O p) n' (σ.set i (some (.ref p))) H' := by
  have st : Step O H (addO O p) H' := fun a o h na => ⟨e a o (fun z => na (s.tO a z)) h, fun z => z.elim na (ne_of_none h hp)⟩
  have npT : ¬ B.T.has p := s.town.cold hp
  have h0 : B.H0 p = none := none_back s.fr1 s.town hp
  have n0 : ¬ B.O0 p := fun z => (s.dom p (s.fr3 p z)).ne hp
  refine ⟨by rw [List.length_set, List.length_set]; exact s.len, fun j tv h => ?_, fun j k tv uv x hjk h1 w1 h2 w2 h3 => ?_, fun a h => ?_, t, fun a h => .inl (s.tO a h), s.fr1.trans e, fun a h => ?_, fun a h => .inl (s.fr3 a h), s.tK, s.tC⟩
  · rcases set_slot h with ⟨rfl, e1, hl⟩ | ⟨hj, h⟩
    · cases e1
      exact ⟨.ref p, by rw [List.getElem?_set_self (by rw [← s.len]; exact hl)], r n0 npT⟩
    · rw [List.getElem?_set_ne hj]
      obtain ⟨v, h1, h2⟩ := s.slot j tv h
      exact ⟨v, h1, h2.to st fun _ a _ o1 ne => ⟨.inl o1, fun o q => e a o ne q⟩⟩
  · rcases set_slot h1 with ⟨rfl, e1, hl⟩ | ⟨nj, h1⟩
    · rw [List.getElem?_set_self (by rw [← s.len]; exact hl)] at h3
      cases h3
      rcases set_slot h2 with ⟨rfl, _⟩ | ⟨nk, h2⟩
      · exact absurd rfl hjk
      rw [List.getElem?_set_ne nk]
      intro q
      obtain ⟨v, q1, q2⟩ := s.slot k _ h2
      obtain ⟨a, e2, _, _, _, na⟩ := q2.ow w2
      rw [q] at q1; cases q1; cases e2
      exact na hp
    · rw [List.getElem?_set_ne nj] at h3
      rcases set_slot h2 with ⟨rfl, e1, hl⟩ | ⟨nk, h2⟩
      · rw [List.getElem?_set_self (by rw [← s.len]; exact hl)]
        intro q
        cases q
        obtain ⟨v, q1, q2⟩ := s.slot j _ h1
        obtain ⟨a, e2, _, _, _, na⟩ := q2.ow w1
        rw [h3] at q1; cases q1; cases e2
        exact na hp
      · rw [List.getElem?_set_ne nk]
        exact s.sep j k tv uv x hjk h1 w1 h2 w2 h3
  · rcases h with h | h
    · exact dom_ext e t s.dom a h
    · rw [h]; exact ⟨o, hp', no⟩
  · rcases h with h | h
    · exact s.fr2 a h
    · rw [h]; exact .inr h0
theorem Sim.setOwn (s : Sim B env O n σ H) (i : Nat) {p : Addr} {vs : List V} {ds : List D} (e : Ext B.T H H') (t : Town B.T H' n') (hp : H p = none) (hp' : H' p = some (.lst vs)) (r : Reps B.K H' (addO O p) vs ds) :
    Sim B (env.set i (some (.own ds))) (addO O p) n' (σ.set i (some (.ref p))) H' := s.setNew i e t hp hp' rfl fun h1 h2 => ⟨p, vs, rfl, .inr rfl, h1, h2, hp', r⟩
/-- a cold thing is changed: what is known stays -/
theorem Town.cool {T : Hot} (t : Town T H n) {a : Addr} {o : HO} (na : ¬ T.has a) (f : NF H a) : Town T (upd H a o) n := t.keep (fun b ob u h => by
    by_cases z : b = a
    · subst z; obtain ⟨o', e', n'⟩ := f; rw [h] at e'; cases e'; cases n'
    · rw [upd_ne z]; exact h) fun b hb => upd_ne fun z => na (z ▸ hb)
/-- the owned thing of slot i is changed -/
theorem Sim.mutG (s : Sim B env O n σ H) {i : Nat} {sv sv' : SV} {a : Addr} {o : HO} (hi : env[i]? = some (some sv)) (w : sv.ow = true) (w' : sv'.ow = true) (hσ : σ[i]? = some (some (.ref a))) (no : nf o = true) (r : O a → ¬ B.O0 a → ¬ B.T.has a → Step O H O (upd H a o) → SlotOk B (upd H a o) O (.ref a) sv') :
    Sim B (env.set i (some sv')) O n σ (upd H a o) ∧ Step O H O (upd H a o) := by
  obtain ⟨v, q1, q2⟩ := s.slot i _ hi
  obtain ⟨a', e1, o1, o2, ne, na⟩ := q2.ow w
  rw [hσ] at q1
  cases q1
  cases e1
  have st : Step O H O (upd H a o) := fun b u h nb => ⟨by rw [upd_ne (fun z => nb (by rw [z]; exact o1))]; exact h, nb⟩
  have hl : i < env.length := (List.getElem?_eq_some_iff.mp hi).1
  refine ⟨⟨by rw [List.length_set]; exact s.len, fun j tv h => ?_, fun j k tv uv x hjk h1 w1 h2 w2 h3 => ?_, fun b h => ?_, s.town.cool ne (s.dom a o1), s.tO, fun b u nb h => ?_, s.fr2, s.fr3, s.tK, s.tC⟩, st⟩
  · rcases set_slot h with ⟨rfl, e1, _⟩ | ⟨hj, h⟩
    · cases e1
      exact ⟨.ref a, hσ, r o1 o2 ne st⟩
    · obtain ⟨v, h1, h2⟩ := s.slot j tv h
      refine ⟨v, h1, h2.to st fun w2 c e2 c1 c2 => ⟨c1, fun u q => ?_⟩⟩
      have nac : c ≠ a := fun z => by
        subst e2 z
        exact s.sep i j _ _ _ hj hi w h w2 hσ h1
      rw [upd_ne nac]; exact q
  · have g : ∀ (m : Nat) (zv : SV), zv.ow = true → (env.set i (some sv'))[m]? = some (some zv) → ∃ zv' : SV, env[m]? = some (some zv') ∧ zv'.ow = true := fun m zv wz h => by
      rcases set_slot h with ⟨rfl, e1, _⟩ | ⟨hm, h⟩
      · exact ⟨sv, hi, w⟩
      · exact ⟨zv, h, wz⟩
    obtain ⟨z1, g1, g2⟩ := g j _ w1 h1
    obtain ⟨z2, g3, g4⟩ := g k _ w2 h2
    exact s.sep j k _ _ x hjk g1 g2 g3 g4 h3
  · by_cases z : b = a
    · subst z; exact ⟨o, upd_same, no⟩
    · obtain ⟨u, e1, n1⟩ := s.dom b h
      exact ⟨u, by rw [upd_ne z]; exact e1, n1⟩
  · have nba : b ≠ a := fun z => by
      subst z
      rcases s.fr2 b o1 with q | q
      · exact o2 q
      · rw [q] at h; cases h
    rw [upd_ne nba]
    exact s.fr1 b u nb h
theorem Sim.mut (s : Sim B env O n σ H) {i : Nat} {xs ds : List D} {a : Addr} {vs : List V} (hi : env[i]? = some (some (.own xs))) (hσ : σ[i]? = some (some (.ref a))) (r : Reps B.K H O vs ds) :
    Sim B (env.set i (some (.own ds))) O n σ (upd H a (.lst vs)) ∧ Step O H O (upd H a (.lst vs)) :=
  s.mutG hi rfl rfl hσ rfl fun o1 o2 ne st => ⟨a, vs, rfl, o1, o2, ne, upd_same, Reps.step st _ _ r⟩
/-- an owned list is given up -/
theorem Sim.freeze (s : Sim B env O n σ H) {i : Nat} {xs : List D} (hi : env[i]? = some (some (.own xs))) : ∃ O', Sim B (env.set i (some (.d (.list xs)))) O' n σ H ∧ Step O H O' H := by
  obtain ⟨v, q1, a, vs, e1, o1, o2, ne, hv, r⟩ := s.slot i _ hi
  subst e1
  have hl : i < env.length := (List.getElem?_eq_some_iff.mp hi).1
  have sub : ∀ b, (O b ∧ b ≠ a) → O b := fun b z => z.1
  have st : Step O H (fun b => O b ∧ b ≠ a) H := fun b o h nb => ⟨h, fun z => nb z.1⟩
  refine ⟨fun b => O b ∧ b ≠ a, ⟨by rw [List.length_set]; exact s.len, fun j tv h => ?_, fun j k tv uv x hjk h1 w1 h2 w2 h3 => ?_, fun b h => s.dom b h.1, s.town, fun b h => ⟨s.tO b h, fun z => ne (z ▸ h)⟩, s.fr1, fun b h => s.fr2 b h.1, fun b h => ⟨s.fr3 b h, fun z => o2 (z ▸ h)⟩, s.tK, s.tC⟩, st⟩
  · rcases set_slot h with ⟨rfl, e1, _⟩ | ⟨hj, h⟩
    · cases e1
      exact ⟨.ref a, q1, .lst ⟨.inl hv, fun z => z.2 rfl⟩ (Reps.anti sub _ _ r)⟩
    · obtain ⟨v, h1, h2⟩ := s.slot j tv h
      refine ⟨v, h1, h2.to st fun w2 c e2 c1 c2 => ⟨⟨c1, fun z => ?_⟩, fun _ q => q⟩⟩
      subst e2 z
      exact s.sep i j _ _ _ hj hi rfl h w2 q1 h1
  · rcases set_slot h1 with ⟨rfl, e1, _⟩ | ⟨_, h1⟩
    · cases e1; cases w1
    rcases set_slot h2 with ⟨rfl, e1, _⟩ | ⟨_, h2⟩
    · cases e1; cases w2
    exact s.sep j k _ _ x hjk h1 w1 h2 w2 h3
end

/-! ### statements -/
section
variable {X : Cx} {B : Bd} {st : Stmt} {rest : List Stmt} {g g' : Env → M Fl} {e : Expr} {fa : Env → M D} {pos : Pos}
def thenM (g' : Env → M Fl) : Fl → M Fl
  | .next env => g' env
  | f => ret f
def thenS (g g' : Env → M Fl) : Env → M Fl := fun env => seq (g env) (thenM g')
def nextS : Env → M Fl := fun env => ret (.next env)
theorem ss_nil : SSs X B [] nextS := pss_weak pss_nil fun De σ H h => by
  obtain ⟨env, O, n, s, post⟩ := h
  exact post σ O H s (Step.refl _ _)
theorem ss_cons (h1 : SS X B st g) (h2 : SSs X B rest g') : SSs X B (st :: rest) (thenS g g') := by
  refine pss_weak (pss_cons h1 h2) fun De σ H h => ?_
  obtain ⟨env, O, n, s, post⟩ := h
  refine ⟨env, O, n, s, ?_⟩
  have post : SPost B De O H (seq (g env) (thenM g') n) := post
  unfold seq at post
  cases r : g env n with
  | ok f m =>
    rw [r] at post
    cases f with
    | next env' => exact fun σ' O' H' s' st' => ⟨env', O', m, s', SPost.later post st'⟩
    | ret d => exact post
    | rn xs => exact post
    | brk env' => exact post
    | cont env' => exact post
  | exc c m => rw [r] at post; exact post
  | bad => rw [r] at post; exact post
theorem ss_one (h1 : SS X B st g) : SSs X B [st] g := pss_one h1
def retS (fa : Env → M D) : Env → M Fl := fun env => seq (fa env) fun d => ret (.ret d)
theorem ss_ret (h : SE X B e fa) : SS X B (.Return (some e) pos) (retS fa) := by
  refine ps_weak (ps_ret h) fun De σ H h => ?_
  obtain ⟨env, O, n, s, post⟩ := h
  refine tS_seq (g := fun env d => ret (.ret d)) s post fun x vx n1 H1 s1 e1 p1 q1 => ?_
  exact q1 vx H1 s1.fr1 s1.town (Rep.anti s1.fr3 _ _ p1)
theorem ss_retN : SS X B (.Return none pos) (fun _ => ret (.ret .none)) := by
  refine ps_weak ps_retN fun De σ H h => ?_
  obtain ⟨env, O, n, s, post⟩ := h
  exact post .non H s.fr1 s.town .non
def exprS (fa : Env → M D) : Env → M Fl := fun env => seq (fa env) fun _ => ret (.next env)
theorem ss_expr (h : SE X B e fa) (hs : swapsWith e none pos.line X.env = pure false := by rfl) : SS X B (.Expr e pos) (exprS fa) := by
  refine ps_weak (ps_expr h hs) fun De σ H h => ?_
  obtain ⟨env, O, n, s, post⟩ := h
  refine tS_seq (g := fun env _ => ret (.next env)) s post fun x vx n1 H1 s1 e1 p1 q1 => ?_
  exact q1 σ O H1 s1 (Step.refl _ _)
def ifS (gc : Env → M Bool) (g g' : Env → M Fl) : Env → M Fl := fun env => seq (gc env) fun k => if k = true then g env else g' env
theorem ss_if {c : Expr} {a b : List Stmt} {gc : Env → M Bool} (hc : ST X B c gc) (ha : SSs X B a g) (hb : SSs X B b g') : SS X B (.If c a b pos) (ifS gc g g') := by
  refine ps_weak (ps_if hc ha hb) fun De σ H h => ?_
  obtain ⟨env, O, n, s, post⟩ := h
  refine tS_seq (g := fun env k => if k = true then g env else g' env) s post fun x vx n1 H1 s1 e1 p1 q1 => ?_
  cases p1
  cases x with
  | true => exact ⟨env, O, n1, s1, q1⟩
  | false => exact ⟨env, O, n1, s1, q1⟩
theorem ss_never : SS X B st (fun _ => fault) := ps_weak ps_never fun De σ H h => by
  obtain ⟨env, O, n, s, post⟩ := h
  exact post
theorem sss_never {sts : List Stmt} : SSs X B sts (fun _ => fault) := pss_weak pss_never fun De σ H h => by
  obtain ⟨env, O, n, s, post⟩ := h
  exact post
/-- x = e, x in slot i -/
def setS (i : Nat) (fa : Env → M D) : Env → M Fl := fun env => seq (fa env) fun d => ret (.next (env.set i (some (.d d))))
theorem ss_asg {i : Nat} (h : PS X st (tAsg (tG B (pE B) fa) (gName i))) : SS X B st (setS i fa) := by
  refine ps_weak h fun De σ H h => ?_
  obtain ⟨env, O, n, s, post⟩ := h
  refine tS_seq (g := fun env d => ret (.next (env.set i (some (.d d))))) s post fun x vx n1 H1 s1 e1 p1 q1 => ?_
  exact q1 _ O H1 (s1.setD i p1) (Step.refl _ _)
def setN (i : Nat) (fr : Env → M (List D)) : Env → M Fl := fun env => seq (fr env) fun ds => ret (.next (env.set i (some (.own ds))))
theorem ss_asgN {i : Nat} {fr : Env → M (List D)} (h : PS X st (tAsg (tG B (pN B) fr) (gName i))) : SS X B st (setN i fr) := by
  refine ps_weak h fun De σ H h => ?_
  obtain ⟨env, O, n, s, post⟩ := h
  refine ⟨env, O, n, s, ?_⟩
  have post : SPost B De O H (seq (fr env) (fun ds => ret (.next (env.set i (some (.own ds))))) n) := post
  unfold seq at post
  cases r : fr env n with
  | ok ds m =>
    rw [r] at post
    intro v H' ex tw p
    obtain ⟨a, xs, rfl, h1, h2, h3⟩ := p
    have st : Step O H (addO O a) H' := fun b o h nb => ⟨ex b o (fun z => nb (s.tO b z)) h, fun z => z.elim nb (ne_of_none h h1)⟩
    exact post _ _ H' (s.setOwn i ex tw h1 h2 h3) st
  | exc c m => rw [r] at post; exact post
  | bad => rw [r] at post; exact post
/-- an owned list given up, ahead of the rest -/
def freezeEnv (i : Nat) (env : Env) : Env := match env[i]? with
  | some (some (.own xs)) => env.set i (some (.d (.list xs)))
  | _ => env
def freezeS (i : Nat) (g : Env → M Fl) : Env → M Fl := fun env => g (freezeEnv i env)
theorem ss_freeze {i : Nat} (h : SSs X B rest g) : SSs X B rest (freezeS i g) := by
  refine pss_weak h fun De σ H h => ?_
  obtain ⟨env, O, n, s, post⟩ := h
  have post : SPost B De O H (g (freezeEnv i env) n) := post
  unfold freezeEnv at post
  split at post
  · rename_i xs hi
    obtain ⟨O', s', st⟩ := s.freeze hi
    exact ⟨_, O', n, s', SPost.later post st⟩
  · exact ⟨env, O, n, s, post⟩
/-- what an owned slot holds -/
def ownM {α : Type} (k : List D → M α) : Option (Option SV) → M α
  | some (some (.own xs)) => k xs
  | _ => fault
theorem own_post {α : Type} {k : List D → M α} {o : Option (Option SV)} {n : Sta} {P : R α → Prop} (hb : P .bad → False) (h : P (ownM k o n)) : ∃ xs, o = some (some (.own xs)) ∧ P (k xs n) := by
  rcases o with _ | _ | x | xs | _ | _ | _ | _ | _ <;> first | exact (hb h).elim | skip
  exact ⟨xs, rfl, h⟩
theorem own_addr {env : Env} {O : OS} {n : Sta} {σ : L2.St} {H : Hp} (s : Sim B env O n σ H) {i : Nat} {xs : List D} (hi : env[i]? = some (some (.own xs))) : ∃ a vs, σ[i]? = some (some (.ref a)) ∧ ¬ B.T.has a ∧ H a = some (.lst vs) ∧ Reps B.K H O vs xs := by
  obtain ⟨v, q1, a, vs, e1, o1, o2, ne, hv, r⟩ := s.slot i _ hi
  subst e1
  exact ⟨a, vs, q1, ne, hv, r⟩
/-- xs.append(e) of an owned list -/
def appS (i : Nat) (fa : Env → M D) : Env → M Fl := fun env => ownM (fun xs => seq (fa env) fun d => if xs.length < big then ret (.next (env.set i (some (.own (xs ++ [d]))))) else fault) env[i]?
theorem ss_app {i : Nat} {K : PySem.W.Frag} (h : PS X st (tDrop (tBM K "list" rAppend (tVar i) (tCons (tG B (pE B) fa) tNil)))) : SS X B st (appS i fa) := by
  refine ps_weak h fun De σ H h => ?_
  obtain ⟨env, O, n, s, post⟩ := h
  obtain ⟨xs, hi, post⟩ := own_post (P := SPost B De O H) (fun z => z) post
  obtain ⟨a, vs, hσ, ne, hv, r⟩ := own_addr s hi
  refine ⟨_, hσ, .inl ⟨rfl, vs, .inl (.inl hv)⟩, ?_⟩
  refine tS_seq (g := fun env d => if xs.length < big then ret (.next (env.set i (some (.own (xs ++ [d]))))) else fault) s post fun x vx n1 H1 s1 e1 p1 q1 => ?_
  obtain ⟨a', vs', hσ', ne', hv', r'⟩ := own_addr s1 hi
  rw [hσ] at hσ'; cases hσ'
  by_cases hl : xs.length < big
  · rw [if_pos hl] at q1
    refine ⟨a, vs', vx, rfl, rfl, hv', by rw [r'.length]; exact Nat.lt_of_lt_of_le hl big_line, ?_⟩
    obtain ⟨s2, st2⟩ := s1.mut hi hσ (r'.append (.cons p1 .nil))
    exact q1 _ _ _ s2 st2
  · rw [if_neg hl] at q1; exact q1.elim
/-- xs.extend(e) of an owned list -/
def rExtendR : V → List V → Hp → VK → Prop := fun x vs H Q => ∃ l b xs zs, x = .ref l ∧ vs = [.ref b] ∧ H l = some (.lst xs) ∧ Rd H b (.lst zs) ∧ xs.length + zs.length ≤ sizeLine ∧ Q .non (upd H l (.lst (xs ++ zs)))
theorem mt_extendR : MtR X "list.extend" rExtendR := by
  intro pins s σ H x vs v us Q I rx rv h
  obtain ⟨l, b, xs, zs, rfl, rfl, hH, hB, hz, q⟩ := h
  cases rx
  obtain ⟨u, rfl, ru⟩ := rv.one
  cases ru
  obtain ⟨z, its, n, r, hl, e⟩ := I.lstM hH
  obtain ⟨z2, its2, n2, r2, hl2, e2⟩ := lstR I hB
  have hsz : its.toArray.size + its2.toArray.size ≤ sizeLine := by rw [List.size_toArray, List.size_toArray]; omega
  have hlong : ¬ (!its.toArray.isEmpty && Builtin.List.listTooLong (its.toArray.size + its2.toArray.size)) = true := by
    rw [notLongL hsz, Bool.and_false]
    exact Bool.false_ne_true
  refine PySem.call_meets PySem.F.slot_list_extend ⟨_, e, rfl⟩ PySem.F.entry_list_extend (PySem.F.args_list_extend_2 _ _)
    (PySem.AutoSeq1.list_extend_list_list_0 l its.toArray n b its2.toArray n2 hlong (by rw [List.size_toArray]; omega) (by omega)) ⟨e, e2, ?_⟩
  refine ⟨.non, _, I.lset (its' := its ++ its2) hH e (by simp) (r.append r2) ?_, rfl, q⟩
  rw [List.length_append]
  omega
def extM (i : Nat) (env : Env) (xs : List D) : D → M Fl
  | .list ys => if xs.length + ys.length ≤ big then ret (.next (env.set i (some (.own (xs ++ ys))))) else fault
  | _ => fault
def extS (i : Nat) (fa : Env → M D) : Env → M Fl := fun env => ownM (fun xs => seq (fa env) (extM i env xs)) env[i]?
theorem ss_ext {i : Nat} {K : PySem.W.Frag} (h : PS X st (tDrop (tBM K "list" rExtendR (tVar i) (tCons (tG B (pB B) fa) tNil)))) : SS X B st (extS i fa) := by
  refine ps_weak h fun De σ H h => ?_
  obtain ⟨env, O, n, s, post⟩ := h
  obtain ⟨xs, hi, post⟩ := own_post (P := SPost B De O H) (fun z => z) post
  obtain ⟨a, vs, hσ, ne, hv, r⟩ := own_addr s hi
  refine ⟨_, hσ, .inl ⟨rfl, vs, .inl (.inl hv)⟩, ?_⟩
  refine tS_seq (g := fun env d => extM i env xs d) s post fun x vx n1 H1 s1 e1 p1 q1 => ?_
  obtain ⟨a', vs', hσ', ne', hv', r'⟩ := own_addr s1 hi
  rw [hσ] at hσ'; cases hσ'
  cases x with
  | list ys =>
    have q1 : SPost B De O H1 ((if xs.length + ys.length ≤ big then ret (.next (env.set i (some (.own (xs ++ ys))))) else fault) n1) := q1
    by_cases hl : xs.length + ys.length ≤ big
    · rw [if_pos hl] at q1
      obtain ⟨b, zs, rfl, rb, rys⟩ := Brw.list p1
      refine ⟨a, b, vs', zs, rfl, rfl, hv', rb, by rw [r'.length, rys.length]; exact Nat.le_trans hl big_line, ?_⟩
      obtain ⟨s2, st2⟩ := s1.mut hi hσ (r'.append rys)
      exact q1 _ _ _ s2 st2
    · rw [if_neg hl] at q1; exact q1.elim
  | _ => exact q1.elim
/-- xs[k] = e of an owned list, k a written number -/
def putS (i : Nat) (k : Int) (fa : Env → M D) : Env → M Fl := fun env => seq (fa env) fun d => ownM (fun xs => match ixN xs.length k with
  | some j => ret (.next (env.set i (some (.own (xs.set j d)))))
  | none => fault) env[i]?
theorem ss_put {i : Nat} {k : Int} (h : PS X st (tAsg (tG B (pE B) fa) (gSub (tVar i) (tC (.int k)) rSetL))) : SS X B st (putS i k fa) := by
  refine ps_weak h fun De σ H h => ?_
  obtain ⟨env, O, n, s, post⟩ := h
  refine tS_seq (g := fun env d => ownM (fun xs => match ixN xs.length k with
    | some j => ret (.next (env.set i (some (.own (xs.set j d)))))
    | none => fault) env[i]?) s post fun x vx n1 H1 s1 e1 p1 q1 => ?_
  obtain ⟨xs, hi, q1⟩ := own_post (P := SPost B De O H1) (fun z => z) q1
  obtain ⟨a, vs, hσ, ne, hv, r⟩ := own_addr s1 hi
  cases hk : ixN xs.length k with
  | none => rw [hk] at q1; exact q1.elim
  | some j =>
    rw [hk] at q1
    refine ⟨_, hσ, a, vs, k, j, rfl, rfl, hv, by rw [r.length]; exact hk, ?_⟩
    obtain ⟨s2, st2⟩ := s1.mut hi hσ (Reps.set p1 j r)
    exact q1 _ _ _ s2 st2
/-- town.append(0); len(town) -/
def townK {α : Type} (k : M α) : Option (Option SV) → M α
  | some (some .town) => k
  | _ => fault
theorem town_post {α : Type} {k : M α} {o : Option (Option SV)} {n : Sta} {P : R α → Prop} (hb : P .bad → False) (h : P (townK k o n)) : o = some (some .town) ∧ P (k n) := by
  rcases o with _ | _ | x | xs | _ | _ | _ | _ | _ <;> first | exact (hb h).elim | skip
  exact ⟨rfl, h⟩
def tickM (env : Env) : M Fl := fun n => if n.n < big then .ok (.next env) { n with n := n.n + 1 } else .bad
theorem Town.tick {T : Hot} {H : Hp} {n : Sta} (t : Town T H n) {xs : List V} {m : Nat} (hx : xs = zeros m) : Town T (upd H T.t (.lst xs)) { n with n := m } := by
  subst hx
  have nt : ∀ l ∈ T.L, l.a ≠ T.t ∧ l.pa ≠ T.t := fun l hl => by
    refine ⟨fun z => ?_, t.2.2.1 l hl⟩
    obtain ⟨k, hk⟩ := List.mem_iff_getElem?.mp hl
    obtain ⟨l', _, f, tt, b, d, vs, e1, _⟩ := t.2.1.at hk
    rw [z, t.1] at e1
    cases e1
  refine ⟨upd_same, t.2.1.firm (fun b ob u h => ?_) (fun l hl => ⟨upd_ne (nt l hl).1, upd_ne (nt l hl).2⟩), t.2.2⟩
  rw [upd_ne (fun z => by rw [z, t.1] at h; cases h)]; exact h
def tickS (i : Nat) : Env → M Fl := fun env => townK (tickM env) env[i]?
theorem zeros_succ (n : Nat) : zeros n ++ [V.int 0] = zeros (n + 1) := by
  unfold zeros
  rw [List.replicate_succ', ]
theorem ss_tick {i : Nat} {K : PySem.W.Frag} (h : PS X st (tDrop (tBM K "list" rAppend (tVar i) (tCons (tC (.int 0)) tNil)))) : SS X B st (tickS i) := by
  refine ps_weak h fun De σ H h => ?_
  obtain ⟨env, O, n, s, post⟩ := h
  obtain ⟨hi, post⟩ := town_post (P := SPost B De O H) (fun z => z) post
  obtain ⟨v, hσ, hv⟩ := s.slot i _ hi
  have hv : v = .ref B.T.t := hv
  subst hv
  refine ⟨_, hσ, .inl ⟨rfl, zeros n.n, .inl (.inl s.town.1)⟩, ?_⟩
  unfold tickM at post
  by_cases hl : n.n < big
  · rw [if_pos hl] at post
    refine ⟨B.T.t, zeros n.n, .int 0, rfl, rfl, s.town.1, by unfold zeros; rw [List.length_replicate]; exact Nat.lt_of_lt_of_le hl big_line, ?_⟩
    have ex : Ext B.T H (upd H B.T.t (.lst (zeros n.n ++ [V.int 0]))) := fun a o na h => by rw [upd_ne (fun z => na (.inl z))]; exact h
    exact post σ O _ (s.ext ex (s.town.tick (zeros_succ _))) (step_of s.tO ex)
  · rw [if_neg hl] at post; exact post.elim
def townN (i : Nat) : Env → M D := fun env => townK (fun n => .ok (.int n.n) n) env[i]?
theorem se_townLen {i : Nat} (h : PE X e (tCB (fun xs H Q => ∃ p ys, xs = [.ref p] ∧ (SqL X.K H p ys ∨ SqT X.K H p ys) ∧ Q (.int ys.length) H) (tCons (tVar i) tNil))) : SE X B e (townN i) := by
  refine pe_weak h fun σ H Q h => ?_
  obtain ⟨env, O, n, s, post⟩ := h
  obtain ⟨hi, post⟩ := town_post (P := fun r => Post B (pE B O) H r Q) (fun z => z) post
  obtain ⟨v, hσ, hv⟩ := s.slot i _ hi
  have hv : v = .ref B.T.t := hv
  subst hv
  refine ⟨_, hσ, B.T.t, zeros n.n, rfl, .inl (.inl (.inl s.town.1)), ?_⟩
  have e : ((zeros n.n).length : Int) = n.n := by unfold zeros; rw [List.length_replicate]
  rw [e]
  exact post _ H (Ext.refl _ _) s.town (.int _)
/-- raise C('..') -/
def raiseS (c : Nat) : Env → M Fl := fun _ n => .exc c n
theorem ss_raise {c : Nat} {C : Addr} {W : WX} (hc : B.cv c = .ref C) (h : PS X st (fun _ σ H => W (.ref C) none σ H)) (hW : ∀ σ H, B.E (.ref C) none H → W (.ref C) none σ H) : SS X B st (raiseS c) := by
  refine ps_weak h fun De σ H h => ?_
  obtain ⟨env, O, n, s, post⟩ := h
  have p : B.E (B.cv c) none H := post H s.fr1 s.town
  rw [hc] at p
  exact hW σ H p
/-! ### while -/
def loopM (k : Env → M Fl) : Fl → M Fl
  | .next env => k env
  | .cont env => k env
  | .brk env => ret (.next env)
  | .ret d => ret (.ret d)
  | .rn xs => ret (.rn xs)
def whileF (gc : Env → M Bool) (gb : Env → M Fl) : Nat → Env → M Fl
  | 0 => fun _ => fault
  | k + 1 => fun env => seq (gc env) fun c => if c = true then seq (gb env) (loopM (whileF gc gb k)) else ret (.next env)
theorem ss_while {c : Expr} {body : List Stmt} {gc : Env → M Bool} (fuel : Nat) (hp : PassesOwn (model X.prog X.w) X.A X.env X.xe) (hc : ST X B c gc) (hb : SSs X B body g) : SS X B (.While c body [] pos) (whileF gc g fuel) := by
  refine ps_weak (ps_while hp hc hb) fun De σ H h => ?_
  refine ⟨fun m σ H => tS B (whileF gc g m) De σ H, ⟨fuel, h⟩, fun m σ H h => ?_⟩
  obtain ⟨env, O, n, s, post⟩ := h
  cases m with
  | zero => exact post.elim
  | succ k =>
    refine tS_seq (g := fun env c => if c = true then seq (g env) (loopM (whileF gc g k)) else ret (.next env)) s post fun x vx n1 H1 s1 e1 p1 q1 => ?_
    cases p1
    cases x with
    | true =>
      refine ⟨tS B (whileF gc g k) De, fun σ' H' q => ⟨k, Nat.lt_succ_self k, q⟩, env, O, n1, s1, ?_⟩
      have q1 : SPost B De O H1 (seq (g env) (loopM (whileF gc g k)) n1) := q1
      unfold seq at q1
      cases r : g env n1 with
      | ok f m =>
        rw [r] at q1
        cases f with
        | next env' => exact fun σ' O' H' s' st' => ⟨env', O', m, s', SPost.later q1 st'⟩
        | ret d => exact q1
        | rn xs => exact q1
        | brk env' => exact q1
        | cont env' => exact fun σ' O' H' s' st' => ⟨env', O', m, s', SPost.later q1 st'⟩
      | exc c m => rw [r] at q1; exact q1
      | bad => rw [r] at q1; exact q1
    | false => exact q1 σ O H1 s1 (Step.refl _ _)
end
end Sim

namespace Sim
open PySem L2

/-! ### what is walked -/
/-- the iterator J will give the data ds, as long as what is not owned stays -/
def ItOk (P : Hp → OS → V → D → Prop) (J : It) (O : OS) (H : Hp) (ds : List D) : Prop :=
  ∃ (G : Hp → Prop) (Y : Nat → Hp → V → Hp → Prop), Walk J ds.length G Y ∧ (∀ O' H', Step O H O' H' → G H') ∧
    ∀ i x O1 H1 H1', Step O H O1 H1 → (∀ a, O1 a → NF H1 a) → i < ds.length → Y i H1 x H1' → Same H1 H1' ∧ ∃ d, ds[i]? = some d ∧ P H1' O1 x d
def pI (P : Hp → OS → V → D → Prop) : OS → Hp → Hp → It → List D → Prop := fun O _ H' J ds => ItOk P J O H' ds
abbrev pRep (B : Bd) : Hp → OS → V → D → Prop := fun H O v d => Rep B.K H O v d
/-- a pair just made, to be taken apart -/
def pPair (B : Bd) : Hp → OS → V → D → Prop := fun H O v d => ∃ a xs ds, v = .ref a ∧ d = .tuple ds ∧ Rd H a (.tup xs) ∧ Reps B.K H O xs ds
abbrev SI (X : Cx) (B : Bd) (tg iter : Expr) (f : Env → M (List D)) : Prop := PI X tg iter (tG B (pI (pRep B)) f)
abbrev SIz (X : Cx) (B : Bd) (tg iter : Expr) (f : Env → M (List D)) : Prop := PI X tg iter (tG B (pI (pPair B)) f)
section
variable {X : Cx} {B : Bd} {tg e e2 a b c : Expr} {fa fb : Env → M D} {pos p : Pos}
theorem lat_I {P : Hp → OS → V → D → Prop} : Lat B (pI P) := fun _ _ _ _ _ _ _ _ _ p => p
theorem pi_weak {t t' : TI} (h : PI X tg e t) (k : ∀ σ H Q, t' σ H Q → t σ H Q) : PI X tg e t' := ⟨fun pins s σ H Q I q => h.run pins s σ H Q I (k σ H Q q)⟩
theorem pi_or {t t' : TI} (h : PI X tg e t) (h' : PI X tg e t') : PI X tg e (fun σ H R => t σ H R ∨ t' σ H R) := ⟨fun pins s σ H R I q => q.elim (h.run pins s σ H R I) (h'.run pins s σ H R I)⟩
theorem it_list {H : Hp} {O : OS} {a : Addr} {xs : List V} {ds : List D} (h : Rep B.K H O (.ref a) (.list ds)) (hr : LAt H O a xs) (r : Reps B.K H O xs ds) : ItOk (pRep B) (Itl B.K a) O H ds := by
  refine ⟨fun H' => SqL B.K H' a xs, YAt xs, r.length ▸ walk_list, fun O' H' st => (hr.step st).sq, fun i x O1 H1 H1' st dm hi y => ?_⟩
  obtain ⟨e, y⟩ := y
  subst e
  exact ⟨fun _ _ h => h, Reps.at (Reps.step st _ _ r) y⟩
theorem it_tup {H : Hp} {O : OS} {a : Addr} {xs : List V} {ds : List D} (hr : TAt B.K H O a xs) (r : Reps B.K H O xs ds) : ItOk (pRep B) (Itt B.K a) O H ds := by
  refine ⟨fun H' => SqT B.K H' a xs, YAt xs, r.length ▸ walk_tup, fun O' H' st => (hr.step st).sq, fun i x O1 H1 H1' st dm hi y => ?_⟩
  obtain ⟨e, y⟩ := y
  subst e
  exact ⟨fun _ _ h => h, Reps.at (Reps.step st _ _ r) y⟩
def signsOf (z : Str) : List D := z.cps.toList.map fun c => .str ⟨#[c]⟩
theorem it_str {H : Hp} {O : OS} {z : Str} : ItOk (pRep B) (Its z) O H (signsOf z) := by
  have el : (signsOf z).length = z.cps.size := by simp [signsOf]
  refine ⟨fun _ => True, _, el ▸ walk_str, fun _ _ _ => trivial, fun i x O1 H1 H1' st dm hi y => ?_⟩
  obtain ⟨e, c, hc, rfl⟩ := y
  subst e
  refine ⟨fun _ _ h => h, .str ⟨#[c]⟩, ?_, .str _⟩
  unfold signsOf
  rw [List.getElem?_map]
  rw [Array.getElem?_toList, hc]; rfl
def intsFrom (lo : Int) (n : Nat) (c : Int) : List D := (List.range n).map fun (i : Nat) => .int (lo + (i : Int) * c)
theorem it_range {H : Hp} {O : OS} {lo : Int} {n : Nat} : ItOk (pRep B) (Itr lo n) O H (intsFrom lo n 1) := by
  have el : (intsFrom lo n 1).length = n := by simp [intsFrom]
  refine ⟨fun _ => True, YFn fun i => .int (lo + i), (by rw [el]; exact walk_range), fun _ _ _ => trivial, fun i x O1 H1 H1' st dm hi y => ?_⟩
  obtain ⟨e, rfl⟩ := y
  subst e
  rw [el] at hi
  refine ⟨fun _ _ h => h, .int (lo + i), ?_, .int _⟩
  unfold intsFrom
  rw [List.getElem?_map, List.getElem?_range hi]
  simp
theorem it_rangeC {H : Hp} {O : OS} {lo c : Int} {n : Nat} : ItOk (pRep B) (Itc lo c n) O H (intsFrom lo n c) := by
  have el : (intsFrom lo n c).length = n := by simp [intsFrom]
  refine ⟨fun _ => True, YFn fun i => .int (lo + (i : Nat) * c), (by rw [el]; exact walk_rangeC), fun _ _ _ => trivial, fun i x O1 H1 H1' st dm hi y => ?_⟩
  obtain ⟨e, rfl⟩ := y
  subst e
  rw [el] at hi
  refine ⟨fun _ _ h => h, .int (lo + i * c), ?_, .int _⟩
  unfold intsFrom
  rw [List.getElem?_map, List.getElem?_range hi]
  simp
theorem it_pair {H : Hp} {O : OS} {J : It} {n : Nat} {G : Hp → Prop} {us ws : Nat → Option V} {ds : List D} (hn : ds.length = n) (w : Walk J n G (YPair us ws)) (hG : ∀ O' H', Step O H O' H' → G H')
    (hd : ∀ i x y O1 H1, Step O H O1 H1 → i < n → us i = some x → ws i = some y → ∃ d e, ds[i]? = some (.tuple [d, e]) ∧ Rep B.K H1 O1 x d ∧ Rep B.K H1 O1 y e) : ItOk (pPair B) J O H ds := by
  refine ⟨G, _, hn ▸ w, hG, fun i x O1 H1 H1' st dm hi y => ?_⟩
  obtain ⟨T, u, v, rfl, hT, rfl, hu, hv⟩ := y
  obtain ⟨d, e, h1, h2, h3⟩ := hd i u v O1 H1 st (hn ▸ hi) hu hv
  refine ⟨same_new hT, _, h1, _, _, _, rfl, rfl, .inl upd_same, Reps.step (same_step (same_new hT)) _ _ (.cons h2 (.cons h3 .nil))⟩
/-- a list, a tuple, a text -/
def itemsM : D → M (List D)
  | .list xs => ret xs
  | .tuple xs => ret xs
  | .str z => if z.length ≤ big then ret (signsOf z) else fault
  | _ => fault
def itemsE (fa : Env → M D) : Env → M (List D) := fun env => seq (fa env) itemsM
theorem si_seq (hK : B.K = X.K) (h : SE X B e fa) : SI X B tg e (itemsE fa) := by
  refine pi_weak (pi_or (pi_list h) (pi_or (pi_tup h) (pi_str h))) fun σ H Q q => ?_
  obtain ⟨env, O, n, s, post⟩ := q
  have post0 : Post B (pI (pRep B) O) H (seq (fa env) itemsM n) Q := post
  have post1 := post0
  unfold seq at post1
  cases r : fa env n with
  | ok d m =>
    rw [r] at post1
    cases d with
    | list ds =>
      left
      refine ⟨env, O, n, s, ?_⟩
      rw [r]
      intro v H' ex tw rep
      have rep0 := rep
      cases rep with
      | lst h1 h2 =>
        rw [← hK]
        exact ⟨_, rfl, ⟨_, h1.sq⟩, post1 _ H' ex tw (it_list rep0 h1 h2)⟩
    | tuple ds =>
      right; left
      refine ⟨env, O, n, s, ?_⟩
      rw [r]
      intro v H' ex tw rep
      cases rep with
      | tup h1 h2 =>
        rw [← hK]
        exact ⟨_, rfl, ⟨_, h1.sq⟩, post1 _ H' ex tw (it_tup h1 h2)⟩
    | str z =>
      right; right
      refine ⟨env, O, n, s, ?_⟩
      rw [r]
      intro v H' ex tw rep
      cases rep
      refine ⟨z, rfl, ?_⟩
      have post1 : Post B (pI (pRep B) O) H ((if z.length ≤ big then ret (signsOf z) else fault) m) Q := post1
      split at post1
      · exact post1 _ H' ex tw it_str
      · exact post1.elim
    | _ => exact post1.elim
  | exc c m =>
    rw [r] at post1
    left
    refine ⟨env, O, n, s, ?_⟩
    rw [r]; exact post1
  | bad => rw [r] at post1; exact post1.elim
def rng1M : List D → M (List D)
  | [.int j] => if j.natAbs ≤ big then ret (intsFrom 0 j.toNat 1) else fault
  | _ => fault
def rng2M : List D → M (List D)
  | [.int i, .int j] => if i.natAbs ≤ big ∧ j.natAbs ≤ big then ret (intsFrom i (j - i).toNat 1) else fault
  | _ => fault
def rng3M : List D → M (List D)
  | [.int i, .int j, .int c] => if c ≠ 0 ∧ c.natAbs < 1073741824 ∧ Builtin.Range.small i j c = true ∧ 0 ≤ Builtin.Range.rangeSize i j c then ret (intsFrom i (Builtin.Range.rangeSize i j c).toNat c) else fault
  | _ => fault
def rngE (k : List D → M (List D)) (fs : Env → M (List D)) : Env → M (List D) := fun env => seq (fs env) k
theorem Reps.one {K : PySem.W.Frag} {H : Hp} {O : OS} {vs : List V} {d : D} (h : Reps K H O vs [d]) : ∃ v, vs = [v] ∧ Rep K H O v d := by
  cases h with
  | cons h1 h2 => cases h2; exact ⟨_, rfl, h1⟩
theorem Rep.int_eq {K : PySem.W.Frag} {H : Hp} {O : OS} {v : V} {i : Int} (h : Rep K H O v (.int i)) : v = .int i := by cases h; rfl
theorem si_range1 {fs : Env → M (List D)} (hg : Gl X "range") (hm : X.mg "range" = none) (ha : SRs X B [a] fs) (hs : starEach [a] X.env = [(false, eval a X.env)] := by rfl) : SI X B tg (.Call (.Name "range" p) [a] [] pos) (rngE rng1M fs) := by
  refine pi_weak (pi_range1 hg hm ha hs) fun σ H Q h => ?_
  obtain ⟨env, O, n, s, post⟩ := h
  refine tG_seq1 (g := fun env => rng1M) lat_I s post fun x vx n1 H1 s1 e1 p1 q1 => ?_
  unfold rng1M at q1
  split at q1
  · rename_i j
    split at q1
    · rename_i hj
      have hb : big = 1000000 := rfl
      obtain ⟨v, rfl, r⟩ := Reps.one p1
      cases r
      exact ⟨j, rfl, by omega, by omega, q1 _ H1 (Ext.refl _ _) s1.town it_range⟩
    · exact q1.elim
  · exact q1.elim
theorem si_range2 {fs : Env → M (List D)} (hg : Gl X "range") (hm : X.mg "range" = none) (ha : SRs X B [a, b] fs) (hs : starEach [a, b] X.env = [(false, eval a X.env), (false, eval b X.env)] := by rfl) (hs2 : starEach [b] X.env = [(false, eval b X.env)] := by rfl) : SI X B tg (.Call (.Name "range" p) [a, b] [] pos) (rngE rng2M fs) := by
  refine pi_weak (pi_range2 hg hm ha hs hs2) fun σ H Q h => ?_
  obtain ⟨env, O, n, s, post⟩ := h
  refine tG_seq1 (g := fun env => rng2M) lat_I s post fun x vx n1 H1 s1 e1 p1 q1 => ?_
  unfold rng2M at q1
  split at q1
  · rename_i i j
    split at q1
    · rename_i hj
      have hb : big = 1000000 := rfl
      cases p1 with
      | cons r1 p1 =>
        obtain ⟨v, rfl, r⟩ := Reps.one p1
        cases r1
        cases r
        exact ⟨i, j, rfl, ⟨by omega, by omega, by omega, by omega⟩, q1 _ H1 (Ext.refl _ _) s1.town it_range⟩
    · exact q1.elim
  · exact q1.elim
theorem si_range3 {fs : Env → M (List D)} (hg : Gl X "range") (hm : X.mg "range" = none) (ha : SRs X B [a, b, c] fs) (hs : starEach [a, b, c] X.env = (false, eval a X.env) :: starEach [b, c] X.env := by rfl) (hpl : (backTo pos (starEach [b, c] X.env)).any (·.1) = false := by rfl) :
    SI X B tg (.Call (.Name "range" p) [a, b, c] [] pos) (rngE rng3M fs) := by
  refine pi_weak (pi_range3 hg hm ha hs hpl) fun σ H Q h => ?_
  obtain ⟨env, O, n, s, post⟩ := h
  refine tG_seq1 (g := fun env => rng3M) lat_I s post fun x vx n1 H1 s1 e1 p1 q1 => ?_
  unfold rng3M at q1
  split at q1
  · rename_i i j c
    split at q1
    · rename_i hj
      cases p1 with
      | cons r1 p1 =>
        cases p1 with
        | cons r2 p1 =>
          obtain ⟨v, rfl, r⟩ := Reps.one p1
          cases r1
          cases r2
          cases r
          refine ⟨i, j, c, (Builtin.Range.rangeSize i j c).toNat, rfl, ⟨hj.1, hj.2.1, hj.2.2.1, ?_⟩, q1 _ H1 (Ext.refl _ _) s1.town it_rangeC⟩
          rw [Int.toNat_of_nonneg hj.2.2.2]
    · exact q1.elim
  · exact q1.elim
/-- enumerate(list), zip(list, list) -/
def enumD (xs : List D) : List D := (List.range xs.length).map fun (i : Nat) => .tuple [.int (i : Int), xs.getD i .none]
def enumM : List D → M (List D)
  | [.list xs] => ret (enumD xs)
  | _ => fault
def zipD (xs ys : List D) : List D := (List.range (min xs.length ys.length)).map fun (i : Nat) => .tuple [xs.getD i .none, ys.getD i .none]
def zipM : List D → M (List D)
  | [.list xs, .list ys] => ret (zipD xs ys)
  | _ => fault
theorem si_enum {fs : Env → M (List D)} {elts : List Expr} {kk : Nat} {tpos : Pos} (hK : B.K = X.K) (hg : Gl X "enumerate") (hm : X.mg "enumerate" = none) (ha : SRs X B [e] fs) (hs : starEach [e] X.env = [(false, eval e X.env)] := by rfl) :
    SIz X B (.Tuple elts kk tpos) (.Call (.Name "enumerate" p) [e] [] pos) (rngE enumM fs) := by
  refine pi_weak (pi_enum hg hm ha hs) fun σ H Q h => ?_
  obtain ⟨env, O, n, s, post⟩ := h
  refine tG_seq1 (g := fun env => enumM) lat_I s post fun x vx n1 H1 s1 e1 p1 q1 => ?_
  unfold enumM at q1
  split at q1
  · rename_i ds
    obtain ⟨v, rfl, r⟩ := Reps.one p1
    cases r with
    | @lst a xs _ h1 h2 =>
      refine ⟨a, xs, rfl, h1.sq, q1 _ H1 (Ext.refl _ _) s1.town ?_⟩
      rw [← hK]
      have el : (enumD ds).length = xs.length := by rw [h2.length]; simp [enumD]
      refine it_pair el walk_enum (fun O' H' st => (h1.step st).sq) fun i x y O1 H2 st hi hx hy => ?_
      cases hx
      obtain ⟨d, hd, rd⟩ := Reps.at (Reps.step st _ _ h2) hy
      refine ⟨.int i, d, ?_, .int _, rd⟩
      unfold enumD
      rw [List.getElem?_map, List.getElem?_range (by rw [← h2.length]; exact hi)]
      simp [hd]
  · exact q1.elim
theorem si_zip {fs : Env → M (List D)} {elts : List Expr} {kk : Nat} {tpos : Pos} (hK : B.K = X.K) (hg : Gl X "zip") (hm : X.mg "zip" = none) (ha : SRs X B [e, e2] fs) (hs : starEach [e, e2] X.env = (false, eval e X.env) :: starEach [e2] X.env := by rfl) (hpl : (backTo pos (starEach [e2] X.env)).any (·.1) = false := by rfl) :
    SIz X B (.Tuple elts kk tpos) (.Call (.Name "zip" p) [e, e2] [] pos) (rngE zipM fs) := by
  refine pi_weak (pi_zip hg hm ha hs hpl) fun σ H Q h => ?_
  obtain ⟨env, O, n, s, post⟩ := h
  refine tG_seq1 (g := fun env => zipM) lat_I s post fun x vx n1 H1 s1 e1 p1 q1 => ?_
  unfold zipM at q1
  split at q1
  · rename_i ds es
    cases p1 with
    | cons r p1 =>
      obtain ⟨v, rfl, r'⟩ := Reps.one p1
      cases r with
      | @lst a xs _ h1 h2 =>
        cases r' with
        | @lst b ys _ g1 g2 =>
          refine ⟨a, b, xs, ys, rfl, h1.sq, g1.sq, q1 _ H1 (Ext.refl _ _) s1.town ?_⟩
          rw [← hK]
          have el : (zipD ds es).length = min xs.length ys.length := by rw [h2.length, g2.length]; simp [zipD]
          refine it_pair el (walk_zip rfl) (fun O' H' st => ⟨(h1.step st).sq, (g1.step st).sq⟩) fun i x y O1 H2 st hi hx hy => ?_
          obtain ⟨d, hd, rd⟩ := Reps.at (Reps.step st _ _ h2) hx
          obtain ⟨d', hd', rd'⟩ := Reps.at (Reps.step st _ _ g2) hy
          refine ⟨d, d', ?_, rd, rd'⟩
          unfold zipD
          rw [List.getElem?_map, List.getElem?_range (by rw [← h2.length, ← g2.length]; exact hi)]
          simp [hd, hd']
  · exact q1.elim
/-! ### targets -/
/-- slots is are stored by the datum d -/
def tTg (B : Bd) (P : Hp → OS → V → D → Prop) (is : List Nat) (bnd : D → Env → Option Env) : TG := fun v σ H Q => ∃ env O n d env', Sim B env O n σ H ∧ P H O v d ∧ bnd d env = some env' ∧ ∀ σ', Sim B env' O n σ' H → σ'.length = σ.length → (∀ j : Nat, j ∉ is → σ'[j]? = σ[j]?) → Q σ' H
abbrev SG (X : Cx) (B : Bd) (tg : Expr) (is : List Nat) (bnd : D → Env → Option Env) : Prop := PG X tg (tTg B (pRep B) is bnd)
abbrev SGb (X : Cx) (B : Bd) (tg : Expr) (is : List Nat) (bnd : D → Env → Option Env) : Prop := PG X tg (tTg B (Brw B) is bnd)
theorem pg_weak {t t' : TG} (h : PG X tg t) (k : ∀ v σ H Q, t' v σ H Q → t v σ H Q) : PG X tg t' := ⟨fun pins s σ H v u Q I r q => h.run pins s σ H v u Q I r (k v σ H Q q)⟩
theorem pg_or {t t' : TG} (h : PG X tg t) (h' : PG X tg t') : PG X tg (fun v σ H Q => t v σ H Q ∨ t' v σ H Q) := ⟨fun pins s σ H v u Q I r q => q.elim (h.run pins s σ H v u Q I r) (h'.run pins s σ H v u Q I r)⟩
theorem sg_of {is : List Nat} {bnd : D → Env → Option Env} (h : SGb X B tg is bnd) : SG X B tg is bnd := pg_weak h fun v σ H Q q => by
  obtain ⟨env, O, n, d, env', s, p, e, k⟩ := q
  exact ⟨env, O, n, d, env', s, .inl p, e, k⟩
def bndN (i : Nat) : D → Env → Option Env := fun d env => some (env.set i (some (.d d)))
theorem sg_name {i : Nat} (h : PG X tg (gName i)) : SG X B tg [i] (bndN i) := pg_weak h fun v σ H Q q => by
  obtain ⟨env, O, n, d, env', s, p, e, k⟩ := q
  cases e
  refine k _ (s.setD i p) (List.length_set ..) fun j hj => ?_
  rw [List.getElem?_set_ne (fun z => hj (by simp [z]))]
def gNames : List Nat → TGs
  | [] => gNil
  | i :: r => gCons (gName i) (gNames r)
def setAll : List Nat → List D → Env → Env
  | i :: is, d :: ds, env => setAll is ds (env.set i (some (.d d)))
  | _, _, env => env
def setAllV : List Nat → List V → L2.St → L2.St
  | i :: is, d :: ds, env => setAllV is ds (env.set i (some d))
  | _, _, env => env
theorem gNames_run : ∀ (is : List Nat) (vs : List V) (σ : L2.St) (H : Hp) (Q : L2.St → Hp → Prop), vs.length = is.length → Q (setAllV is vs σ) H → gNames is vs σ H Q
  | [], [], σ, H, Q, _, q => ⟨rfl, q⟩
  | i :: is, v :: vs, σ, H, Q, hl, q => ⟨v, vs, rfl, gNames_run is vs _ H Q (by simpa using hl) q⟩
theorem setAll_sim {O : OS} {n : Sta} {H : Hp} : ∀ (is : List Nat) (vs : List V) (ds : List D) (env : Env) (σ : L2.St), Sim B env O n σ H → Reps B.K H O vs ds → Sim B (setAll is ds env) O n (setAllV is vs σ) H
  | [], vs, ds, env, σ, s, r => by cases ds <;> cases vs <;> exact s
  | i :: is, vs, ds, env, σ, s, r => by
    cases r with
    | nil => exact s
    | cons r1 r2 => exact setAll_sim is _ _ _ _ (s.setD i r1) r2
theorem setAllV_len : ∀ (is : List Nat) (vs : List V) (σ : L2.St), (setAllV is vs σ).length = σ.length
  | [], vs, σ => by cases vs <;> rfl
  | i :: is, [], σ => rfl
  | i :: is, v :: vs, σ => by show (setAllV is vs (σ.set i (some v))).length = _; rw [setAllV_len is vs, List.length_set]
theorem setAllV_out : ∀ (is : List Nat) (vs : List V) (σ : L2.St) (j : Nat), j ∉ is → (setAllV is vs σ)[j]? = σ[j]?
  | [], vs, σ, j, _ => by cases vs <;> rfl
  | i :: is, [], σ, j, _ => rfl
  | i :: is, v :: vs, σ, j, h => by
    show (setAllV is vs (σ.set i (some v)))[j]? = _
    rw [setAllV_out is vs _ j (fun z => h (List.mem_cons_of_mem _ z)), List.getElem?_set_ne (fun z => h (by simp [z]))]
def bndT (is : List Nat) : D → Env → Option Env := fun d env => match d with
  | .tuple ds => if ds.length = is.length then some (setAll is ds env) else none
  | .list ds => if ds.length = is.length then some (setAll is ds env) else none
  | _ => none
theorem sgb_tup {is : List Nat} {es : List Expr} {k : Nat} (hK : B.K = X.K) (h1 : PG X (.Tuple es k pos) (gTup X.K is.length (gNames is))) (h2 : PG X (.Tuple es k pos) (gLst X.K is.length (gNames is))) : SGb X B (.Tuple es k pos) is (bndT is) := by
  refine pg_weak (pg_or h1 h2) fun v σ H Q q => ?_
  obtain ⟨env, O, n, d, env', s, p, e, k⟩ := q
  unfold bndT at e
  split at e
  · rename_i ds
    split at e
    · rename_i hl
      cases e
      left
      obtain ⟨a, xs, rfl, ra, rxs⟩ := p.tup
      rw [hK] at ra
      refine ⟨a, xs, rfl, ra.sq, by rw [rxs.length]; exact hl, gNames_run _ _ _ _ _ (by rw [rxs.length]; exact hl) ?_⟩
      exact k _ (setAll_sim _ _ _ _ _ s rxs) (setAllV_len ..) fun j hj => setAllV_out _ _ _ _ hj
    · cases e
  · rename_i ds
    split at e
    · rename_i hl
      cases e
      right
      obtain ⟨a, xs, rfl, ra, rxs⟩ := p.list
      refine ⟨a, xs, rfl, .inl ra, by rw [rxs.length]; exact hl, gNames_run _ _ _ _ _ (by rw [rxs.length]; exact hl) ?_⟩
      exact k _ (setAll_sim _ _ _ _ _ s rxs) (setAllV_len ..) fun j hj => setAllV_out _ _ _ _ hj
    · cases e
  · cases e
theorem sgz_tup {is : List Nat} {es : List Expr} {k : Nat} (hK : B.K = X.K) (h1 : PG X (.Tuple es k pos) (gTup X.K is.length (gNames is))) : PG X (.Tuple es k pos) (tTg B (pPair B) is (bndT is)) := by
  refine pg_weak h1 fun v σ H Q q => ?_
  obtain ⟨env, O, n, d, env', s, ⟨a, xs, ds, rfl, rfl, ra, rxs⟩, e, k⟩ := q
  unfold bndT at e
  simp only at e
  split at e
  · rename_i hl
    cases e
    refine ⟨a, xs, rfl, .inl ra, by rw [rxs.length]; exact hl, gNames_run _ _ _ _ _ (by rw [rxs.length]; exact hl) ?_⟩
    exact k _ (setAll_sim _ _ _ _ _ s rxs) (setAllV_len ..) fun j hj => setAllV_out _ _ _ _ hj
  · cases e
/-- a, b = e -/
def setT (bnd : D → Env → Option Env) (fa : Env → M D) : Env → M Fl := fun env => seq (fa env) fun d => seq (lift (bnd d env)) fun env' => ret (.next env')
theorem ss_asgT {st : Stmt} {is : List Nat} {bnd : D → Env → Option Env} (h : PS X st (tAsg (tG B (pB B) fa) (tTg B (Brw B) is bnd))) : SS X B st (setT bnd fa) := by
  refine ps_weak h fun De σ H h => ?_
  obtain ⟨env, O, n, s, post⟩ := h
  refine tS_seq (g := fun env d => seq (lift (bnd d env)) fun env' => ret (.next env')) s post fun x vx n1 H1 s1 e1 p1 q1 => ?_
  cases e : bnd x env with
  | none => rw [e] at q1; exact q1.elim
  | some env' =>
    rw [e] at q1
    exact ⟨env, O, n1, x, env', s1, p1, e, fun σ' s' _ _ => q1 σ' O H1 s' (Step.refl _ _)⟩
/-- a, b = x, y by plain names -/
def parS (is : List Nat) (fs : Env → M (List D)) : Env → M Fl := fun env => seq (fs env) fun ds => ret (.next (setAll is ds env))
theorem ss_par {st : Stmt} {i j : Nat} {fs : Env → M (List D)} (hl : ∀ env n ds n', fs env n = .ok ds n' → ds.length = 2) (h : PS X st (tPar i j (tG B (pRs B) fs))) : SS X B st (parS [i, j] fs) := by
  refine ps_weak h fun De σ H h => ?_
  obtain ⟨env, O, n, s, post⟩ := h
  refine ⟨env, O, n, s, ?_⟩
  have post : SPost B De O H (seq (fs env) (fun ds => ret (.next (setAll [i, j] ds env))) n) := post
  unfold seq at post
  cases r : fs env n with
  | ok ds m =>
    rw [r] at post
    intro vs H' ex tw p
    have hd := hl env n ds m r
    match ds, vs, p, hd with
    | [d1, d2], [v1, v2], p, _ =>
      refine ⟨v1, v2, rfl, ?_⟩
      exact post _ O H' (setAll_sim [i, j] [v1, v2] [d1, d2] env σ (s.ext ex tw) p) (step_of s.tO ex)
    | [d1, d2], [], p, _ => cases p
    | [d1, d2], [_], p, _ => cases p with | cons _ q => cases q
    | [d1, d2], _ :: _ :: _ :: _, p, _ => cases p with | cons _ q => cases q with | cons _ q => cases q
  | exc c m => rw [r] at post; exact post
  | bad => rw [r] at post; exact post
theorem ss_par3 {st : Stmt} {i j l : Nat} {fs : Env → M (List D)} (hl : ∀ env n ds n', fs env n = .ok ds n' → ds.length = 3) (h : PS X st (tPar3 i j l (tG B (pRs B) fs))) : SS X B st (parS [i, j, l] fs) := by
  refine ps_weak h fun De σ H h => ?_
  obtain ⟨env, O, n, s, post⟩ := h
  refine ⟨env, O, n, s, ?_⟩
  have post : SPost B De O H (seq (fs env) (fun ds => ret (.next (setAll [i, j, l] ds env))) n) := post
  unfold seq at post
  cases r : fs env n with
  | ok ds m =>
    rw [r] at post
    intro vs H' ex tw p
    have hd := hl env n ds m r
    have hv := p.length
    rw [hd] at hv
    match ds, vs, p, hd, hv with
    | [d1, d2, d3], [v1, v2, v3], p, _, _ =>
      refine ⟨v1, v2, v3, rfl, ?_⟩
      exact post _ O H' (setAll_sim [i, j, l] [v1, v2, v3] [d1, d2, d3] env σ (s.ext ex tw) p) (step_of s.tO ex)
  | exc c m => rw [r] at post; exact post
  | bad => rw [r] at post; exact post
theorem consE_len {fr : Env → M (List D)} {k : Nat} (h : ∀ env n ds n', fr env n = .ok ds n' → ds.length = k) : ∀ env n ds n', consE fa fr env n = .ok ds n' → ds.length = k + 1 := fun env n ds n' e => by
  unfold consE seq at e
  cases r : fa env n with
  | ok d m =>
    rw [r] at e
    simp only at e
    cases r' : fr env m with
    | ok es m' => rw [r'] at e; cases e; simp [h _ _ _ _ r']
    | exc c m' => rw [r'] at e; cases e
    | bad => rw [r'] at e; cases e
  | exc c m => rw [r] at e; cases e
  | bad => rw [r] at e; cases e
theorem nilE_len : ∀ env n (ds : List D) n', nilE env n = .ok ds n' → ds.length = 0 := fun env n ds n' e => by cases e; rfl
/-! ### for -/
def forF (bnd : D → Env → Option Env) (gb : Env → M Fl) : List D → Env → M Fl
  | [] => fun env => ret (.next env)
  | d :: ds => fun env => seq (lift (bnd d env)) fun env1 => seq (gb env1) (loopM (forF bnd gb ds))
def forS (fi : Env → M (List D)) (bnd : D → Env → Option Env) (gb : Env → M Fl) : Env → M Fl := fun env => seq (fi env) fun ds => forF bnd gb ds env
theorem ss_for {P : Hp → OS → V → D → Prop} {iter : Expr} {body : List Stmt} {is : List Nat} {fi : Env → M (List D)} {bnd : D → Env → Option Env} {gb : Env → M Fl} (hp : PassesOwn (model X.prog X.w) X.A X.env X.xe) (hc : X.calm = true) (hi : PI X tg iter (tG B (pI P) fi)) (hg : PG X tg (tTg B P is bnd)) (hb : SSs X B body gb)
    (hs : ∀ x, foldedSetIterable iter X.env x = pure x := by intro _; rfl) : SS X B (.For tg iter body [] pos) (forS fi bnd gb) := by
  refine ps_weak (ps_for hp hc hi hg hb hs) fun De σ H h => ?_
  obtain ⟨env, O, n, s, post⟩ := h
  refine tS_seq (g := fun env ds => forF bnd gb ds env) s post fun ds J n1 H1 s1 e1 p1 q1 => ?_
  obtain ⟨G, Y, W, hG, hY⟩ := p1
  refine for_it W (fun i σ' H' => ∃ env' O' n', Sim B env' O' n' σ' H' ∧ Step O H1 O' H' ∧ SPost B De O' H' (forF bnd gb (ds.drop i) env' n')) ⟨env, O, n1, s1, Step.refl _ _, q1⟩ (fun i σ' H' _ h => ?_) (fun i x σ' H' H'' hi h y => ?_) (fun σ' H' h => ?_)
  · obtain ⟨env', O', n', s', st, _⟩ := h
    exact hG O' H' st
  · obtain ⟨env', O', n', s', st, post'⟩ := h
    obtain ⟨sm, d, hd, rd⟩ := hY i x O' H' H'' st s'.dom hi y
    have s2 := s'.ext (same_ext sm) (same_town sm s'.town)
    rw [List.drop_eq_getElem_cons hi] at post'
    have ed : ds[i] = d := by rw [List.getElem?_eq_getElem hi] at hd; exact Option.some.inj hd
    rw [ed] at post'
    have post' : SPost B De O' H' (seq (lift (bnd d env')) (fun env1 => seq (gb env1) (loopM (forF bnd gb (ds.drop (i + 1))))) n') := post'
    cases eb : bnd d env' with
    | none => rw [eb] at post'; exact post'.elim
    | some env1 =>
      rw [eb] at post'
      refine ⟨env', O', n', d, env1, s2, rd, eb, fun σ2 s3 _ _ => ?_⟩
      have post' : SPost B De O' H' (seq (gb env1) (loopM (forF bnd gb (ds.drop (i + 1)))) n') := post'
      refine ⟨env1, O', n', s3, ?_⟩
      unfold seq at post'
      have st2 : Step O' H' O' H'' := same_step sm
      cases r : gb env1 n' with
      | ok f m =>
        rw [r] at post'
        cases f with
        | next env2 => exact fun σ3 O3 H3 s4 st3 => ⟨env2, O3, m, s4, (st.trans st2).trans st3, SPost.later post' (st2.trans st3)⟩
        | ret d => exact post'
        | rn xs => exact post'
        | brk env2 => exact SPost.later (De := De) (r := .ok (.next env2) m) post' st2
        | cont env2 => exact fun σ3 O3 H3 s4 st3 => ⟨env2, O3, m, s4, (st.trans st2).trans st3, SPost.later post' (st2.trans st3)⟩
      | exc c m => rw [r] at post'; exact post'
      | bad => rw [r] at post'; exact post'
  · obtain ⟨env', O', n', s', st, post'⟩ := h
    rw [List.drop_length] at post'
    exact post' σ' O' H' s' (Step.refl _ _)
end
end Sim

namespace Sim
open PySem L2

/-! ### comprehensions -/
def wipeE : Env → List Nat → Env
  | env, [] => env
  | env, v :: vs => (wipeE env vs).set v none
def noxB (B : Bd) : Bd := { B with E := fun _ _ _ => False }
section
variable {B : Bd} {env : Env} {O : OS} {n : Sta} {σ : L2.St} {H : Hp}
theorem SlotOk.nox {v : V} {sv : SV} (h : SlotOk B H O v sv) : SlotOk (noxB B) H O v sv := by cases sv <;> exact h
theorem SlotOk.unnox {v : V} {sv : SV} (h : SlotOk (noxB B) H O v sv) : SlotOk B H O v sv := by cases sv <;> exact h
theorem Sim.nox (s : Sim B env O n σ H) : Sim (noxB B) env O n σ H :=
  ⟨s.len, fun i sv h => let ⟨v, h1, h2⟩ := s.slot i sv h; ⟨v, h1, h2.nox⟩, s.sep, s.dom, s.town, s.tO, s.fr1, s.fr2, s.fr3, s.tK, s.tC⟩
theorem Sim.unnox (s : Sim (noxB B) env O n σ H) : Sim B env O n σ H :=
  ⟨s.len, fun i sv h => let ⟨v, h1, h2⟩ := s.slot i sv h; ⟨v, h1, h2.unnox⟩, s.sep, s.dom, s.town, s.tO, s.fr1, s.fr2, s.fr3, s.tK, s.tC⟩
theorem get_set_none {α : Type} {l : List (Option α)} {i j : Nat} {x : α} (h : (l.set i none)[j]? = some (some x)) : i ≠ j ∧ l[j]? = some (some x) := by
  by_cases hj : i = j
  · subst hj
    by_cases hl : i < l.length
    · rw [List.getElem?_set_self hl] at h; cases h
    · rw [List.getElem?_eq_none (by rw [List.length_set]; omega)] at h; cases h
  · rw [List.getElem?_set_ne hj] at h; exact ⟨hj, h⟩
theorem Sim.setNone (s : Sim B env O n σ H) (i : Nat) : Sim B (env.set i none) O n (σ.set i none) H := by
  refine ⟨by rw [List.length_set, List.length_set]; exact s.len, fun j sv h => ?_, fun j k tv uv x hjk h1 w1 h2 w2 h3 => ?_, s.dom, s.town, s.tO, s.fr1, s.fr2, s.fr3, s.tK, s.tC⟩
  · obtain ⟨hj, h⟩ := get_set_none h
    rw [List.getElem?_set_ne hj]
    exact s.slot j sv h
  · obtain ⟨hj, h1⟩ := get_set_none h1
    obtain ⟨hk, h2⟩ := get_set_none h2
    rw [List.getElem?_set_ne hj] at h3
    rw [List.getElem?_set_ne hk]
    exact s.sep j k tv uv x hjk h1 w1 h2 w2 h3
theorem Sim.wipe (s : Sim B env O n σ H) : ∀ vs : List Nat, Sim B (wipeE env vs) O n (L2.wipe σ vs) H
  | [] => s
  | v :: vs => (Sim.wipe s vs).setNone v
/-- a new thing at p that no slot names, taken as owned -/
theorem Sim.addFree (s : Sim B env O n σ H) {p : Addr} {o : HO} (hp : H p = none) (no : nf o = true := by rfl) : Sim B env (addO O p) n σ (upd H p o) := by
  have ex : Ext B.T H (upd H p o) := same_ext (same_new hp)
  have st : Step O H (addO O p) (upd H p o) := step_add hp
  refine ⟨s.len, fun i sv h => ?_, s.sep, fun a h => ?_, same_town (same_new hp) s.town, fun a h => .inl (s.tO a h), s.fr1.trans ex, fun a h => ?_, fun a h => .inl (s.fr3 a h), s.tK, s.tC⟩
  · obtain ⟨v, h1, h2⟩ := s.slot i sv h
    exact ⟨v, h1, h2.to st fun _ a _ o1 ne => ⟨.inl o1, fun o q => ex a o ne q⟩⟩
  · by_cases z : a = p
    · subst z; exact ⟨o, upd_same, no⟩
    · rcases h with h | h
      · obtain ⟨u, e1, n1⟩ := s.dom a h
        exact ⟨u, by rw [upd_ne z]; exact e1, n1⟩
      · exact absurd h z
  · rcases h with h | h
    · exact s.fr2 a h
    · rw [h]; exact .inr (none_back s.fr1 s.town hp)
/-- what no slot names, owned, is changed -/
theorem Sim.updFree (s : Sim B env O n σ H) {p : Addr} {o : HO} (hO : O p) (hT : ¬ B.T.has p) (h0 : B.H0 p = none) (hs : ∀ (i : Nat) (sv : SV), env[i]? = some (some sv) → sv.ow = true → σ[i]? ≠ some (some (.ref p))) (no : nf o = true := by rfl) : Sim B env O n σ (upd H p o) ∧ Step O H O (upd H p o) := by
  have st : Step O H O (upd H p o) := fun b u h nb => ⟨by rw [upd_ne (fun z => nb (by rw [z]; exact hO))]; exact h, nb⟩
  refine ⟨⟨s.len, fun i sv h => ?_, s.sep, fun a h => ?_, s.town.cool hT (s.dom p hO), s.tO, fun a u na h => ?_, s.fr2, s.fr3, s.tK, s.tC⟩, st⟩
  · obtain ⟨v, h1, h2⟩ := s.slot i sv h
    refine ⟨v, h1, h2.to st fun w a e1 o1 ne => ⟨o1, fun u q => ?_⟩⟩
    rw [upd_ne (fun z => by subst e1 z; exact hs i sv h w h1)]; exact q
  · by_cases z : a = p
    · subst z; exact ⟨o, upd_same, no⟩
    · obtain ⟨u, e1, n1⟩ := s.dom a h
      exact ⟨u, by rw [upd_ne z]; exact e1, n1⟩
  · have nap : a ≠ p := fun z => by rw [z, h0] at h; cases h
    rw [upd_ne nap]
    exact s.fr1 a u na h
/-- no owned slot names what is not there -/
theorem Sim.free (s : Sim B env O n σ H) {p : Addr} (hp : H p = none) : ∀ (i : Nat) (sv : SV), env[i]? = some (some sv) → sv.ow = true → σ[i]? ≠ some (some (.ref p)) := fun i sv h w q => by
  obtain ⟨v, h1, h2⟩ := s.slot i sv h
  obtain ⟨a, e1, _, _, _, na⟩ := h2.ow w
  rw [q] at h1; cases h1; cases e1
  exact na hp
end
theorem wipe_same {vs is : List Nat} {σ σ2 : L2.St} (hsub : ∀ i ∈ is, i ∈ vs) (hl : σ2.length = (L2.wipe σ vs).length) (ho : ∀ j : Nat, j ∉ is → σ2[j]? = (L2.wipe σ vs)[j]?) : L2.wipe σ2 vs = L2.wipe σ vs := by
  have hlen : σ2.length = σ.length := by rw [hl, wipe_length]
  have hin : ∀ (τ : L2.St) (ws : List Nat) (j : Nat), j ∈ ws → j < τ.length → (L2.wipe τ ws)[j]? = some none := by
    intro τ ws j
    induction ws with
    | nil => intro h; cases h
    | cons w ws ih =>
      intro h hj
      show ((L2.wipe τ ws).set w none)[j]? = _
      by_cases e : w = j
      · subst e; rw [List.getElem?_set_self (by rw [wipe_length]; exact hj)]
      · rw [List.getElem?_set_ne e]
        exact ih ((List.mem_cons.mp h).resolve_left (fun z => e z.symm)) hj
  apply List.ext_getElem?
  intro j
  by_cases hv : j ∈ vs
  · by_cases hj : j < σ.length
    · rw [hin σ2 vs j hv (by omega), hin σ vs j hv hj]
    · rw [List.getElem?_eq_none (by rw [wipe_length]; omega), List.getElem?_eq_none (by rw [wipe_length]; omega)]
  · rw [wipe_out hv, ho j (fun z => hv (hsub j z))]
def noexc {α : Type} (m : M α) : M α := fun n => match m n with
  | .exc _ _ => .bad
  | r => r
def lcF (bnd : D → Env → Option Env) (gt : Env → M Bool) (fe : Env → M D) (env : Env) : List D → M (List D)
  | [] => ret []
  | d :: ds => seq (lift (bnd d env)) fun env1 => seq (noexc (gt env1)) fun k => if k = true then seq (noexc (fe env1)) fun y => seq (lcF bnd gt fe env ds) fun r => ret (y :: r) else lcF bnd gt fe env ds
def lcE (fi : Env → M (List D)) (vs : List Nat) (bnd : D → Env → Option Env) (gt : Env → M Bool) (fe : Env → M D) : Env → M (List D) := fun env => seq (fi env) fun ds => if ds.length ≤ big then lcF bnd gt fe (wipeE env vs) ds else fault
theorem seq_ret {α : Type} (x : M α) : seq x (fun r => ret r) = x := by
  funext n
  unfold seq
  cases x n <;> rfl
theorem seq_app (x : M (List D)) (acc : List D) (y : D) : seq (seq x fun r => ret (y :: r)) (fun r => ret (acc ++ r)) = seq x (fun r => ret ((acc ++ [y]) ++ r)) := by
  funext n
  unfold seq
  cases x n with
  | ok a m => show R.ok _ _ = R.ok _ _; rw [List.append_assoc]; rfl
  | exc c m => rfl
  | bad => rfl
theorem lc_run {B : Bd} {P P' : Hp → OS → V → D → Prop} (hP : ∀ H O v d, P H O v d → P' H O v d) {fi : Env → M (List D)} {vs is : List Nat} {bnd : D → Env → Option Env} {gt : Env → M Bool} {fe : Env → M D} {σ : L2.St} {H : Hp} {Q : VK} (hsub : ∀ i ∈ is, i ∈ vs)
    (h : tG B (pN B) (lcE fi vs bnd gt fe) σ H Q) : tLc (tG B (pI P) fi) (tTg (noxB B) P' is bnd) (tG (noxB B) pT gt) (tG (noxB B) (pE (noxB B)) fe) vs σ H Q := by
  obtain ⟨env, O, n, s, post⟩ := h
  unfold tLc
  refine tG_seq1 (g := fun env (ds : List D) => if ds.length ≤ big then lcF bnd gt fe (wipeE env vs) ds else fault) lat_N s post fun ds J n1 H1 s1 e1 p1 q1 => ?_
  by_cases hbig : ds.length ≤ big
  · rw [if_pos hbig] at q1
    intro Dl hD
    obtain ⟨G, Y, W, hG, hY⟩ := p1
    have hDT : ¬ B.T.has Dl := s1.town.cold hD
    have hD0 : B.H0 Dl = none := none_back s1.fr1 s1.town hD
    have hDs : ∀ (i : Nat) (sv : SV), (wipeE env vs)[i]? = some (some sv) → sv.ow = true → (L2.wipe σ vs)[i]? ≠ some (some (.ref Dl)) := (s1.wipe vs).free hD
    have hst : ∀ {H' : Hp}, Ext B.T H1 H' → Step O H1 (addO O Dl) H' := fun ex a o h na => ⟨ex a o (fun z => na (s1.tO a z)) h, fun z => z.elim na (ne_of_none h hD)⟩
    refine lc_it W (fun i H' => ∃ n' acc accD, Sim B (wipeE env vs) (addO O Dl) n' (L2.wipe σ vs) H' ∧ Ext B.T H1 H' ∧ H' Dl = some (.lst acc) ∧ Reps B.K H' (addO O Dl) acc accD ∧ acc.length ≤ i ∧
      Post B (pN B O) H1 (seq (lcF bnd gt fe (wipeE env vs) (ds.drop i)) (fun r => ret (accD ++ r)) n') Q) ?_ (fun i H' _ h => ?_) (fun i x H' H'' hi h y => ?_) (fun H' h => ?_)
    · refine ⟨n1, [], [], (s1.wipe vs).addFree hD, same_ext (same_new hD), upd_same, .nil, Nat.zero_le _, ?_⟩
      have e : seq (lcF bnd gt fe (wipeE env vs) (ds.drop 0)) (fun r => ret ([] ++ r)) = lcF bnd gt fe (wipeE env vs) ds := seq_ret _
      rw [e]; exact q1
    · obtain ⟨n', acc, accD, s', ex, _⟩ := h
      exact hG _ _ (hst ex)
    · obtain ⟨n', acc, accD, s', ex, hacc, racc, hlen, post'⟩ := h
      obtain ⟨sm, d, hd, rd⟩ := hY i x _ H' H'' (hst ex) s'.dom hi y
      have s2 := s'.ext (same_ext sm) (same_town sm s'.town)
      rw [List.drop_eq_getElem_cons hi] at post'
      have ed : ds[i] = d := by rw [List.getElem?_eq_getElem hi] at hd; exact Option.some.inj hd
      rw [ed] at post'
      have post' : Post B (pN B O) H1 (seq (seq (lift (bnd d (wipeE env vs))) fun env1 => seq (noexc (gt env1)) fun k => if k = true then seq (noexc (fe env1)) fun y => seq (lcF bnd gt fe (wipeE env vs) (ds.drop (i + 1))) fun r => ret (y :: r) else lcF bnd gt fe (wipeE env vs) (ds.drop (i + 1))) (fun r => ret (accD ++ r)) n') Q := post'
      cases eb : bnd d (wipeE env vs) with
      | none => rw [eb] at post'; exact post'.elim
      | some env1 =>
        rw [eb] at post'
        refine ⟨wipeE env vs, addO O Dl, n', d, env1, s2.nox, hP _ _ _ _ rd, eb, fun σ2 s3 hl ho => ⟨wipe_same hsub hl ho, ?_⟩⟩
        have post' : Post B (pN B O) H1 (seq (seq (noexc (gt env1)) fun k => if k = true then seq (noexc (fe env1)) fun y => seq (lcF bnd gt fe (wipeE env vs) (ds.drop (i + 1))) fun r => ret (y :: r) else lcF bnd gt fe (wipeE env vs) (ds.drop (i + 1))) (fun r => ret (accD ++ r)) n') Q := post'
        refine ⟨env1, addO O Dl, n', s3, ?_⟩
        cases rt : gt env1 n' with
        | exc c m => simp only [seq, noexc, rt] at post'; exact post'.elim
        | bad => simp only [seq, noexc, rt] at post'; exact post'.elim
        | ok k m =>
          have en : noexc (gt env1) n' = .ok k m := by simp only [noexc, rt]
          have post' : Post B (pN B O) H1 (seq (if k = true then seq (noexc (fe env1)) fun y => seq (lcF bnd gt fe (wipeE env vs) (ds.drop (i + 1))) fun r => ret (y :: r) else lcF bnd gt fe (wipeE env vs) (ds.drop (i + 1))) (fun r => ret (accD ++ r)) m) Q := by
            have e2 : seq (seq (noexc (gt env1)) fun k => if k = true then seq (noexc (fe env1)) fun y => seq (lcF bnd gt fe (wipeE env vs) (ds.drop (i + 1))) fun r => ret (y :: r) else lcF bnd gt fe (wipeE env vs) (ds.drop (i + 1))) (fun r => ret (accD ++ r)) n' = seq (if k = true then seq (noexc (fe env1)) fun y => seq (lcF bnd gt fe (wipeE env vs) (ds.drop (i + 1))) fun r => ret (y :: r) else lcF bnd gt fe (wipeE env vs) (ds.drop (i + 1))) (fun r => ret (accD ++ r)) m := by
              simp only [seq, en]
            rw [e2] at post'; exact post'
          intro b H3 ex3 tw3 hb
          have ex3 : Ext B.T H'' H3 := ex3
          have tw3 : Town B.T H3 m := tw3
          cases hb
          have s4 := s2.ext ex3 tw3
          have exA : Ext B.T H1 H3 := (ex.trans (same_ext sm)).trans ex3
          have hacc3 : H3 Dl = some (.lst acc) := ex3 _ _ hDT (sm _ _ hacc)
          have racc3 : Reps B.K H3 (addO O Dl) acc accD := Reps.step (step_of s4.tO ex3) _ _ (Reps.step (same_step sm) _ _ racc)
          cases k with
          | false => exact ⟨m, acc, accD, s4, exA, hacc3, racc3, Nat.le_succ_of_le hlen, post'⟩
          | true =>
            have post' : Post B (pN B O) H1 (seq (seq (noexc (fe env1)) fun y => seq (lcF bnd gt fe (wipeE env vs) (ds.drop (i + 1))) fun r => ret (y :: r)) (fun r => ret (accD ++ r)) m) Q := post'
            refine ⟨env1, addO O Dl, m, s3.ext ex3 tw3, ?_⟩
            cases re : fe env1 m with
            | exc c m2 => simp only [seq, noexc, re] at post'; exact post'.elim
            | bad => simp only [seq, noexc, re] at post'; exact post'.elim
            | ok yd m2 =>
              have en2 : noexc (fe env1) m = .ok yd m2 := by simp only [noexc, re]
              have post' : Post B (pN B O) H1 (seq (seq (lcF bnd gt fe (wipeE env vs) (ds.drop (i + 1))) fun r => ret (yd :: r)) (fun r => ret (accD ++ r)) m2) Q := by
                have e2 : seq (seq (noexc (fe env1)) fun y => seq (lcF bnd gt fe (wipeE env vs) (ds.drop (i + 1))) fun r => ret (y :: r)) (fun r => ret (accD ++ r)) m = seq (seq (lcF bnd gt fe (wipeE env vs) (ds.drop (i + 1))) fun r => ret (yd :: r)) (fun r => ret (accD ++ r)) m2 := by
                  simp only [seq, en2]
                rw [e2] at post'; exact post'
              rw [seq_app] at post'
              intro v H4 ex4 tw4 rep
              have ex4 : Ext B.T H3 H4 := ex4
              have tw4 : Town B.T H4 m2 := tw4
              have s5 := s4.ext ex4 tw4
              obtain ⟨s6, st6⟩ := s5.updFree (o := .lst (acc ++ [v])) (.inr rfl) hDT hD0 hDs
              refine ⟨acc, ex4 _ _ hDT hacc3, ?_, m2, acc ++ [v], accD ++ [yd], s6, ?_, upd_same, ?_, ?_, post'⟩
              · have : acc.length < big := by omega
                exact Nat.lt_of_lt_of_le this big_line
              · intro a o na h
                rw [upd_ne (ne_of_none h hD)]
                exact ex4 a o na (exA a o na h)
              · exact Reps.step st6 _ _ ((Reps.step (step_of s5.tO ex4) _ _ racc3).append (.cons rep .nil))
              · rw [List.length_append, List.length_singleton]; omega
    · obtain ⟨n', acc, accD, s', ex, hacc, racc, hlen, post'⟩ := h
      rw [List.drop_length] at post'
      have post' : Post B (pN B O) H1 (ret (accD ++ []) n') Q := post'
      rw [List.append_nil] at post'
      exact post' (.ref Dl) H' ex s'.town ⟨Dl, acc, rfl, hD, hacc, racc⟩
  · rw [if_neg hbig] at q1; exact q1.elim
section
variable {X : Cx} {B : Bd}
def yesT : Env → M Bool := fun _ => ret true
theorem sts_nil : PTs X [] (tG B pT yesT) := ⟨fun pins s σ H Q I h => by
  obtain ⟨env, O, n, sm, post⟩ := h
  exact (pts_nil (X := X)).run pins s σ H Q I (post true H (Ext.refl _ _) sm.town rfl)⟩
theorem sts_one {c : Expr} {gt : Env → M Bool} (h : ST X B c gt) : PTs X [c] (tG B pT gt) := pts_one h
theorem sn_lc {P P' : Hp → OS → V → D → Prop} {elt tg iter : Expr} {ifs : List Expr} {scope : Scope} {own : List (Str × Nat)} {pos : Pos} {fi : Env → M (List D)} {is : List Nat} {bnd : D → Env → Option Env} {gt : Env → M Bool} {fe : Env → M D} (hc : X.calm = true) (hN : X.N.Nodup) (hi : PI X tg iter (tG B (pI P) fi)) (ok : BlkOk X.N X.env.scope scope own)
    (hg : ∀ (s : Shared) (H : Hp) (C : Addr) (cl : List (Str × Addr)) (fp : List Addr), PG (X.blk s H scope (compEnvC scope cl C X.env) fp) tg (tTg (noxB B) P' is bnd))
    (ht : ∀ (s : Shared) (H : Hp) (C : Addr) (cl : List (Str × Addr)) (fp : List Addr), PTs (X.blk s H scope (compEnvC scope cl C X.env) fp) ifs (tG (noxB B) pT gt))
    (he : ∀ (s : Shared) (H : Hp) (C : Addr) (cl : List (Str × Addr)) (fp : List Addr), SE (X.blk s H scope (compEnvC scope cl C X.env) fp) (noxB B) elt fe) (hsub : ∀ i ∈ is, i ∈ own.map (·.2)) (hs : ∀ x, foldedSetIterable iter X.env x = pure x := by intro _; rfl) (hP : ∀ H O v d, P H O v d → P' H O v d := by intro _ _ _ _ h; exact h) :
    SN X B (.ListComp elt [⟨tg, iter, ifs, 0⟩] scope pos) (lcE fi (own.map (·.2)) bnd gt fe) :=
  pe_weak (pe_lc hc hN hi ok hg ht he hs) fun _ _ _ h => lc_run hP hsub h
theorem ps_lcN {P P' : Hp → OS → V → D → Prop} {st : Stmt} {i : Nat} {vs is : List Nat} {fi : Env → M (List D)} {bnd : D → Env → Option Env} {gt : Env → M Bool} {fe : Env → M D} (hsub : ∀ i ∈ is, i ∈ vs)
    (h : PS X st (tAsg (tLc (tG B (pI P) fi) (tTg (noxB B) P' is bnd) (tG (noxB B) pT gt) (tG (noxB B) (pE (noxB B)) fe) vs) (gName i))) (hP : ∀ H O v d, P H O v d → P' H O v d := by intro _ _ _ _ h; exact h) : PS X st (tAsg (tG B (pN B) (lcE fi vs bnd gt fe)) (gName i)) :=
  ps_weak h fun De σ H h => lc_run (Q := fun x H1 => gName i x σ H1 De.nx) hP hsub h
theorem ss_asgLcN {st : Stmt} {i : Nat} {fr : Env → M (List D)} (h : PS X st (tAsg (tG B (pN B) fr) (gName i))) : SS X B st (setN i fr) := ss_asgN h
theorem ss_asgLcD {st : Stmt} {i : Nat} {fr : Env → M (List D)} (h : PS X st (tAsg (tG B (pN B) fr) (gName i))) : SS X B st (setS i (listE fr)) := by
  refine ss_asg (ps_weak h fun De σ H h => ?_)
  obtain ⟨env, O, n, s, post⟩ := h
  exact tG_seq1 (g := fun env (r : List D) => ret (PyData.list r)) lat_E s post fun x vx n1 H1 s1 e1 p1 q1 => q1 _ H1 (Ext.refl _ _) s1.town (pN_rep s.dom p1)
end
end Sim

namespace Sim
open PySem PySem.Spec L2

/-! ### a def's promise -/
def FPost (B : Bd) (r : R D) (Q : VK) : Prop := match r with
  | .ok d n => ∀ v H', Ext B.T B.H0 H' → Town B.T H' n → Rep B.K H' B.O0 v d → Q v H'
  | .exc c n => XPost B c n
  | .bad => False
def Hot.Fit (T : Hot) (K : PySem.W.Frag) (cv : Nat → Value) : Prop := T.K = K ∧ ∀ l ∈ T.L, cv 100 = .ref T.C
def SpF (K : PySem.W.Frag) (cv : Nat → Value) (np : Nat) (F : List SV → M D) : Sp := fun vs H Q E =>
  vs.length = np ∧ ∃ (T : Hot) (O : OS) (n : Sta) (as : List SV), (∀ a, O a → NF H a) ∧ Town T H n ∧ ((∀ a, T.has a → O a) ∧ T.Fit K cv) ∧ ArgsOk ⟨K, H, O, T, E, cv⟩ H O vs as ∧ FPost ⟨K, H, O, T, E, cv⟩ (F as n) Q
def finM : Fl → M D
  | .ret d => ret d
  | .next _ => ret .none
  | _ => fault
def startE (N : Nat) (as : List SV) : Env := as.map some ++ List.replicate (N - as.length) none
def runF (N : Nat) (g : Env → M Fl) : List SV → M D := fun as => seq (g (startE N as)) finM
theorem ArgsOk.length {B : Bd} {H : Hp} {O : OS} : ∀ {vs : List V} {as : List SV}, ArgsOk B H O vs as → vs.length = as.length
  | _, _, .nil => rfl
  | _, _, .cons _ h => congrArg (· + 1) (ArgsOk.length h)
theorem ArgsOk.at {B : Bd} {H : Hp} {O : OS} : ∀ {vs : List V} {as : List SV} {i : Nat} {a : SV}, ArgsOk B H O vs as → as[i]? = some a → ∃ v, vs[i]? = some v ∧ ArgOk B H O v a
  | _, _, _, _, .nil, e => by simp at e
  | _, _, 0, _, .cons r _, e => by simp at e; subst e; exact ⟨_, rfl, r⟩
  | _, _, i + 1, v, .cons _ t, e => by
    obtain ⟨u, h1, h2⟩ := ArgsOk.at (i := i) (a := v) t (by simpa using e)
    exact ⟨u, by simpa using h1, h2⟩
theorem ArgOk.to {B B' : Bd} (hK : B.K = B'.K) (hT : B.T = B'.T) {H : Hp} {O : OS} {v : V} {a : SV} (h : ArgOk B H O v a) : ArgOk B' H O v a := by
  cases a with
  | d x => have h : Rep B.K H O v x := h; rw [hK] at h; exact h
  | own _ => exact h
  | town => have h : v = .ref B.T.t := h; rw [hT] at h; exact h
  | scr ns => have h : ∃ a, v = .ref a ∧ ScrAt B.K H O a ns := h; rw [hK] at h; exact h
  | ex _ => exact h
  | lis k => have h : ∃ la, B.T.L[k]? = some la ∧ v = .ref la.a := h; rw [hT] at h; exact h
  | dic _ => exact h
theorem ArgsOk.to {B B' : Bd} (hK : B.K = B'.K) (hT : B.T = B'.T) {H : Hp} {O : OS} : ∀ {vs : List V} {as : List SV}, ArgsOk B H O vs as → ArgsOk B' H O vs as
  | _, _, .nil => .nil
  | _, _, .cons r h => .cons (r.to hK hT) (ArgsOk.to hK hT h)
theorem start_sim {K : PySem.W.Frag} {cv : Nat → Value} {T : Hot} {O : OS} {n : Sta} {H : Hp} {E : XK} {N : List Str} {vs : List V} {as : List SV} (dom : ∀ a, O a → NF H a) (tw : Town T H n) (tO : (∀ a, T.has a → O a) ∧ T.Fit K cv) (h : ArgsOk ⟨K, H, O, T, E, cv⟩ H O vs as) :
    Sim ⟨K, H, O, T, E, cv⟩ (startE N.length as) O n (L2.start N vs) H := by
  have hl := h.length
  have noown : ∀ (i : Nat) (sv : SV), (startE N.length as)[i]? = some (some sv) → sv.ow = true → False := fun i sv e w => by
    unfold startE at e
    by_cases hi : i < as.length
    · rw [List.getElem?_append_left (by simpa using hi), List.getElem?_map, List.getElem?_eq_getElem hi] at e
      have e : as[i] = sv := by simpa using e
      obtain ⟨v, _, q⟩ := h.at (i := i) (a := sv) (by rw [List.getElem?_eq_getElem hi, e])
      cases sv with
      | own _ => exact q
      | dic _ => exact q
      | _ => cases w
    · rw [List.getElem?_append_right (by simpa using hi)] at e
      by_cases hj : i - (as.map some).length < N.length - as.length
      · rw [List.getElem?_replicate, if_pos hj] at e; cases e
      · rw [List.getElem?_replicate, if_neg hj] at e; cases e
  refine ⟨by simp [startE, L2.start, hl], fun i sv e => ?_, fun i j sv tv v _ e w => (noown i sv e w).elim, dom, tw, tO.1, Ext.refl _ _, fun a h => .inl h, fun a h => h, tO.2.1, tO.2.2⟩
  have e0 := e
  unfold startE at e
  by_cases hi : i < as.length
  · rw [List.getElem?_append_left (by simpa using hi), List.getElem?_map, List.getElem?_eq_getElem hi] at e
    have e : as[i] = sv := by simpa using e
    obtain ⟨v, hv, q⟩ := h.at (i := i) (a := sv) (by rw [List.getElem?_eq_getElem hi, e])
    refine ⟨v, ?_, ?_⟩
    · unfold L2.start
      rw [List.getElem?_append_left (by rw [List.length_map, hl]; exact hi), List.getElem?_map, hv]; rfl
    · cases sv with
      | d x => exact q
      | own xs => exact (noown i _ e0 rfl).elim
      | town => exact q
      | scr ns => exact q
      | ex _ => exact q
      | lis _ => exact q
      | dic xs => exact (noown i _ e0 rfl).elim
  · rw [List.getElem?_append_right (by simpa using hi)] at e
    by_cases hj : i - (as.map some).length < N.length - as.length
    · rw [List.getElem?_replicate, if_pos hj] at e; cases e
    · rw [List.getElem?_replicate, if_neg hj] at e; cases e
theorem body_post {B : Bd} {O : OS} {H : Hp} {x : M Fl} {n : Sta} {Q : VK} (h : FPost B (seq x finM n) Q) : SPost B { nx := fun _ H' => Q .non H', rt := Q } O H (x n) := by
  unfold seq at h
  cases r : x n with
  | ok f n =>
    rw [r] at h
    cases f with
    | next env => exact fun σ' O' H' s st => h .non H' s.fr1 s.town .non
    | ret d => exact h
    | rn xs => exact h.elim
    | brk env => exact h.elim
    | cont env => exact h.elim
  | exc c n => rw [r] at h; exact h
  | bad => rw [r] at h; exact h
section
variable {P : Program} {w : World} {K : PySem.W.Frag} {mg : Str → Option Value} {base : Heap} {cv : Nat → Value}
/-- THE RULE for a def -/
theorem fn_sim {x qual : Str} {st : Stmt} {f : Addr} {fd : FuncData} {N ps : List Str} {k : Nat} {g : Env → M Fl} {sc : Scope} (F : Fun K x qual st f fd) (hsc : defScope st = sc) (S : FnScope N ps sc)
    (hbody : ∀ (cdv : Value) (A : Around) (outer : List PySem.Env) (s : Shared) (H : Hp) (E : XK) (B : Bd), B.K = K → B.cv = cv → B.E = E → Room k (A.deeper (PyProof.Rows.envOfC qual sc s.heap.objs.size f cdv)) →
      SSs (cxOf (L2N.CX P w) P w K mg base N qual sc f cdv A outer s H E) B (defBody st) g) : FnOk P w K mg base (L2N.CX P w) (k + 1) f fd ps (SpF K cv ps.length (runF N.length g)) := by
  subst hsc
  obtain ⟨oc, od, kV, doc, pm, an, cdv, ct, osl, rfl, lk, hcd⟩ := F.ex
  refine fn_of lk hcd S (fun vs H Q E h => h.1) fun A outer s H vs Q E hr hsp => ?_
  obtain ⟨hl, T, O, n, as, dom, tw, tO, ha, post⟩ := hsp
  refine ⟨_, hbody cdv A outer s H E ⟨K, H, O, T, E, cv⟩ rfl rfl rfl hr, startE N.length as, O, n, start_sim dom tw tO ha, body_post post⟩
end
section
variable {X : Cx} {B : Bd} {e : Expr}
/-- f(..) -/
def callF (np : Nat) (F : List SV → M D) (fs : Env → M (List SV)) : Env → M D := fun env => seq (fs env) fun as => if as.length = np then F as else fault
theorem callF_run {np : Nat} {F : List SV → M D} {fs : Env → M (List SV)} {σ : L2.St} {H : Hp} {Q : VK} (h : tG B (pE B) (callF np F fs) σ H Q) : tG B (pA B) fs σ H fun vs H1 => SpF B.K B.cv np F vs H1 Q B.E := by
  obtain ⟨env, O, n, s, post⟩ := h
  refine tG_seq1 (g := fun env (as : List SV) => if as.length = np then F as else fault) lat_E s post fun as vs n1 H1 s1 e1 p1 q1 => ?_
  by_cases hl : as.length = np
  · rw [if_pos hl] at q1
    refine ⟨by rw [ArgsOk.length p1]; exact hl, B.T, O, n1, as, s1.dom, s1.town, ⟨s1.tO, s1.tK, s1.tC⟩, ArgsOk.to (B := B) (B' := ⟨B.K, H1, O, B.T, B.E, B.cv⟩) rfl rfl p1, ?_⟩
    cases r : F as n1 with
    | ok d m => rw [r] at q1; exact q1
    | exc c m => rw [r] at q1; exact fun H' ex tw => q1 H' (s1.fr1.trans ex) tw
    | bad => rw [r] at q1; exact q1
  · rw [if_neg hl] at q1; exact q1.elim
theorem se_call {np : Nat} {F : List SV → M D} {fs : Env → M (List SV)} {K : PySem.W.Frag} {cv : Nat → Value} {E : XK} (hK : B.K = K) (hcv : B.cv = cv) (hE : B.E = E) (h : PE X e (tCall (SpF K cv np F) [] E (tG B (pA B) fs))) : SE X B e (callF np F fs) := by
  subst hK hcv hE
  refine pe_weak h fun σ H Q q => ?_
  have := callF_run q
  show tG B (pA B) fs σ H fun vs H1 => SpF B.K B.cv np F (vs ++ []) H1 Q B.E
  simp only [List.append_nil]
  exact this
theorem se_call0 {F : List SV → M D} {K : PySem.W.Frag} {cv : Nat → Value} {E : XK} (hK : B.K = K) (hcv : B.cv = cv) (hE : B.E = E) (h : PE X e (tCall (SpF K cv 0 F) [] E tNil)) : SE X B e (callF 0 F nilE) := by
  subst hK hcv hE
  refine pe_weak h fun σ H Q q => ?_
  obtain ⟨env, O, n, s, post⟩ := callF_run q
  exact post [] H (Ext.refl _ _) s.town .nil
/-! ### the script -/
def scrK {α : Type} (k : List Int → M α) : Option (Option SV) → M α
  | some (some (.scr ns)) => k ns
  | _ => fault
theorem scr_post {α : Type} {k : List Int → M α} {o : Option (Option SV)} {n : Sta} {P : R α → Prop} (hb : P .bad → False) (h : P (scrK k o n)) : ∃ ns, o = some (some (.scr ns)) ∧ P (k ns n) := by
  rcases o with _ | _ | x | xs | _ | ns | _ | _ | _ <;> first | exact (hb h).elim | skip
  exact ⟨ns, rfl, h⟩
def scrLen (i : Nat) : Env → M D := fun env => scrK (fun ns => ret (.int ns.length)) env[i]?
theorem se_scrLen {i : Nat} (hK : B.K = X.K) (h : PE X e (tCB (fun xs H Q => ∃ p ys, xs = [.ref p] ∧ (SqL X.K H p ys ∨ SqT X.K H p ys) ∧ Q (.int ys.length) H) (tCons (tVar i) tNil))) : SE X B e (scrLen i) := by
  refine pe_weak h fun σ H Q h => ?_
  obtain ⟨env, O, n, s, post⟩ := h
  obtain ⟨ns, hi, post⟩ := scr_post (P := fun r => Post B (pE B O) H r Q) (fun z => z) post
  obtain ⟨v, hσ, a, rfl, hs⟩ := s.slot i _ hi
  rw [hK] at hs
  refine ⟨_, hσ, a, ns.map V.int, rfl, .inl hs.sq, ?_⟩
  rw [List.length_map]
  exact post _ H (Ext.refl _ _) s.town (.int _)
def scrIx (i : Nat) (fa : Env → M D) : Env → M D := fun env => scrK (fun ns => seq (fa env) fun d => seq (intM d) fun j => lift ((atI ns j).map .int)) env[i]?
theorem atI_map {ns : List Int} {j x : Int} (h : atI ns j = some x) : atI (ns.map V.int) j = some (V.int x) := by
  unfold atI at h ⊢
  rw [List.length_map]
  cases q : ixN ns.length j with
  | none => rw [q] at h; cases h
  | some k =>
    rw [q] at h
    have h : ns[k]? = some x := h
    show (ns.map V.int)[k]? = some (V.int x)
    rw [List.getElem?_map, h]; rfl
theorem se_scrIx {i : Nat} {fa : Env → M D} (hK : B.K = X.K) (h : PE X e (tOp (rIxL X.K) (tVar i) (tG B (pE B) fa))) : SE X B e (scrIx i fa) := by
  refine pe_weak h fun σ H Q h => ?_
  obtain ⟨env, O, n, s, post⟩ := h
  obtain ⟨ns, hi, post⟩ := scr_post (P := fun r => Post B (pE B O) H r Q) (fun z => z) post
  obtain ⟨v, hσ, a, rfl, hs⟩ := s.slot i _ hi
  refine ⟨_, hσ, ?_⟩
  refine tG_seq1 (g := fun env d => seq (intM d) fun j => lift ((atI ns j).map PyData.int)) lat_E s post fun x vx n1 H1 s1 e1 p1 q1 => ?_
  cases p1 with
  | int j =>
    have q1 : Post B (pE B O) H1 (lift ((atI ns j).map PyData.int) n1) Q := q1
    obtain ⟨z, hz, k⟩ := lift_post q1
    cases e : atI ns j with
    | none => rw [e] at hz; cases hz
    | some x =>
      rw [e] at hz; cases hz
      have hs1 := hs.step (step_of s1.tO e1)
      rw [hK] at hs1
      exact ⟨a, _, j, .int x, rfl, rfl, hs1.sq, atI_map e, k _ H1 (Ext.refl _ _) s1.town (.int _)⟩
  | _ => exact q1.elim
def scrEmpty (i : Nat) : Env → M D := fun env => scrK (fun ns => ret (.bool ns.isEmpty)) env[i]?
theorem dp_ints {K : PySem.W.Frag} {H : Hp} : ∀ ns : List Int, DpAll K H (ns.map V.int) (ns.map PyData.int)
  | [] => .nil
  | n :: ns => .cons (.int n) (dp_ints ns)
theorem depth_ints : ∀ ns : List Int, PyData.depthAll (ns.map PyData.int) = 0
  | [] => rfl
  | n :: ns => by show max (PyData.depth (.int n)) (PyData.depthAll (ns.map PyData.int)) = 0; rw [depth_ints ns]; rfl
theorem op_eqP (hu : X.A.units + 64 < cLine) : OpR X (compareOp .Eq) (fun x y H Q => ∃ d e, Dp X.K H x d ∧ Dp X.K H y e ∧ min d.depth e.depth ≤ 60 ∧ Q (.bl (PyData.eqv d e)) H) := by
  intro pins s σ H x y v u Q I rx ry h
  obtain ⟨d, e, dx, dy, hl, q⟩ := h
  obtain ⟨as, r1⟩ := Dp.reads I d x v dx rx
  obtain ⟨bs, r2⟩ := Dp.reads I e y u dy ry
  exact PySem.SeqAt.eq_plain r1 r2 (plain_dp _ _ dx) (plain_dp _ _ dy) (by omega) ⟨.bl _, H, I, rfl, q⟩
theorem st_scrEmpty {i : Nat} (hK : B.K = X.K) (h : PT X e (tTest (tOp (fun x y H Q => ∃ d e, Dp X.K H x d ∧ Dp X.K H y e ∧ min d.depth e.depth ≤ 60 ∧ Q (.bl (PyData.eqv d e)) H) (tVar i) (tLst tNil)))) : ST X B e (testE (scrEmpty i)) := by
  refine pt_weak h fun σ H Q h => ?_
  obtain ⟨env, O, n, s, post⟩ := h
  have post : Post B (pT O) H (seq (scrK (fun ns => ret (.bool ns.isEmpty)) env[i]?) boolM n) Q := post
  rcases hi : env[i]? with _ | _ | x | xs | _ | ns | _ | _ | _ <;> rw [hi] at post <;> first | exact post.elim | skip
  · obtain ⟨v, hσ, a, rfl, hs⟩ := s.slot i _ hi
    refine ⟨_, hσ, Nat.zero_le _, fun p hp => ?_⟩
    have hs1 := hs.step (same_step (same_new (o := .lst []) hp))
    rw [hK] at hs1
    refine ⟨.list (ns.map .int), .list [], .lst hs1.sq (dp_ints ns), .lst (.inl (.inl upd_same)) .nil, ?_, _, rfl, ?_⟩
    · exact Nat.le_trans (Nat.min_le_right _ _) (by decide)
    · have e : PyData.eqv (.list (ns.map .int)) (.list []) = ns.isEmpty := by cases ns <;> simp [PyData.eqv, PyData.eqvAll]
      rw [e]
      exact post _ _ (same_ext (same_new hp)) (same_town (same_new hp) s.town) rfl
end
/-! ### the law -/
def spLaw (K : PySem.W.Frag) : Sp := fun vs H Q _ => ∃ (a : Addr) (ns : List Int), vs = [.ref a] ∧ SqL K H a (ns.map V.int) ∧ ns.length ≤ 63 ∧ ∀ H', Q (.bl true) H'
/-- behind town = [] in slot 1 (the script stands in slot 0) -/
def lawEnv (N : Nat) (ns : List Int) : Env := some (.scr ns) :: some .town :: List.replicate (N - 2) none
def lawR (N : Nat) (g : Env → M Fl) (ns : List Int) : R D := seq (g (lawEnv N ns)) finM ⟨0, []⟩
theorem law_sim {P : Program} {w : World} {K : PySem.W.Frag} {mg : Str → Option Value} {base : Heap} {cv : Nat → Value} {qual : Str} {st : Stmt} {f : Addr} {fd : FuncData} {N : List Str} {k : Nat} {g : Env → M Fl} {s0 : Stmt} {rest : List Stmt} {sc : Scope} (F : Fun K "law" qual st f fd) (hsc : defScope st = sc) (S : FnScope N ["script"] sc) (hN : 2 ≤ N.length)
    (hb : defBody st = s0 :: rest)
    (h0 : ∀ (cdv : Value) (A : Around) (outer : List PySem.Env) (s : Shared) (H : Hp) (E : XK), PS (cxOf (L2N.CX P w) P w K mg base N qual sc f cdv A outer s H E) s0 (tAsg (tLst tNil) (gName 1)))
    (hbody : ∀ (cdv : Value) (A : Around) (outer : List PySem.Env) (s : Shared) (H : Hp) (E : XK) (B : Bd), B.K = K → B.cv = cv → B.E = E → Room k (A.deeper (PyProof.Rows.envOfC qual sc s.heap.objs.size f cdv)) →
      SSs (cxOf (L2N.CX P w) P w K mg base N qual sc f cdv A outer s H E) B rest g)
    (hlaw : ∀ ns : List Int, ns.length ≤ 63 → ∃ n, lawR N.length g ns = .ok (.bool true) n) : FnOk P w K mg base (L2N.CX P w) (k + 1) f fd ["script"] (spLaw K) := by
  subst hsc
  obtain ⟨oc, od, kV, doc, pm, an, cdv, ct, osl, rfl, lk, hcd⟩ := F.ex
  refine fn_of lk hcd S (fun vs H Q E h => ?_) fun A outer s H vs Q E hr hsp => ?_
  · obtain ⟨a, ns, rfl, _⟩ := h; rfl
  · obtain ⟨a, ns, rfl, hS, hlen, q⟩ := hsp
    have hr2 : PSs (cxOf (L2N.CX P w) P w K mg base N qual (defScope st) f cdv A outer s H E) rest (fun De σ H' => ∃ B : Bd, (B.K = K ∧ B.cv = cv ∧ B.E = E) ∧ tS B g De σ H') :=
      ⟨fun pins s' σ H' De I h => by
        obtain ⟨B, ⟨h1, h2, h3⟩, h⟩ := h
        exact (hbody cdv A outer s H E B h1 h2 h3 hr).run pins s' σ H' De I h⟩
    refine ⟨_, by rw [hb]; exact pss_cons (h0 cdv A outer s H E) hr2, ?_⟩
    refine ⟨Nat.zero_le _, fun p hp => ?_⟩
    have nap : ∀ o, H a = some o → a ≠ p := fun o h => ne_of_none h hp
    refine ⟨⟨K, upd H p (.lst []), fun b => b = p, ⟨p, K, 0, []⟩, E, cv⟩, ⟨rfl, rfl, rfl⟩, lawEnv N.length ns, fun b => b = p, ⟨0, []⟩, ?_, ?_⟩
    · have hsc : ScrAt K (upd H p (.lst [])) (fun b => b = p) a ns := by
        rcases hS with (h | ⟨o, h⟩) | h
        · exact .inl ⟨.inl (by rw [upd_ne (nap _ h)]; exact h), nap _ h⟩
        · exact .inl ⟨.inr ⟨o, by rw [upd_ne (nap _ h)]; exact h⟩, nap _ h⟩
        · exact .inr h
      have hshape : ∀ i : Nat, 2 ≤ i → (lawEnv N.length ns)[i]? = none ∨ (lawEnv N.length ns)[i]? = some none := fun i hi => by
        unfold lawEnv
        match i, hi with
        | j + 2, _ =>
          show (List.replicate (N.length - 2) none)[j]? = none ∨ (List.replicate (N.length - 2) none)[j]? = some none
          rw [List.getElem?_replicate]
          by_cases hj : j < N.length - 2
          · rw [if_pos hj]; exact .inr rfl
          · rw [if_neg hj]; exact .inl rfl
      have hσ0 : ((L2.start N [V.ref a]).set 1 (some (.ref p)))[0]? = some (some (.ref a)) := by
        rw [List.getElem?_set_ne (by decide)]; rfl
      have hσ1 : ((L2.start N [V.ref a]).set 1 (some (.ref p)))[1]? = some (some (.ref p)) := by
        rw [List.getElem?_set_self]
        show 1 < ([some (V.ref a)] ++ List.replicate (N.length - 1) none).length
        simp; omega
      refine ⟨?_, fun i sv e => ?_, fun i j sv tv v _ e w => ?_, fun b h => ?_, ⟨upd_same, .nil, (fun _ h => by cases h), .nil⟩, fun a h => ?_, Ext.refl _ _, fun b h => .inl h, fun b h => h, rfl, fun _ h => by cases h⟩
      · show (lawEnv N.length ns).length = ((L2.start N [V.ref a]).set 1 (some (.ref p))).length
        rw [List.length_set]
        simp [lawEnv, L2.start]; omega
      · match i, e with
        | 0, e => cases e; exact ⟨_, hσ0, a, rfl, hsc⟩
        | 1, e => cases e; exact ⟨_, hσ1, rfl⟩
        | j + 2, e => rcases hshape (j + 2) (by omega) with q | q <;> rw [q] at e <;> cases e
      · match i, e with
        | 0, e => cases e; cases w
        | 1, e => cases e; cases w
        | j + 2, e => rcases hshape (j + 2) (by omega) with q | q <;> rw [q] at e <;> cases e
      · rw [show b = p from h]; exact ⟨_, upd_same, rfl⟩
      · rcases h with h | ⟨l, hl, _⟩
        · exact h
        · cases hl
    · obtain ⟨m, hm⟩ := hlaw ns hlen
      refine body_post (B := ⟨K, upd H p (.lst []), fun b => b = p, ⟨p, K, 0, []⟩, E, cv⟩) (Q := Q) ?_
      have hm : seq (g (lawEnv N.length ns)) finM ⟨0, []⟩ = .ok (.bool true) m := hm
      rw [hm]
      intro v H' _ _ r
      have e : v = .bl true := by cases r; rfl
      rw [e]; exact q H'
end Sim

namespace Sim
open PySem PySem.Spec L2

section
variable {X : Cx} {B : Bd} {e : Expr} {fa fb fc fk : Env → M D}
/-- no exception leaves a block -/
theorem passN {X : Cx} : Passes (L2N.CX X.prog X.w) X (fun _ _ _ => False) := fun _ _ _ _ _ _ _ h => by
  obtain ⟨_, _, _, _, _, _, _, _, _, _, _, _, z⟩ := h
  exact z.elim
/-! ### {k1: a, k2: b, k3: c}[k], the keys written texts -/
def pick3 (k1 k2 k3 : Str) (x1 x2 x3 : D) : D → M D
  | .str z => if z = k1 then ret x1 else if z = k2 then ret x2 else if z = k3 then ret x3 else fault
  | _ => fault
def dict3E (k1 k2 k3 : Str) (fa fb fc fk : Env → M D) : Env → M D := fun env => seq (fa env) fun x1 => seq (fb env) fun x2 => seq (fc env) fun x3 => seq (fk env) (pick3 k1 k2 k3 x1 x2 x3)
theorem merge3 {k1 k2 k3 : Str} (h12 : k1 ≠ k2) (h13 : k1 ≠ k3) (h23 : k2 ≠ k3) (v1 v2 v3 : V) : mergeK [] [((Sum.inr k1 : Key), v1), (Sum.inr k2, v2), (Sum.inr k3, v3)] = [((Sum.inr k1 : Key), v1), (Sum.inr k2, v2), (Sum.inr k3, v3)] := by
  have e12 : ¬ (Sum.inr k1 : Key) = Sum.inr k2 := fun z => h12 (Sum.inr.inj z)
  have e13 : ¬ (Sum.inr k1 : Key) = Sum.inr k3 := fun z => h13 (Sum.inr.inj z)
  have e23 : ¬ (Sum.inr k2 : Key) = Sum.inr k3 := fun z => h23 (Sum.inr.inj z)
  simp [mergeK, putK, e12, e13, e23]
/-- the first part of a sequence; the rest is carried by any word of its end -/
theorem tG_seqR {α β γ : Type} {P : OS → Hp → Hp → β → α → Prop} {f : Env → M α} {g : Env → α → M γ} {Y : β → Hp → Prop} {env : Env} {O : OS} {n : Sta} {σ : L2.St} {H : Hp} {W : R γ → Prop} (s : Sim B env O n σ H) (h : W (seq (f env) (g env) n)) (hx : ∀ c m, W (.exc c m) → XPost B c m) (hb : W .bad → False)
    (k : ∀ a b n1 H1, Sim B env O n1 σ H1 → Ext B.T H H1 → P O H H1 b a → W (g env a n1) → Y b H1) : tG B P f σ H Y := by
  refine ⟨env, O, n, s, ?_⟩
  unfold seq at h
  cases e : f env n with
  | ok a n1 =>
    rw [e] at h
    intro b H1 ex tw p
    exact k a b n1 H1 (s.ext ex tw) ex p h
  | exc c n1 => rw [e] at h; exact hx c n1 h
  | bad => rw [e] at h; exact (hb h).elim
theorem se_dict3 {k1 k2 k3 : Str} (h12 : k1 ≠ k2) (h13 : k1 ≠ k3) (h23 : k2 ≠ k3)
    (h : PE X e (tDGet (tDisp [(tC (.str k1), tG B (pE B) fa), (tC (.str k2), tG B (pE B) fb), (tC (.str k3), tG B (pE B) fc)]) (tG B (pE B) fk))) : SE X B e (dict3E k1 k2 k3 fa fb fc fk) := by
  refine pe_weak h fun σ H Q q => ?_
  obtain ⟨env, O, n, s, post⟩ := q
  intro p hp
  have hpT : ¬ B.T.has p := s.town.cold hp
  have hp0 : B.H0 p = none := none_back s.fr1 s.town hp
  have hps : ∀ (i : Nat) (sv : SV), env[i]? = some (some sv) → sv.ow = true → σ[i]? ≠ some (some (.ref p)) := s.free hp
  have s0 : Sim B env (addO O p) n σ (upd H p (.dK [])) := s.addFree hp
  have ext0 : Ext B.T H (upd H p (.dK [])) := same_ext (same_new hp)
  have hx : ∀ c m, Post B (pE B O) H (.exc c m) Q → XPost B c m := fun c m z => z
  have hb : Post B (pE B O) H .bad Q → False := fun z => z
  show tG B (pE B) fa σ (upd H p (.dK [])) _
  refine tG_seqR (W := fun r => Post B (pE B O) H r Q) (g := fun env x1 => seq (fb env) fun x2 => seq (fc env) fun x3 => seq (fk env) (pick3 k1 k2 k3 x1 x2 x3)) s0 post hx hb fun x1 v1 n1 H1 s1 e1 p1 q1 => ?_
  show tG B (pE B) fb σ H1 _
  refine tG_seqR (W := fun r => Post B (pE B O) H r Q) (g := fun env x2 => seq (fc env) fun x3 => seq (fk env) (pick3 k1 k2 k3 x1 x2 x3)) s1 q1 hx hb fun x2 v2 n2 H2 s2 e2 p2 q2 => ?_
  show tG B (pE B) fc σ H2 _
  refine tG_seqR (W := fun r => Post B (pE B O) H r Q) (g := fun env x3 => seq (fk env) (pick3 k1 k2 k3 x1 x2 x3)) s2 q2 hx hb fun x3 v3 n3 H3 s3 e3 p3 q3 => ?_
  have hd : H3 p = some (.dK []) := e3 _ _ hpT (e2 _ _ hpT (e1 _ _ hpT upd_same))
  refine ⟨hd, [((Sum.inr k1 : Key), v1), (Sum.inr k2, v2), (Sum.inr k3, v3)], rfl, by show 3 ≤ 15; decide, ?_⟩
  rw [merge3 h12 h13 h23]
  obtain ⟨s4, st4⟩ := s3.updFree (o := .dK [((Sum.inr k1 : Key), v1), (Sum.inr k2, v2), (Sum.inr k3, v3)]) (.inr rfl) hpT hp0 hps
  refine tG_seqR (W := fun r => Post B (pE B O) H r Q) (g := fun env => pick3 k1 k2 k3 x1 x2 x3) s4 q3 hx hb fun y vy n5 H5 s5 e5 p5 q5 => ?_
  have full : Ext B.T H H5 := fun a o na h => by
    have hne : a ≠ p := ne_of_none h hp
    refine e5 a o na ?_
    rw [upd_ne hne]
    exact e3 a o na (e2 a o na (e1 a o na (by rw [upd_ne hne]; exact h)))
  have up : ∀ {v : V} {d : D}, Rep B.K H3 (addO O p) v d → Rep B.K H5 O v d := fun r => Rep.anti (fun _ z => .inl z) _ _ (Rep.step (step_of s5.tO e5) _ _ (Rep.step st4 _ _ r))
  have r1 : Rep B.K H3 (addO O p) v1 x1 := Rep.step (step_of s3.tO e3) _ _ (Rep.step (step_of s3.tO e2) _ _ p1)
  have r2 : Rep B.K H3 (addO O p) v2 x2 := Rep.step (step_of s3.tO e3) _ _ p2
  have hd5 : H5 p = some (.dK [((Sum.inr k1 : Key), v1), (Sum.inr k2, v2), (Sum.inr k3, v3)]) := e5 _ _ hpT upd_same
  cases y with
  | str z =>
    have ey : vy = .str z := by cases p5; rfl
    subst ey
    have q5 : Post B (pE B O) H ((if z = k1 then ret x1 else if z = k2 then ret x2 else if z = k3 then ret x3 else fault) n5) Q := q5
    have dg : ∀ {v : V}, valV [((Sum.inr k1 : Key), v1), (Sum.inr k2, v2), (Sum.inr k3, v3)] (Sum.inr z) = some v → DGet H5 p (.str z) (some v) := fun {v} h => .inl ⟨_, Sum.inr z, .inl hd5, rfl, h.symm⟩
    by_cases z1 : z = k1
    · rw [if_pos z1] at q5
      exact ⟨p, v1, rfl, dg (by simp [valV, z1]), q5 v1 H5 full s5.town (up r1)⟩
    · rw [if_neg z1] at q5
      have n1 : ¬ (Sum.inr k1 : Key) = Sum.inr z := fun q => z1 (Sum.inr.inj q).symm
      by_cases z2 : z = k2
      · rw [if_pos z2] at q5
        exact ⟨p, v2, rfl, dg (by subst z2; simp [valV, List.find?_cons, n1]), q5 v2 H5 full s5.town (up r2)⟩
      · rw [if_neg z2] at q5
        have n2 : ¬ (Sum.inr k2 : Key) = Sum.inr z := fun q => z2 (Sum.inr.inj q).symm
        by_cases z3 : z = k3
        · rw [if_pos z3] at q5
          exact ⟨p, v3, rfl, dg (by subst z3; simp [valV, List.find?_cons, n1, n2]), q5 v3 H5 full s5.town (up p3)⟩
        · rw [if_neg z3] at q5; exact q5.elim
  | _ => exact q5.elim
/-! ### ''.join(..), l.index(x), l.count(x), min(list) -/
def joinD : D → List D → Option D
  | .str a, [.list xs] => (strsOf xs).bind fun ys => if (ys.map (·.length)).sum + ys.length * a.length ≤ big then some (.str (Txt.join a ys)) else none
  | _, _ => none
theorem mtd_join : MtD X B "str.join" joinD := by
  refine MtR.imp mt_join fun x vs H Q h => ?_
  obtain ⟨O, d, ds, z, dom, hx, hv, hz, q⟩ := h
  unfold joinD at hz
  split at hz
  · rename_i a xs
    obtain ⟨v, rfl, h1⟩ := hv.one
    obtain ⟨p, ws, rfl, rp, rws⟩ := h1.list
    cases e : strsOf xs with
    | none => rw [e] at hz; cases hz
    | some ys =>
      rw [e] at hz
      have hz : (if (ys.map (·.length)).sum + ys.length * a.length ≤ big then some (PyData.str (Txt.join a ys)) else none) = some z := hz
      split at hz
      · rename_i hl
        cases hz
        have e2 := strsOf_reps rws e
        subst e2
        refine ⟨a, p, ys, hx.str, rfl, .inl (.inl rp), ?_, q _ H (fun _ _ h => h) (.str _)⟩
        have : big = 1000000 := rfl
        omega
      · cases hz
  · cases hz
def isStrD : D → Bool
  | .str _ => true
  | _ => false
def isListD : D → Bool
  | .list _ => true
  | _ => false
theorem ty_str {K : PySem.W.Frag} : ∀ H O v d, Brw B H O v d → isStrD d = true → tyV K "str" v H := fun H O v d h e => by
  cases d with
  | str z => rw [h.str]; rfl
  | _ => cases e
theorem ty_list {K : PySem.W.Frag} : ∀ H O v d, Brw B H O v d → isListD d = true → tyV K "list" v H := fun H O v d h e => by
  cases d with
  | list z => obtain ⟨a, xs, rfl, ra, rxs⟩ := h.list; exact .inl ⟨rfl, xs, .inl ra⟩
  | _ => cases e
def countD : D → List D → Option D
  | .list xs, [d] => if min (PyData.depthAll xs) d.depth ≤ 60 then some (.int ((xs.countP fun y => PyData.eqv y d : Nat) : Int)) else none
  | _, _ => none
theorem mtd_count (hK : B.K = X.K) (hu : X.A.units + 64 < cLine) : MtD X B "list.count" countD := by
  intro pins s σ H x vs v us Q I rx rv h
  obtain ⟨O, d, ds, z, dom, hx, hv, hz, q⟩ := h
  unfold countD at hz
  split at hz
  · rename_i xs d
    split at hz
    · rename_i hl
      cases hz
      obtain ⟨w, rfl, h1⟩ := hv.one
      obtain ⟨a, ws, rfl, ra, rws⟩ := hx.list
      cases rx
      obtain ⟨u, rfl, ru⟩ := rv.one
      have dy := h1.dp
      rw [hK] at dy rws
      obtain ⟨bs, r2⟩ := Dp.reads I _ _ u dy ru
      obtain ⟨_, its, n, rvs, hlen, e⟩ := lstR I ra
      obtain ⟨as, r1⟩ := Dp.readsAll I _ _ _ (Reps.dp _ _ rws) rvs
      refine PySem.SeqAt.count_list_data (vs := its.toArray) ⟨_, e, rfl, n, rfl⟩ (by simpa using r1) r2 (plainAll_dp _ _ (Reps.dp _ _ rws)) (plain_dp _ _ dy) (by omega) ?_
      exact ⟨.int _, H, I.tok _, ⟨_, rfl⟩, q _ H (fun _ _ h => h) (.int _)⟩
    · cases hz
  · cases hz
def indexD : D → List D → Option D
  | .list xs, [d] => if min (PyData.depthAll xs) d.depth ≤ 60 ∧ xs.length ≤ big then (xs.findIdx? fun y => PyData.eqv y d).map fun j => .int (j : Int) else none
  | _, _ => none
theorem mtd_index (hK : B.K = X.K) (hu : X.A.units + 64 < cLine) : MtD X B "list.index" indexD := by
  intro pins s σ H x vs v us Q I rx rv h
  obtain ⟨O, d, ds, z, dom, hx, hv, hz, q⟩ := h
  unfold indexD at hz
  split at hz
  · rename_i xs d
    split at hz
    · rename_i hl
      obtain ⟨w, rfl, h1⟩ := hv.one
      obtain ⟨a, ws, rfl, ra, rws⟩ := hx.list
      cases rx
      obtain ⟨u, rfl, ru⟩ := rv.one
      have dy := h1.dp
      rw [hK] at dy rws
      obtain ⟨bs, r2⟩ := Dp.reads I _ _ u dy ru
      obtain ⟨_, its, n, rvs, hlen, e⟩ := lstR I ra
      obtain ⟨as, r1⟩ := Dp.readsAll I _ _ _ (Reps.dp _ _ rws) rvs
      have pxs := plainAll_dp _ _ (Reps.dp _ _ rws)
      cases ej : xs.findIdx? (fun y => PyData.eqv y d) with
      | none => rw [ej] at hz; cases hz
      | some j =>
        rw [ej] at hz; cases hz
        have r1' : ReadsAll s.heap its.toArray.toList xs as := by simpa using r1
        obtain ⟨hj, hhit, hno⟩ := PySem.SeqAt.hit_at (d := d) r1' pxs ej
        refine PySem.call_meets PySem.F.slot_list_index ⟨_, e, rfl⟩ PySem.F.entry_list_index (PySem.F.args_list_index_2 _ _)
          (PySem.SeqAt.list_indexAt a its.toArray n none #[] u (fun u => PyData.eqv (PySem.SeqAt.readOf s.heap u) d) j hj ?_ hhit hno) ⟨e, PySem.SeqAt.items_plain r1' r2 pxs (plain_dp _ _ dy) (by omega), ?_⟩
        · have := sizeLine_eq
          have hb : big = 1000000 := rfl
          have := rws.length
          have hjl : j < its.length := by simpa using hj
          omega
        · exact ⟨.int _, H, I.tok _, ⟨_, rfl⟩, q _ H (fun _ _ h => h) (.int _)⟩
    · cases hz
  · cases hz
def minLD : List D → Option D
  | [.list xs] => (intsOf xs).bind fun ns => ns.min?.map .int
  | _ => none
theorem calld_minL (hc : X.calm = true) : CallD X B (.builtin "min") minLD := by
  refine CallR.imp (cr_min hc) fun vs H Q h => ?_
  obtain ⟨O, ds, z, dom, hv, hz, q⟩ := h
  unfold minLD at hz
  split at hz
  · rename_i xs
    obtain ⟨v, rfl, h1⟩ := hv.one
    obtain ⟨a, ys, rfl, ra, rxs⟩ := h1.list
    cases e : intsOf xs with
    | none => rw [e] at hz; cases hz
    | some ns =>
      rw [e] at hz
      have hz : ns.min?.map PyData.int = some z := hz
      cases em : ns.min? with
      | none => rw [em] at hz; cases hz
      | some m =>
        rw [em] at hz; cases hz
        have e2 := intsOf_reps rxs e
        subst e2
        refine ⟨a, ns, rfl, .inl ra, ?_, fun m' hm' hle => ?_⟩
        · cases ns with
          | nil => cases em
          | cons _ _ => simp
        · have hm := List.min?_eq_some_iff.mp em
          have : m' = m := Int.le_antisymm (hle m hm.1) (hm.2 m' hm')
          subst this
          exact q _ H (fun _ _ h => h) (.int _)
  · cases hz
theorem pe_neg1 {j : Nat} {p pos : Pos} : PE X (.UnaryOp .USub (.Constant (.int 1) j p) pos) (tC (.int (-1))) := pe_weak (pe_un un_neg pe_int) fun σ H Q h => ⟨1, rfl, h⟩
theorem ss_raiseC {c : Nat} {C : Addr} {E : XK} {x m : Str} {j : Nat} {p p2 pos pos' : Pos} (hcv : B.cv c = .ref C) (hc : X.calm = true) (hE : B.E = E) (tk : L2N.Takes X (fun cls d _ H => E cls d H))
    (q : PySem.W.excIn X.K C [.type "ValueError", .type "Exception", .type "BaseException", .type "object"] "ValueError.__new__" = true) (gC : X.mg x = some (.ref C)) (kC : PySem.W.keepIn X.K (.ref C) = true) (hs : PySem.W.subIn X.K (.ref C) (.type "BaseException") = some true) (ht : PySem.W.typeIn X.K (.ref C) = some (.type "type")) (hg : Gl X x)
    (hdb : (x == ("__debug__" : Str)) = false := by decide) : SS X B (.Raise (some (.Call (.Name x p) [.Constant (.str m) j p2] [] pos)) none pos') (raiseS c) :=
  ss_raise (W := fun cls d _ H => E cls d H) hcv (L2N.ps_raise hc tk (L2N.pmk_own PySem.F.excBase_ValueError q gC kC (raises_own hs ht) hg hdb)) fun _ _ h => hE ▸ h
/-! ### -x; a new list by + -/
def negD : D → Option D
  | .int i => some (.int (-i))
  | _ => none
def negE (fa : Env → M D) : Env → M D := fun env => seq (fa env) fun x => lift (negD x)
theorem se_neg {a : Expr} {pos : Pos} (ha : SE X B a fa) : SE X B (.UnaryOp .USub a pos) (negE fa) := by
  refine pe_weak (pe_un un_neg ha) fun σ H Q h => ?_
  obtain ⟨env, O, n, s, post⟩ := h
  refine tG_seq1 (g := fun env x => lift (negD x)) lat_E s post fun x vx n1 H1 s1 e1 p1 q1 => ?_
  obtain ⟨z, hz, k⟩ := lift_post q1
  cases p1 with
  | int i => cases hz; exact ⟨i, rfl, k _ H1 (Ext.refl _ _) s1.town (.int _)⟩
  | _ => cases hz
def catM : D → D → M (List D)
  | .list xs, .list ys => if xs.length + ys.length ≤ big then ret (xs ++ ys) else fault
  | _, _ => fault
def catN (fa fb : Env → M D) : Env → M (List D) := fun env => seq (fa env) fun x => seq (fb env) fun y => catM x y
theorem sn_cat {a b : Expr} {pos : Pos} (ha : SB X B a fa) (hb : SB X B b fb) : SN X B (.BinOp a .Add b pos) (catN fa fb) := by
  refine pe_weak (pe_op op_catR ha hb) fun σ H Q h => ?_
  obtain ⟨env, O, n, s, post⟩ := h
  refine tG_seq1 (g := fun env x => seq (fb env) fun y => catM x y) lat_N s post fun x vx n1 H1 s1 e1 p1 q1 => ?_
  refine tG_seq1 (g := fun env y => catM x y) lat_N s1 q1 fun y vy n2 H2 s2 e2 p2 q2 => ?_
  cases x with
  | list xs =>
    cases y with
    | list ys =>
      have q2 : Post B (pN B O) H2 ((if xs.length + ys.length ≤ big then ret (xs ++ ys) else fault) n2) Q := q2
      split at q2
      · rename_i hl
        obtain ⟨a, us, rfl, ra, rxs⟩ := (Brw.ext s2.tO e2 p1).list
        obtain ⟨b, ws, rfl, rb, rys⟩ := Brw.list p2
        refine ⟨a, b, us, ws, rfl, rfl, ra, rb, by rw [rxs.length, rys.length]; exact Nat.le_trans hl big_line, fun p hp => ?_⟩
        exact q2 _ _ (same_ext (same_new hp)) (same_town (same_new hp) s2.town) ⟨p, us ++ ws, rfl, hp, upd_same, Reps.step (step_add hp) _ _ (rxs.append rys)⟩
      · exact q2.elim
    | _ => exact q2.elim
  | _ => exact q2.elim
end
/-! ### what the top has left -/
theorem noCX {P : Program} {w : World} {H : Hp} {s : Shared} {e : Value} {s' : Shared} (h : L2N.CX P w [] H s (fun _ _ _ => False) e s') : False := by
  obtain ⟨_, _, _, _, _, _, _, _, _, _, _, _, z⟩ := h
  exact z
section
variable {K : PySem.W.Frag} {mg : Str → Option Value} {h : Heap} {R : Prop} {x qual : Str}
theorem def_use {st : Stmt} {ps : List Str} {f : Addr} {oc : Value} {od an : Option Addr} {osl : Array (Option Value)} {kV doc pm cdv ct : Value} (X : K.In h) (G : h.Ns mainGlobals mg) (a : PySem.W.nsIn K mainGlobals x = some (some (.ref f)))
    (l : K.lookup f = some ⟨oc, od, .func (PySem.W.fnOf x qual (defArgs st) (defBody st) (defScope st) .none kV doc pm an cdv ct), osl⟩) (c : PySem.W.codeIn K cdv qual = true) (k : PySem.W.keepIn K (.ref f) = true)
    (hb : ∀ (kV doc pm : Value) (an : Option Addr) (cdv ct : Value) (us : List Value), us.length = ps.length → bindArgs (PySem.W.fnOf x qual (defArgs st) (defBody st) (defScope st) .none kV doc pm an cdv ct) ⟨us, []⟩ = pure (ps.zip us))
    (n : ∀ f fd, mg x = some (.ref f) → Fun K x qual st f fd → Binds K fd ps [] → R) : R := n f _ (PySem.W.mg_of X G a) (fun_mk (st := st) l c k) ((fun_mk (st := st) l c k).binds hb)
theorem law_use {st : Stmt} {f : Addr} {oc : Value} {od an : Option Addr} {osl : Array (Option Value)} {kV doc pm cdv ct : Value} (X : K.In h) (G : h.Ns mainGlobals mg) (a : PySem.W.nsIn K mainGlobals "law" = some (some (.ref f)))
    (l : K.lookup f = some ⟨oc, od, .func (PySem.W.fnOf "law" "law" (defArgs st) (defBody st) (defScope st) .none kV doc pm an cdv ct), osl⟩) (c : PySem.W.codeIn K cdv "law" = true) (k : PySem.W.keepIn K (.ref f) = true)
    (hb : ∀ (kV doc pm : Value) (an : Option Addr) (cdv ct : Value) (us : List Value), us.length = 1 → bindArgs (PySem.W.fnOf "law" "law" (defArgs st) (defBody st) (defScope st) .none kV doc pm an cdv ct) ⟨us, []⟩ = pure (([("script" : Str)] : List Str).zip us))
    (n : ∀ f fd, mg "law" = some (.ref f) → Fun K "law" "law" st f fd → Binds K fd ["script"] [] → (∀ (s : Shared) (u : Value), BindsTo s fd ⟨[u], []⟩ [("script", u)]) → R) : R :=
  n f _ (PySem.W.mg_of X G a) (fun_mk (st := st) l c k) ((fun_mk (st := st) l c k).binds hb) (fun s u => .of_eq (hb _ _ _ _ _ _ [u] rfl))
theorem tup_use {a : Addr} {its : Array Value} {m : Nat} {sl : Array (Option Value)} {xs : List V} (X : K.In h) (G : h.Ns mainGlobals mg) (ha : PySem.W.nsIn K mainGlobals x = some (some (.ref a))) (l : K.lookup a = some ⟨.type "tuple", none, .seq its m, sl⟩) (z : its.size ≤ 1000) (v : Vals xs its.toList)
    (n : ∀ a, mg x = some (.ref a) → KT K a xs → R) : R := n a (PySem.W.mg_of X G ha) ⟨_, its, m, l, rfl, rfl, rfl, Nat.le_trans z (by decide), v⟩
theorem exc_use {C : Addr} (X : K.In h) (G : h.Ns mainGlobals mg) (a : PySem.W.nsIn K mainGlobals x = some (some (.ref C))) (q : PySem.W.excIn K C [.type "ValueError", .type "Exception", .type "BaseException", .type "object"] "ValueError.__new__" = true) (k : PySem.W.keepIn K (.ref C) = true) (s : PySem.W.subIn K (.ref C) (.type "BaseException") = some true) (t : PySem.W.typeIn K (.ref C) = some (.type "type"))
    (n : ∀ C, mg x = some (.ref C) → PySem.W.excIn K C [.type "ValueError", .type "Exception", .type "BaseException", .type "object"] "ValueError.__new__" = true → PySem.W.keepIn K (.ref C) = true → PySem.W.subIn K (.ref C) (.type "BaseException") = some true → PySem.W.typeIn K (.ref C) = some (.type "type") → R) : R := n C (PySem.W.mg_of X G a) q k s t
theorem none_use (X : K.In h) (G : h.Ns mainGlobals mg) (a : PySem.W.nsIn K mainGlobals x = some none) (n : mg x = none → R) : R := n (PySem.W.mg_none_of X G a)
theorem int_use {i : Int} {t : Tok} (X : K.In h) (G : h.Ns mainGlobals mg) (a : PySem.W.nsIn K mainGlobals x = some (some (.int i t))) (n : (∃ t, mg x = some (.int i t)) → R) : R := n ⟨t, PySem.W.mg_of X G a⟩
theorem str_use {z : Str} {t : Tok} (X : K.In h) (G : h.Ns mainGlobals mg) (a : PySem.W.nsIn K mainGlobals x = some (some (.str z t))) (n : (∃ t, mg x = some (.str z t)) → R) : R := n ⟨t, PySem.W.mg_of X G a⟩
end
end Sim

/-! except WireError as e: return _law_which(e) -/
namespace Sim
open PySem PySem.Spec L2

/-! ### isinstance(e, C), e the caught error, in a def that the suite calls -/
def exK {α : Type} (k : Addr → M α) : Option (Option SV) → M α
  | some (some (.ex a)) => k a
  | _ => fault
theorem ex_post {α : Type} {k : Addr → M α} {o : Option (Option SV)} {n : Sta} {P : R α → Prop} (hb : P .bad → False) (h : P (exK k o n)) : ∃ a, o = some (some (.ex a)) ∧ P (k a n) := by
  rcases o with _ | _ | x | xs | _ | ns | a | _ | _ <;> first | exact (hb h).elim | skip
  exact ⟨a, rfl, h⟩
def isX (a0 : Addr) (i : Nat) (b : Bool) : Env → M D := fun env => exK (fun a => if a = a0 then ret (.bool b) else fault) env[i]?
theorem isX_0 (a : Addr) (b : Bool) (env : Env) : isX a 0 b (some (.ex a) :: env) = ret (.bool b) := by
  show (if a = a then ret (PyData.bool b) else fault) = _
  rw [if_pos rfl]
section
variable {X : Cx} {B : Bd}
theorem call_isX {a D : Addr} {oe : Obj} (C : ExcC X.K D) (hp : (a, oe) ∈ X.pn) (hz : Zc (.ref D) none oe) (hf : ∃ ws, oe.data = .fields ws) : CallR X (.builtin "isinstance") (rIsE X.K D a) := by
  intro pl t σ G ys zs Q J rr hh
  obtain ⟨cc, cval, yes, rfl, hval, kit, fin⟩ := hh
  obtain ⟨z1, z2, rfl, q1, q2⟩ := vals2 rr
  cases (show z1 = Value.ref a from q1)
  cases hval _ q2
  have gt := (J.pin (a, oe) (List.mem_append_left _ hp)).1
  obtain ⟨ws, hw⟩ := hf
  have at_ : PySem.W.InstAt t.heap a oe D none := by
    obtain ⟨c1, c2, c3, c4⟩ := oe
    obtain ⟨k1, k2⟩ := hz
    simp only at k1 k2 hw
    subst k1 k2 hw
    exact ⟨gt, rfl, rfl, trivial⟩
  exact PySem.W.kia_one (PySem.W.handS_kitx_exc C.hg C.hk C.hs C.hd C.ha C.hn C.ht C.hm) J.kIn at_ kit (fun z => nomatch z) fun tk => ⟨.bl yes, G, J.kept (t' := tk) fun _ _ z => z, rfl, fin⟩
theorem se_isX {i : Nat} {a D : Addr} {b : Bool} {x : Str} {cE : Expr} {c : V} {cv : Value} {p p2 pos : Pos} (hc : CallR X (.builtin "isinstance") (rIsE X.K D a)) (pv0 : PE X (.Name x p) (tVar i)) (pc : PE X cE (tC c)) (hcv : ∀ u, RelV c u → u = cv) (hk : PySem.W.kitOne X.K (.ref D) cv = some b)
    (hg : Gl X "isinstance") (hm : X.mg "isinstance" = none) (h1 : starEach [.Name x p, cE] X.env = (false, eval (.Name x p) X.env) :: starEach [cE] X.env := by rfl) (h2 : starEach [cE] X.env = (false, eval cE X.env) :: starEach [] X.env := by rfl) (hpl : (backTo pos (starEach [cE] X.env)).any (·.1) = false := by rfl) :
    SE X B (.Call (.Name "isinstance" p2) [.Name x p, cE] [] pos) (isX a i b) := by
  refine pe_weak (pe_callB hc hg hm (by decide +kernel) (pa_cons pv0 (pa_cons pc pa_nil h2) h1) (by decide) (by decide) h1 hpl) fun σ H Q h => ?_
  obtain ⟨env, O, n, s, post⟩ := h
  obtain ⟨a', he, post⟩ := ex_post (P := fun r => Post B (pE B O) H r Q) (fun z => z) post
  by_cases ea : a' = a
  · subst ea
    simp only [if_true] at post
    obtain ⟨v, hσ, rfl⟩ := s.slot i _ he
    exact ⟨_, hσ, c, cv, b, rfl, hcv, hk, post _ H (Ext.refl _ _) s.town (.bl b)⟩
  · simp only [if_neg ea] at post
    exact post.elim
end
/-! ### a def that the suite calls -/
structure FnW (P : Program) (w : World) (K : PySem.W.Frag) (mg : Str → Option Value) (base : Heap) (k : Nat) (f : Addr) (fd : FuncData) (ps : List Str) (sp : Addr × Obj → Sp) : Prop where
  len : ∀ p vs H Q E, sp p vs H Q E → vs.length = ps.length
  run : ∀ (A : Around) (outer : List PySem.Env) (s : Shared) (H : Hp) (args : Args) (us : List Value) (vs : List V) (Q : VK) (E : XK) (p : Addr × Obj), L2H.RoomH k A → L2H.Hot1 A p → L2H.PinOk outer H s p → Env0 P w K mg base A outer s H →
    BindsTo s fd args (ps.zip us) → Vals vs us → sp p vs H Q E → codeAny (model P w) A (.call (.ref f) args) (CR (L2N.CX P w) outer P w H s Q E) s
section
variable {P : Program} {w : World} {K : PySem.W.Frag} {mg : Str → Option Value} {base : Heap}
theorem fnw_of {k : Nat} {f : Addr} {name qual : Str} {params : Arguments} {body : List Stmt} {scope : Scope} {dV kV doc pm cdv ct oc : Value} {an od : Option Addr} {osl : Array (Option Value)} {N ps : List Str} {sp : Addr × Obj → Sp}
    (lk : K.lookup f = some ⟨oc, od, .func (PySem.W.fnOf name qual params body scope dV kV doc pm an cdv ct), osl⟩) (hcd : PySem.W.codeIn K cdv qual = true) (S : FnScope N ps scope) (len : ∀ p vs H Q E, sp p vs H Q E → vs.length = ps.length)
    (hbody : ∀ (A : Around) (outer : List PySem.Env) (s : Shared) (H : Hp) (vs : List V) (Q : VK) (E : XK) (p : Addr × Obj), L2H.RoomH k (A.deeper (PyProof.Rows.envOfC qual scope s.heap.objs.size f cdv)) → sp p vs H Q E →
      ∃ t, PSs (L2H.cxH (L2N.CX P w) P w K mg base N qual scope f cdv A outer s H E p) body t ∧ t { nx := fun _ H' => Q .non H', rt := Q } (L2.start N vs) H) :
    FnW P w K mg base (k + 1) f (PySem.W.fnOf name qual params body scope dV kV doc pm an cdv ct) ps sp := by
  refine ⟨len, fun A outer s0 H args us vs Q E p room _hot pin env0 binds rel hsp => ?_⟩
  have keep0 : ∀ b o, base.get? b = some o → s0.heap.get? b = some o := fun b o e => (env0.bs b o e).1
  have kin : K.In s0.heap := env0.mod.kin.keeps keep0
  have kinds : ∀ y ∈ ps.zip us, scope.names.lookup y.1 = some .local ∨ (scope.names.lookup y.1 = some .cell ∧ ((cellsFrom (s0.heap.objs.size + 1) scope.names []).lookup y.1).isSome = true) := by
    rintro ⟨n1, v1⟩ hy
    have hn1 := (List.of_mem_zip hy).1
    exact (S.par n1 hn1).imp id fun q => ⟨q, PySem.W.cellsFrom_some _ _ _ (.inl q)⟩
  refine codeAny_call_function room.depth (kin _ _ lk) rfl S.co S.gen rfl (PySem.W.codeRec_of kin hcd) (binds _ _ _ _ (wpAny_newFunctionEnv_cells S.kind kinds ?_))
  rintro env1 rfl s1 x1
  refine ⟨(env0.mod.nolimit.keeps keep0).keeps x1.toInCall.keep, codeAny_func ?_⟩
  obtain ⟨t, ht, hq⟩ := hbody A outer s0 H vs Q E p (room.deeper _) hsp
  refine wpAny_mono (ht.run [] s1 (L2.start N vs) H _ (L2H.inv_startH S pin env0 (len _ _ _ _ _ hsp) rel x1) hq) (fun fl s2 done => ?_) fun _ _ z => z
  match fl, done with
  | .ret u, ⟨v, σ', H', J, rv, q⟩ => exact ⟨v, H', J.os, J.bare, J.base, J.hok, rv, q⟩
  | .next, ⟨σ', H', J, q⟩ => exact ⟨V.non, H', J.os, J.bare, J.base, J.hok, rfl, q⟩
  | .brk, ⟨_, _, _, q⟩ => exact q.elim
  | .cont, ⟨_, _, _, q⟩ => exact q.elim
end
section
variable {X : Cx} {k : Nat} {f : Addr} {fd : FuncData} {ps : List Str} {sp : Addr × Obj → Sp} {x : Str} {q pos : Pos} {e : Expr} {es : List Expr} {t : TA}
theorem pe_callW {p : Addr × Obj} (F : FnW X.prog X.w X.K X.mg X.base k f fd ps sp) (room : L2H.RoomH k X.A) (hot : L2H.Hot1 X.A p) (hp : p ∈ X.pn) (hg : Gl X x) (hm : X.mg x = some (.ref f)) (hk : PySem.W.keepIn X.K (.ref f) = true) (hb : Binds X.K fd ps [])
    (ha : PA X (e :: es) t) (hdb : (x == ("__debug__" : Str)) = false := by decide) (he : starEach (e :: es) X.env = (false, eval e X.env) :: starEach es X.env := by rfl) (hpl : (backTo pos (starEach es X.env)).any (·.1) = false := by rfl) :
    PE X (.Call (.Name x q) (e :: es) [] pos) (fun σ H Q => t σ H fun vs H1 => sp p vs H1 Q fun _ _ _ => False) := by
  refine ⟨fun pl s0 σ H Q J h => wpAny_Call_Name_kw (ld_glob J hg hm ?_ hdb)⟩
  refine PySem.W.callWith_K (h₀ := X.base) J.ok.mod.kin hk (thn (ha.run pos pl s0 σ H _ J h) ?_) he hpl
  rintro us s1 ⟨vs, H1, J1, rel, hsp⟩
  refine ⟨J1.kIn, ?_⟩
  have hlen : (us ++ []).length = ps.length := by rw [List.append_nil, ← rel.length]; exact F.len _ _ _ _ _ hsp
  have b1 := hb s1 us J1.kIn hlen
  rw [List.append_nil] at b1
  obtain ⟨p1, p2, p3, p4, p5⟩ := J1.pin p (List.mem_append_left _ hp)
  have pin : L2H.PinOk X.stack H1 s1 p := ⟨p1, p2, fun z => (List.mem_cons.mp (J1.stkSub p.1 z)).elim p3 p4, p5⟩
  refine wpAny_call (codeAny_mono (F.run X.A X.stack s1 H1 ⟨us, []⟩ us vs Q _ p room hot pin J1.env0 b1 rel hsp) fun res s2 got => ?_)
  match res, got with
  | .error e', z => obtain ⟨_, _, _, _, _, _, _, _, _, _, _, _, no⟩ := z; exact no.elim
  | .ok (.ret u), z => exact J1.after z
  | .ok .next, z => exact z.elim
  | .ok .brk, z => exact z.elim
  | .ok .cont, z => exact z.elim
end
/-! ### the clause -/
def spW (K : PySem.W.Frag) (cv : Nat → Value) (N : Nat) (g : Addr → Nat → Env → M Fl) : Addr × Obj → Sp := fun p vs H Q E => ∃ c, c < 12 ∧ L2N.Zn (cv c) none p.2 ∧ (∃ ws, p.2.data = .fields ws) ∧ SpF K cv 1 (runF N (g p.1 c)) vs H Q E
theorem fnw_sim {P : Program} {w : World} {K : PySem.W.Frag} {mg : Str → Option Value} {base : Heap} {cv : Nat → Value} {x qual : Str} {st : Stmt} {f : Addr} {fd : FuncData} {N : List Str} {k : Nat} {g : Addr → Nat → Env → M Fl} {sc : Scope} (F : Fun K x qual st f fd) (hsc : defScope st = sc) (S : FnScope N ["e"] sc)
    (hbody : ∀ (cdv : Value) (A : Around) (outer : List PySem.Env) (s : Shared) (H : Hp) (E : XK) (p : Addr × Obj) (c : Nat) (B : Bd), c < 12 → L2N.Zn (cv c) none p.2 → (∃ ws, p.2.data = .fields ws) → B.K = K → B.cv = cv → B.E = E → L2H.RoomH k (A.deeper (PyProof.Rows.envOfC qual sc s.heap.objs.size f cdv)) →
      SSs (L2H.cxH (L2N.CX P w) P w K mg base N qual sc f cdv A outer s H E p) B (defBody st) (g p.1 c)) : FnW P w K mg base (k + 1) f fd ["e"] (spW K cv N.length g) := by
  subst hsc
  obtain ⟨oc, od, kV, doc, pm, an, cdv, ct, osl, rfl, lk, hcd⟩ := F.ex
  refine fnw_of lk hcd S (fun p vs H Q E h => ?_) fun A outer s H vs Q E p hr hsp => ?_
  · obtain ⟨c, _, _, _, h⟩ := h; exact h.1
  · obtain ⟨c, hc, hz, hd, hl, T, O, n, as, dom, tw, tO, ha, post⟩ := hsp
    exact ⟨_, hbody cdv A outer s H E p c ⟨K, H, O, T, E, cv⟩ hc hz hd rfl rfl rfl hr, startE N.length as, O, n, start_sim dom tw tO ha, body_post post⟩
def refused (c : Nat) : D := .tuple [.str "refused", .int c]
def tryS (g : Env → M Fl) : Env → M Fl := fun env n => match g env n with
  | .exc c m => if c < 12 then .ok (.ret (refused c)) m else .bad
  | .ok a m => .ok a m
  | .bad => .bad
section
variable {X : Cx} {B : Bd}
/-- what the suite wants -/
def tWhich (X : Cx) (B : Bd) (i : Nat) : Addr → Value → Option Addr → TS := fun a cls d De σ H => σ.length = X.N.length → ∃ c n, c < 12 ∧ cls = B.cv c ∧ d = none ∧ σ[i]? = some (some (.ref a)) ∧ Ext B.T B.H0 H ∧ Town B.T H n ∧ ∀ v H', Ext B.T B.H0 H' → Town B.T H' n → Rep B.K H' B.O0 v (refused c) → De.rt v H'
theorem ss_try {x n wh : Str} {cW f : Addr} {fd : FuncData} {i k N : Nat} {body : List Stmt} {np pos pos' q p1 p2 p3 : Pos} {g : Env → M Fl} {gw : Addr → Nat → Env → M Fl} {Wout : WX} {cv : Nat → Value}
    (hs : X.stack = X.env :: X.outer) (hf : X.env.frame = some X.env.locals) (hN : X.N.Nodup) (hi : X.N[i]? = some n) (hln : X.env.kindOf n = some .local) (hc : Names X x (.ref cW)) (tk : L2N.Takes X Wout) (hO : ∀ a, B.O0 a → NF B.H0 a) (hT : (∀ a, B.T.has a → B.O0 a) ∧ B.T.Fit B.K B.cv) (hK : B.K = X.K) (hcv : B.cv = cv)
    (hex : ∀ c, c < 12 → PySem.W.exmOne X.K (cv c) (.ref cW) = some true) (F : FnW X.prog X.w X.K X.mg X.base k f fd ["e"] (spW X.K cv N gw)) (hgw : ∀ a c, c < 12 → runF N (gw a c) [.ex a] = ret (refused c)) (room : Room k X.A) (hg : Gl X wh) (hm : X.mg wh = some (.ref f)) (hk : PySem.W.keepIn X.K (.ref f) = true) (hb : Binds X.K fd ["e"] [])
    (pv0 : ∀ a pn, PE (X.suite a pn) (.Name n p1) (tVar i))
    (hbody : ∀ (W : WX) (pn : List (Addr × Obj)) (xe : Value → Shared → Prop) (B' : Bd), B'.K = X.K → B'.cv = cv → B'.E = (fun cls d H => ∀ σ, W cls d σ H) → L2N.Takes (X.tr pn xe) W → PassesOwn (model X.prog X.w) X.A X.env xe → SSs (X.tr pn xe) B' body g)
    (hdb : (wh == ("__debug__" : Str)) = false := by decide) (he : ∀ a pn, starEach [.Name n p1] (X.suite a pn).env = (false, eval (.Name n p1) (X.suite a pn).env) :: starEach [] (X.suite a pn).env := by intro _ _; rfl) (hpl : ∀ a pn, (backTo p2 (starEach [] (X.suite a pn).env)).any (·.1) = false := by intro _ _; rfl) :
    SS X B (.Try body [.ExceptHandler (some (.Name x np)) (some n) [.Return (some (.Call (.Name wh q) [.Name n p1] [] p2)) p3] pos'] [] [] pos) (tryS g) := by
  subst hcv
  refine ps_weak (L2N.ps_try_as (tb := fun W De σ H => tS { B with E := fun cls d H => ∀ σ, W cls d σ H } g De σ H) (ts := tWhich X B i) hs hf hN hi hln hc tk ?_ ?_) ?_
  · intro W pn xe tk' po
    exact hbody W pn xe _ hK rfl rfl tk' po
  · intro a oe cls d pn hz hd
    have hot : L2H.Hot1 (X.suite a ((a, oe) :: pn)).A (a, oe) := by
      obtain ⟨ws, hw⟩ := hd
      exact ⟨rfl, ws, hw, hz.2.2 ws hw⟩
    have call := pe_callW (X := X.suite a ((a, oe) :: pn)) (p := (a, oe)) (x := wh) (q := q) (pos := p2) F (L2H.roomH_of (k := k) ⟨room.hd, room.dp, room.un⟩ |> fun r => ⟨r.dp, r.un⟩) hot List.mem_cons_self hg hm hk hb (pa_cons (pv0 a _) pa_nil (he a _)) hdb (he a _) (hpl a _)
    refine ⟨fun pins s σ H De J h => ?_⟩
    refine (pss_one (ps_ret (pos := p3) call)).run pins s σ H De J ?_
    obtain ⟨c, m, c12, rfl, rfl, hσ, ex, tw, q⟩ := h J.len
    refine ⟨_, hσ, ?_⟩
    refine ⟨c, c12, hz, hd, rfl, B.T, B.O0, m, [.ex a], dom_ext ex tw hO, tw, hK ▸ hT, .cons rfl .nil, ?_⟩
    · rw [hgw a c c12]
      intro v H' ex' tw' r
      have r : Rep X.K H' B.O0 v (refused c) := r
      rw [← hK] at r
      exact q v H' (ex.trans ex') tw' r
  · rintro De σ H ⟨env, O, m, s, post⟩
    refine ⟨env, O, m, ⟨s.len, s.slot, s.sep, s.dom, s.town, s.tO, s.fr1, s.fr2, s.fr3, s.tK, s.tC⟩, ?_⟩
    have post : SPost B De O H (tryS g env m) := post
    unfold tryS at post
    cases r : g env m with
    | ok fl m' =>
      rw [r] at post
      cases fl with
      | next env' => exact fun σ' O' H' s' st => post σ' O' H' ⟨s'.len, s'.slot, s'.sep, s'.dom, s'.town, s'.tO, s'.fr1, s'.fr2, s'.fr3, s'.tK, s'.tC⟩ st
      | brk env' => exact fun σ' O' H' s' st => post σ' O' H' ⟨s'.len, s'.slot, s'.sep, s'.dom, s'.town, s'.tO, s'.fr1, s'.fr2, s'.fr3, s'.tK, s'.tC⟩ st
      | cont env' => exact fun σ' O' H' s' st => post σ' O' H' ⟨s'.len, s'.slot, s'.sep, s'.dom, s'.town, s'.tO, s'.fr1, s'.fr2, s'.fr3, s'.tK, s'.tC⟩ st
      | ret d => exact post
      | rn xs => exact post
    | exc c m' =>
      rw [r] at post
      by_cases c12 : c < 12
      · simp only [if_pos c12] at post
        intro H' ex tw σ'
        refine ⟨true, hex c c12, fun _ a ha hl => ?_, fun z => nomatch z⟩
        refine ⟨c, m', c12, rfl, rfl, ?_, ex, tw, post⟩
        rw [List.getElem?_set_self]
        rw [List.length_set] at hl
        rw [hl]
        exact (List.getElem?_eq_some_iff.mp hi).1
      · simp only [if_neg c12] at post
        exact post.elim
    | bad => rw [r] at post; exact post.elim
end
/-! ### the classes -/
structure Ex1 (K : PySem.W.Frag) (cW C : Addr) : Prop where
  f1 : PySem.W.findIn K (.ref C) "__getattribute__" = some (some (.builtin "BaseException.__getattribute__"))
  f2 : PySem.W.findIn K (.ref C) "__getattr__" = some none
  f3 : PySem.W.findIn K (.ref C) "__class__" = some (some (.builtin "object.__class__"))
  hd : PySem.W.hasDictIn K C = true
  ty : PySem.W.typeIn K (.ref C) = some (.type "type")
  cl : ∃ cd, PySem.W.clsIn K C = some cd ∧ cd.mro = [.ref C, .ref cW, .type "ValueError", .type "Exception", .type "BaseException", .type "object"]
theorem Ex1.mro {K : PySem.W.Frag} {cW C : Addr} (h : Ex1 K cW C) (b : Value) : PySem.W.subIn K (.ref C) b = some ([Value.ref C, .ref cW, .type "ValueError", .type "Exception", .type "BaseException", .type "object"].contains b) := by
  obtain ⟨cd, e, m⟩ := h.cl
  show PySem.W.mroIn K C b = _
  unfold PySem.W.mroIn
  rw [e]
  show (if cd.mro.isEmpty then none else some (cd.mro.contains b)) = _
  rw [m]; rfl
theorem contains_mem {b : Value} {l : List Value} (h : b ∈ l) : l.contains b = true := by simpa using h
theorem contains_not {b : Value} {l : List Value} (h : b ∉ l) : l.contains b = false := by simpa using h
structure ExcT (K : PySem.W.Frag) (cl : Nat → Addr) (cW : Addr) : Prop where
  ec : ∀ c, c < 12 → ExcC K (cl c)
  kit : ∀ c j, c < 12 → j < 12 → PySem.W.kitOne K (.ref (cl c)) (.ref (cl j)) = some (decide (c = j))
  ve : ∀ c, c < 12 → PySem.W.kitOne K (.ref (cl c)) (.type "ValueError") = some true
  ex : ∀ c, c < 12 → PySem.W.exmOne K (.ref (cl c)) (.ref cW) = some true
theorem exct_mk {K : PySem.W.Frag} {cl : Nat → Addr} {cW : Addr} (h : ∀ c, c < 12 → Ex1 K cW (cl c)) (inj : ∀ c j, c < 12 → j < 12 → cl c = cl j → c = j) (nW : ∀ c, c < 12 → cl c ≠ cW) (hn : PySem.W.specialIn K (.builtin "object.__class__") "__get__" = some (some (.builtin "getset_descriptor.__get__"))) (ht : PySem.W.takesIn K (.builtin "object.__class__") = some true)
    (sW : PySem.W.subIn K (.ref cW) (.type "BaseException") = some true) (dW : PySem.W.hasDictIn K cW = true) (tW : PySem.W.typeIn K (.ref cW) = some (.type "type")) : ExcT K cl cW := by
  refine ⟨fun c hc => ?_, fun c j hc hj => ?_, fun c hc => ?_, fun c hc => ?_⟩
  · have q := h c hc
    refine ⟨q.f1, q.f2, ?_, q.hd, q.f3, hn, ht, ?_⟩
    · rw [q.mro]; exact congrArg some (contains_mem (by simp))
    · have := q.mro (.type "object")
      rw [contains_mem (by simp)] at this
      exact this
  · unfold PySem.W.kitOne
    by_cases e : c = j
    · subst e
      rw [if_pos (beq_self_eq_true _), decide_eq_true rfl]
    · have ne : cl c ≠ cl j := fun z => e (inj c j hc hj z)
      rw [if_neg (by simpa using ne), decide_eq_false e]
      obtain ⟨cd, e1, _⟩ := (h j hj).cl
      show (if ((PySem.W.clsIn K (cl j)).isSome && PySem.W.typeIn K (.ref (cl j)) == some (.type "type")) = true then PySem.W.subIn K (.ref (cl c)) (.ref (cl j)) else none) = _
      rw [e1, (h j hj).ty, if_pos (by simp), (h c hc).mro]
      refine congrArg some (contains_not ?_)
      simp only [List.mem_cons, List.not_mem_nil, or_false, not_or, Value.ref.injEq, reduceCtorEq, not_false_eq_true, and_true]
      exact ⟨fun z => ne z.symm, nW j hj⟩
  · unfold PySem.W.kitOne
    rw [if_neg (by simp)]
    show (if PySem.W.kitMeta "ValueError" = true then PySem.W.subIn K (.ref (cl c)) (.type "ValueError") else none) = _
    rw [if_pos (by decide +kernel), (h c hc).mro]
    exact congrArg some (contains_mem (by simp))
  · refine PySem.W.exm_ref sW dW tW ?_
    rw [(h c hc).mro]
    exact congrArg some (contains_mem (by simp))
theorem exct_dflt {K : PySem.W.Frag} {l : List Addr} {cW z : Addr} (et : ExcT K (fun c => l.getD c 0) cW) (h : ∀ c, c < 12 → c < l.length) : ExcT K (fun c => l.getD c z) cW := by
  have e : ∀ c, c < 12 → l.getD c z = l.getD c 0 := fun c hc => by rw [List.getD_eq_getElem?_getD, List.getD_eq_getElem?_getD, List.getElem?_eq_getElem (h c hc)]; rfl
  refine ⟨fun c hc => ?_, fun c j hc hj => ?_, fun c hc => ?_, fun c hc => ?_⟩
  · show ExcC K (l.getD c z); rw [e c hc]; exact et.ec c hc
  · show PySem.W.kitOne K (.ref (l.getD c z)) (.ref (l.getD j z)) = _; rw [e c hc, e j hj]; exact et.kit c j hc hj
  · show PySem.W.kitOne K (.ref (l.getD c z)) _ = _; rw [e c hc]; exact et.ve c hc
  · show PySem.W.exmOne K (.ref (l.getD c z)) _ = _; rw [e c hc]; exact et.ex c hc
def apart12 (cs : List Addr) (cW : Addr) : Bool := (List.range 12).all fun i => !(cs.getD i 0 == cW) && (List.range 12).all fun j => (cs.getD i 0 == cs.getD j 0) == (i == j)
theorem ex1_use {K : PySem.W.Frag} {mg : Str → Option Value} {R : Prop} {x : Str} {C cW : Addr} {cd : ClassData} (_ : mg x = some (.ref C)) (_ : mg "WireError" = some (.ref cW)) (ty : PySem.W.typeIn K (.ref C) = some (.type "type")) (f1 : PySem.W.findIn K (.ref C) "__getattribute__" = some (some (.builtin "BaseException.__getattribute__"))) (f2 : PySem.W.findIn K (.ref C) "__getattr__" = some none)
    (f3 : PySem.W.findIn K (.ref C) "__class__" = some (some (.builtin "object.__class__"))) (hd : PySem.W.hasDictIn K C = true) (e : PySem.W.clsIn K C = some cd) (m : cd.mro = [.ref C, .ref cW, .type "ValueError", .type "Exception", .type "BaseException", .type "object"]) (n : Ex1 K cW C → R) : R := n ⟨f1, f2, f3, hd, ty, cd, e, m⟩
theorem wire_use {K : PySem.W.Frag} {mg : Str → Option Value} {h : Heap} {R : Prop} {cW : Addr} (X : K.In h) (G : h.Ns mainGlobals mg) (a : PySem.W.nsIn K mainGlobals "WireError" = some (some (.ref cW))) (hn : PySem.W.specialIn K (.builtin "object.__class__") "__get__" = some (some (.builtin "getset_descriptor.__get__"))) (ht : PySem.W.takesIn K (.builtin "object.__class__") = some true)
    (sW : PySem.W.subIn K (.ref cW) (.type "BaseException") = some true) (dW : PySem.W.hasDictIn K cW = true) (tW : PySem.W.typeIn K (.ref cW) = some (.type "type"))
    (n : mg "WireError" = some (.ref cW) → PySem.W.specialIn K (.builtin "object.__class__") "__get__" = some (some (.builtin "getset_descriptor.__get__")) → PySem.W.takesIn K (.builtin "object.__class__") = some true → PySem.W.subIn K (.ref cW) (.type "BaseException") = some true → PySem.W.hasDictIn K cW = true → PySem.W.typeIn K (.ref cW) = some (.type "type") → R) : R := n (PySem.W.mg_of X G a) hn ht sW dW tW
theorem excs_all {K : PySem.W.Frag} {C0 C1 C2 C3 C4 C5 C6 C7 C8 C9 C10 C11 cW : Addr} (h0 : Ex1 K cW C0) (h1 : Ex1 K cW C1) (h2 : Ex1 K cW C2) (h3 : Ex1 K cW C3) (h4 : Ex1 K cW C4) (h5 : Ex1 K cW C5) (h6 : Ex1 K cW C6) (h7 : Ex1 K cW C7) (h8 : Ex1 K cW C8) (h9 : Ex1 K cW C9) (h10 : Ex1 K cW C10) (h11 : Ex1 K cW C11)
    (ap : apart12 [C0, C1, C2, C3, C4, C5, C6, C7, C8, C9, C10, C11] cW = true) (hn : PySem.W.specialIn K (.builtin "object.__class__") "__get__" = some (some (.builtin "getset_descriptor.__get__"))) (ht : PySem.W.takesIn K (.builtin "object.__class__") = some true) (sW : PySem.W.subIn K (.ref cW) (.type "BaseException") = some true) (dW : PySem.W.hasDictIn K cW = true) (tW : PySem.W.typeIn K (.ref cW) = some (.type "type")) : ExcT K (fun c => [C0, C1, C2, C3, C4, C5, C6, C7, C8, C9, C10, C11].getD c 0) cW := by
  unfold apart12 at ap
  simp only [List.all_eq_true, List.mem_range, Bool.and_eq_true, Bool.not_eq_true', beq_eq_false_iff_ne, beq_iff_eq] at ap
  refine exct_mk (fun c hc => ?_) (fun c j hc hj e => ?_) (fun c hc => (ap c hc).1) hn ht sW dW tW
  · match c, hc with
    | 0, _ => exact h0
    | 1, _ => exact h1
    | 2, _ => exact h2
    | 3, _ => exact h3
    | 4, _ => exact h4
    | 5, _ => exact h5
    | 6, _ => exact h6
    | 7, _ => exact h7
    | 8, _ => exact h8
    | 9, _ => exact h9
    | 10, _ => exact h10
    | 11, _ => exact h11
  · have q := (ap c hc).2 j hj
    rw [show ([C0, C1, C2, C3, C4, C5, C6, C7, C8, C9, C10, C11].getD c 0 == [C0, C1, C2, C3, C4, C5, C6, C7, C8, C9, C10, C11].getD j 0) = true from beq_iff_eq.mpr e] at q
    exact beq_iff_eq.mp q.symm
theorem exc_usec {K : PySem.W.Frag} {mg : Str → Option Value} {h : Heap} {R : Prop} {x : Str} {C : Addr} (X : K.In h) (G : h.Ns mainGlobals mg) (a : PySem.W.nsIn K mainGlobals x = some (some (.ref C))) (q : PySem.W.excIn K C [.type "ValueError", .type "Exception", .type "BaseException", .type "object"] "ValueError.__new__" = true) (k : PySem.W.keepIn K (.ref C) = true) (s : PySem.W.subIn K (.ref C) (.type "BaseException") = some true) (t : PySem.W.typeIn K (.ref C) = some (.type "type"))
    (n : mg x = some (.ref C) → PySem.W.excIn K C [.type "ValueError", .type "Exception", .type "BaseException", .type "object"] "ValueError.__new__" = true → PySem.W.keepIn K (.ref C) = true → PySem.W.subIn K (.ref C) (.type "BaseException") = some true → PySem.W.typeIn K (.ref C) = some (.type "type") → R) : R := n (PySem.W.mg_of X G a) q k s t
theorem _root_.L2H.RoomH.units {k : Nat} {A : Around} (r : L2H.RoomH k A) : A.units + 64 < cLine := by have := r.un; omega
/-! ### a def with the clause -/
theorem fn_simT {P : Program} {w : World} {K : PySem.W.Frag} {mg : Str → Option Value} {base : Heap} {cv : Nat → Value} {x qual : Str} {st : Stmt} {f : Addr} {fd : FuncData} {N ps : List Str} {k : Nat} {g : Env → M Fl} {sc : Scope} (F : Fun K x qual st f fd) (hsc : defScope st = sc) (S : FnScope N ps sc)
    (hbody : ∀ (cdv : Value) (A : Around) (outer : List PySem.Env) (s : Shared) (H : Hp) (E : XK) (B : Bd), B.K = K → B.cv = cv → B.E = E → (∀ a, B.O0 a → NF B.H0 a) → ((∀ a, B.T.has a → B.O0 a) ∧ B.T.Fit B.K B.cv) → Room k (A.deeper (PyProof.Rows.envOfC qual sc s.heap.objs.size f cdv)) →
      SSs (cxOf (L2N.CX P w) P w K mg base N qual sc f cdv A outer s H E) B (defBody st) g) : FnOk P w K mg base (L2N.CX P w) (k + 1) f fd ps (SpF K cv ps.length (runF N.length g)) := by
  subst hsc
  obtain ⟨oc, od, kV, doc, pm, an, cdv, ct, osl, rfl, lk, hcd⟩ := F.ex
  refine fn_of lk hcd S (fun vs H Q E h => h.1) fun A outer s H vs Q E hr hsp => ?_
  obtain ⟨hl, T, O, n, as, dom, tw, tO, ha, post⟩ := hsp
  refine ⟨_, hbody cdv A outer s H E ⟨K, H, O, T, E, cv⟩ rfl rfl rfl dom tO hr, startE N.length as, O, n, start_sim dom tw tO ha, body_post post⟩
/-! ### [f, g][i](..) -/
def tabE (np : Nat) (Fs : List (List SV → M D)) (fi : Env → M D) (fs : Env → M (List SV)) : Env → M D := fun env => seq (fi env) fun d => seq (intM d) fun i => seq (lift (atI Fs i)) fun F => callF np F fs env
inductive Tab (P : Program) (w : World) (K : PySem.W.Frag) (mg : Str → Option Value) (base : Heap) (k np : Nat) (cv : Nat → Value) : List Addr → List (List SV → M D) → Prop
  | nil : Tab P w K mg base k np cv [] []
  | cons {f : Addr} {F : List SV → M D} {fd : FuncData} {ps : List Str} {as : List Addr} {Fs : List (List SV → M D)} {j : Nat} : FnOk P w K mg base (L2N.CX P w) j f fd ps (SpF K cv np F) → j ≤ k → PySem.W.keepIn K (.ref f) = true → Binds K fd ps [] → Tab P w K mg base k np cv as Fs → Tab P w K mg base k np cv (f :: as) (F :: Fs)
theorem Tab.len {P : Program} {w : World} {K : PySem.W.Frag} {mg : Str → Option Value} {base : Heap} {k np : Nat} {cv : Nat → Value} {as : List Addr} {Fs : List (List SV → M D)} (t : Tab P w K mg base k np cv as Fs) : as.length = Fs.length := by
  induction t with
  | nil => rfl
  | cons _ _ _ _ _ ih => simp [ih]
theorem Tab.at {P : Program} {w : World} {K : PySem.W.Frag} {mg : Str → Option Value} {base : Heap} {k np : Nat} {cv : Nat → Value} {as : List Addr} {Fs : List (List SV → M D)} (t : Tab P w K mg base k np cv as Fs) : ∀ {i : Nat} {F : List SV → M D}, Fs[i]? = some F →
    ∃ f fd ps, as[i]? = some f ∧ FnOk P w K mg base (L2N.CX P w) k f fd ps (SpF K cv np F) ∧ PySem.W.keepIn K (.ref f) = true ∧ Binds K fd ps [] := by
  induction t with
  | nil => intro i F h; simp at h
  | cons ok le kp bd _ ih =>
    intro i F h
    cases i with
    | zero => simp at h; subst h; exact ⟨_, _, _, rfl, ok.mono le, kp, bd⟩
    | succ i => simpa using ih (by simpa using h)
theorem se_tab {X : Cx} {B : Bd} {np k : Nat} {Fs : List (List SV → M D)} {as : List Addr} {elts : List Expr} {ie e : Expr} {es : List Expr} {fi : Env → M D} {fs : Env → M (List SV)} {lp sp pos : Pos} {E : XK} {cv : Nat → Value} (hK : B.K = X.K) (hcv : B.cv = cv) (hE : B.E = E) (t : Tab X.prog X.w X.K X.mg X.base k np cv as Fs) (hr : Room k X.A) (hx : Passes (L2N.CX X.prog X.w) X E)
    (hn : PA X elts (fun _ H Q => Q (as.map V.ref) H)) (hi : SE X B ie fi) (hs : PlainIx ie) (ha : SA X B (e :: es) fs) (hlen : as.length ≤ sizeLine)
    (ht : eval (.Call (.Subscript (.List elts lp) ie sp) (e :: es) [] pos) X.env = (do callWith pos (← eval (.Subscript (.List elts lp) ie sp) X.env) [] (backTo pos (starEach (e :: es) X.env)) (backToKw pos (keywordEach [] X.env))) := by rfl)
    (he : starEach (e :: es) X.env = (false, eval e X.env) :: starEach es X.env := by rfl) (hpl : (backTo pos (starEach es X.env)).any (·.1) = false := by rfl) :
    SE X B (.Call (.Subscript (.List elts lp) ie sp) (e :: es) [] pos) (tabE np Fs fi fs) := by
  subst hE hcv
  refine ⟨fun pins s0 σ H Q J h => ?_⟩
  rw [ht]
  obtain ⟨env, O, n, s, post⟩ := h
  have sub := pe_ix (pos := sp) ix_list (pe_lst (pos := lp) hn) hi hs
  refine wpAny_bind (thn (sub.run pins s0 σ H (fun v H2 => ∃ f fd ps F n2, v = .ref f ∧ FnOk X.prog X.w X.K X.mg X.base (L2N.CX X.prog X.w) k f fd ps (SpF X.K B.cv np F) ∧ PySem.W.keepIn X.K (.ref f) = true ∧ Binds X.K fd ps [] ∧ Sim B env O n2 σ H2 ∧ Ext B.T H H2 ∧ Post B (pE B O) H2 (callF np F fs env n2) Q) J ?_) ?_)
  · refine ⟨by rw [List.length_map]; exact hlen, fun p hp => ?_⟩
    have s1 : Sim B env O n σ (upd H p (.lst (as.map V.ref))) := s.ext (same_ext (same_new hp)) (same_town (same_new hp) s.town)
    have npT : ¬ B.T.has p := s.town.cold hp
    refine tG_seq1 (P := pE B) (g := fun env d => seq (intM d) fun i => seq (lift (atI Fs i)) fun F => callF np F fs env) lat_E s1 (post.later (same_ext (same_new hp)) fun _ _ _ z => z) fun x vx n1 H1 s2 e1 p1 q1 => ?_
    cases p1 with
    | int i =>
      have q1 : Post B (pE B O) H1 (seq (lift (atI Fs i)) (fun F => callF np F fs env) n1) Q := q1
      cases hat : atI Fs i with
      | none => rw [hat] at q1; exact q1.elim
      | some F =>
        rw [hat] at q1
        have q1 : Post B (pE B O) H1 (callF np F fs env n1) Q := q1
        have hp1 : H1 p = some (.lst (as.map V.ref)) := e1 p _ npT upd_same
        have atf : ∃ f fd ps, atI as i = some f ∧ FnOk X.prog X.w X.K X.mg X.base (L2N.CX X.prog X.w) k f fd ps (SpF X.K B.cv np F) ∧ PySem.W.keepIn X.K (.ref f) = true ∧ Binds X.K fd ps [] := by
          unfold atI at hat ⊢
          rw [t.len]
          cases q : ixN Fs.length i with
          | none => rw [q] at hat; cases hat
          | some j => rw [q] at hat; exact t.at hat
        obtain ⟨f, fd, ps, hf, ok, kp, bd⟩ := atf
        refine ⟨p, as.map V.ref, i, .ref f, rfl, rfl, .inl (.inl hp1), ?_, f, fd, ps, F, n1, rfl, ok, kp, bd, s2, (same_ext (same_new hp)).trans e1, q1⟩
        unfold atI at hf ⊢
        rw [List.length_map]
        cases q : ixN as.length i with
        | none => rw [q] at hf; cases hf
        | some j =>
          rw [q] at hf
          have hf : as[j]? = some f := hf
          show (as.map V.ref)[j]? = some (V.ref f)
          rw [List.getElem?_map, hf]; rfl
    | _ => exact q1.elim
  · rintro u s1 ⟨v, H2, J1, rv, f, fd, ps, F, n2, rfl, ok, kp, bd, s2, _, post2⟩
    cases (show u = Value.ref f from rv)
    have run2 := callF_run (B := B) (np := np) (F := F) (fs := fs) (σ := σ) (H := H2) (Q := Q) ⟨env, O, n2, s2, post2⟩
    refine PySem.W.callWith_K (h₀ := X.base) J1.ok.mod.kin kp (thn (ha.run pos pins s1 σ H2 _ J1 run2) ?_) he hpl
    rintro us s3 ⟨vs, H3, J3, rel, hsp⟩
    refine ⟨J3.kIn, run_fn ok hr bd .nil hx J3 rel ?_⟩
    rw [List.append_nil, ← hK]
    exact hsp
/-! ### a call that is not followed further -/
def stopE (fs : Env → M (List D)) : Env → M D := fun env => seq (fs env) fun _ => fault
section
variable {X : Cx} {B : Bd} {e : Expr} {es : List Expr} {pos : Pos}
theorem stop_run {fs : Env → M (List D)} {σ : L2.St} {H : Hp} {Q : VK} (h : tG B (pE B) (stopE fs) σ H Q) : tG B (pBs B) fs σ H fun _ _ => False := by
  obtain ⟨env, O, n, s, post⟩ := h
  exact tG_seq1 (P := pBs B) (g := fun _ _ => (fault : M D)) lat_E s post fun x vx n1 H1 s1 e1 p1 q1 => q1
theorem se_stopB {id : String} {x : Str} {p : Pos} {fs : Env → M (List D)} (hg : Gl X x) (hm : X.mg x = none) (hv : bootBuiltins x = some (.builtin id)) (ha : SBs X B (e :: es) fs) (hn : x ≠ "__name__" := by decide) (hdb : (x == ("__debug__" : Str)) = false := by decide)
    (he : starEach (e :: es) X.env = (false, eval e X.env) :: starEach es X.env := by rfl) (hpl : (backTo pos (starEach es X.env)).any (·.1) = false := by rfl) : SE X B (.Call (.Name x p) (e :: es) [] pos) (stopE fs) :=
  pe_weak (pe_callB (r := fun _ _ _ => False) (fun _ _ _ _ _ _ _ _ _ z => z.elim) hg hm hv ha hn hdb he hpl) fun _ _ _ h => stop_run h
theorem se_stopTy {T : String} {x : Str} {p : Pos} {fs : Env → M (List D)} (hg : Gl X x) (hm : X.mg x = none) (hv : bootBuiltins x = some (.type T)) (ha : SBs X B (e :: es) fs) (hn : x ≠ "__name__" := by decide) (hdb : (x == ("__debug__" : Str)) = false := by decide)
    (he : starEach (e :: es) X.env = (false, eval e X.env) :: starEach es X.env := by rfl) (hpl : (backTo pos (starEach es X.env)).any (·.1) = false := by rfl) : SE X B (.Call (.Name x p) (e :: es) [] pos) (stopE fs) :=
  pe_weak (pe_callTy (r := fun _ _ _ => False) (fun _ _ _ _ _ _ _ _ _ z => z.elim) hg hm hv ha hn hdb he hpl) fun _ _ _ h => stop_run h
end
end Sim

namespace Sim
open PySem L2

/-! ### sorted -/
def tupConsB : D → Bool
  | .tuple (_ :: _) => true
  | _ => false
def atomB : D → Bool
  | .none => false
  | .tuple _ => false
  | _ => true
def sortOkB (xs : List D) : Bool := (xs.all fun x => xs.all fun y => PySem.W.alike x y) && (xs.all tupConsB || xs.all atomB) && decide (xs.length ≤ big) && xs.all fun x => decide (x.depth ≤ 50)
def sortL (xs : List D) : List D := xs.mergeSort (PySem.W.dataLe false fun d : D => d)
def sortedD : List D → Option D
  | [.list xs] => if sortOkB xs = true then some (.list (sortL xs)) else none
  | _ => none
section
variable {X : Cx} {B : Bd} {H : Hp} {O : OS}
theorem each_of {pins : List (Addr × Obj)} {σ : L2.St} {s : Shared} (hK : B.K = X.K) (I : Inv X pins σ H s) : ∀ {ys : List V} {its : List Value} {xs : List D}, Vals ys its → Reps B.K H O ys xs →
    PySem.W.EachIs (fun v d => (∃ x, RelV x v ∧ Rep B.K H O x d) ∧ ∃ as, Reads s.heap v d as) its xs
  | _, _, _, .nil, .nil => .nil
  | _, _, _, .cons r rv, .cons p ps => by
    refine .cons ⟨⟨_, r, p⟩, ?_⟩ (each_of hK I rv ps)
    have dp := Rep.dp _ _ p
    rw [hK] at dp
    exact Dp.reads I _ _ _ dp r
theorem each_back {K : PySem.W.Frag} : ∀ {out : List Value} {xs : List D}, PySem.W.EachIs (fun v d => ∃ x, RelV x v ∧ Rep K H O x d) out xs → ∃ ys, Vals ys out ∧ Reps K H O ys xs
  | _, _, .nil => ⟨[], .nil, .nil⟩
  | _, _, .cons h t => by
    obtain ⟨x, r, p⟩ := h
    obtain ⟨ys, rv, ps⟩ := each_back t
    exact ⟨x :: ys, .cons r rv, .cons p ps⟩
theorem calld_sorted (hK : B.K = X.K) (hu : X.A.units + 64 < cLine) : CallD X B (.builtin "sorted") sortedD := by
  intro pins s σ H vs us Q I r h
  obtain ⟨O, ds, z, dom, hv, hz, q⟩ := h
  unfold sortedD at hz
  split at hz
  · rename_i xs
    split at hz
    · rename_i hok
      cases hz
      unfold sortOkB at hok
      simp only [Bool.and_eq_true, Bool.or_eq_true, decide_eq_true_eq, List.all_eq_true] at hok
      obtain ⟨⟨⟨o1, o2⟩, o3⟩, o4⟩ := hok
      obtain ⟨v, rfl, h1⟩ := hv.one
      obtain ⟨a, ys, rfl, ra, rxs⟩ := h1.list
      obtain ⟨its, rv, hl, hzl⟩ := I.list (.inl ra)
      rw [Vals.ref1 r]
      have he := each_of (O := O) hK I rv rxs
      refine PySem.W.sorted_data (enc := fun d : D => d) (R := fun v d => ∃ x, RelV x v ∧ Rep B.K H O x d) hl.isList (he.mono fun _ _ h => h.1) (he.mono fun _ _ h => h.2) ?_ ?_ (Nat.le_trans o3 big_line) (fun b hb => ?_) fun out hlen hout => ?_
      · rw [List.map_id']
        exact fun d hd d' hd' => o1 d hd d' hd'
      · rw [List.map_id']
        rcases o2 with o2 | o2
        · left
          intro d hd
          have h1 := o2 d hd
          unfold tupConsB at h1
          split at h1
          · exact ⟨_, _, rfl⟩
          · cases h1
        · right
          intro d hd
          have h1 := o2 d hd
          refine ⟨fun z => ?_, fun xs z => ?_⟩
          · subst z; cases h1
          · subst z; cases h1
      · have := o4 b hb
        omega
      · obtain ⟨ys', rv', rp'⟩ := each_back hout
        obtain ⟨ep, he'⟩ := PyProof.Rows.sortedAll_at s.heap its (List.toArray out)
        have hlen' : ys'.length ≤ sizeLine := by rw [rv'.length, hlen]; exact Nat.le_trans o3 big_line
        have hf : H (s.heap.objs.size + 1) = none := I.hok.fresh (Nat.le_succ _)
        exact ⟨.ref _, upd H (s.heap.objs.size + 1) (.lst ys'), I.laid (t' := s.toks) (fun _ _ => PyProof.Rows.sortedAll_old) (Nat.le_succ _) ⟨hlen', out, ep, rv', he'⟩, rfl, q _ _ (same_new hf) (rep_newL dom hf rp')⟩
    · cases hz
  · cases hz
/-! ### is True -/
def isTD (k : Bool) : D → Bool
  | .bool b => b == k
  | _ => false
def isTE (k : Bool) (fa : Env → M D) : Env → M D := fun env => seq (fa env) fun x => ret (.bool (isTD k x))
theorem rel_bool {x : V} {v : Value} (k : Bool) (r : RelV x v) : plainIs v (.bool k) = true ∧ (v == Value.bool k) = decide (x = .bl k) := by
  cases x with
  | non => cases r; exact ⟨rfl, by simp⟩
  | bl b => cases r; exact ⟨rfl, by cases b <;> cases k <;> rfl⟩
  | int _ => obtain ⟨t, rfl⟩ := r; exact ⟨rfl, by simp⟩
  | str _ => obtain ⟨t, rfl⟩ := r; exact ⟨rfl, by simp⟩
  | byt _ => obtain ⟨t, rfl⟩ := r; exact ⟨rfl, by simp⟩
  | flt _ => obtain ⟨t, rfl⟩ := r; exact ⟨rfl, by simp⟩
  | ref _ => cases r; exact ⟨rfl, by simp⟩
  | ty _ => cases r; exact ⟨rfl, by simp⟩
theorem rep_bool {K : PySem.W.Frag} {v : V} {d : D} (k : Bool) (h : Rep K H O v d) : decide (v = .bl k) = isTD k d := by
  cases h with
  | bl b => cases b <;> cases k <;> rfl
  | _ => simp [isTD]
theorem pc_isT {a : Expr} {ta : TE} {k : Bool} {j pos'} (ha : PE X a ta) : PC X .Is a (.Constant (.bool k) j pos') (fun σ H Q => ta σ H fun x H1 => Q (.bl (decide (x = .bl k))) H1) := by
  refine ⟨fun pins s σ H Q I h => ?_⟩
  refine thn (ha.run pins s σ H _ I h) fun v s1 ⟨x, H1, I1, r1, q1⟩ => ?_
  have hb := rel_bool k r1
  exact PyProof.Rows.Constant_bool (wpAny_is_plain hb.1 ⟨.bl _, H1, I1, by rw [hb.2]; rfl, q1⟩)
theorem isTE_run {fa : Env → M D} {k : Bool} {σ : L2.St} {H : Hp} {Q : VK} (h : tG B (pE B) (isTE k fa) σ H Q) : tG B (pE B) fa σ H fun x H1 => Q (.bl (decide (x = .bl k))) H1 := by
  obtain ⟨env, O, n, s, post⟩ := h
  refine tG_seq1 (g := fun env x => ret (PyData.bool (isTD k x))) lat_E s post fun x vx n1 H1 s1 e1 p1 q1 => ?_
  rw [rep_bool k p1]
  exact q1 _ H1 (Ext.refl _ _) s1.town (.bl _)
theorem se_isT {a : Expr} {fa : Env → M D} {k : Bool} {j : Nat} {p pos : Pos} (ha : SE X B a fa) : SE X B (.Compare a [.Is] [.Constant (.bool k) j p] pos) (isTE k fa) := pe_weak (pe_cmp (pc_isT ha)) fun _ _ _ h => isTE_run h
theorem st_isT {a : Expr} {fa : Env → M D} {k : Bool} {j : Nat} {p pos : Pos} (ha : SE X B a fa) : ST X B (.Compare a [.Is] [.Constant (.bool k) j p] pos) (testE (isTE k fa)) := pt_weak (pt_cmp (pc_isT ha)) fun σ H Q h => isTE_run (Q := fun x H' => ∃ k, x = .bl k ∧ Q k H') (testE_run h)
/-! ### text[lo:hi:step] -/
def stepS (z : Str) (lo hi : Option Int) (k : Int) : Str := if ((k == 1 && (Builtin.Str.strSliceIndices lo hi k z.length).length == z.length) = true) then z else ⟨((Builtin.Str.strSliceIndices lo hi k z.length).filterMap (z.cps[·]?)).toArray⟩
theorem stepS_le (z : Str) (lo hi : Option Int) {k : Int} (h0 : k ≠ 0) : (stepS z lo hi k).length ≤ z.length := by
  unfold stepS
  split
  · exact Nat.le_refl _
  · show (List.filterMap _ _).toArray.size ≤ z.length
    rw [List.size_toArray]
    exact Nat.le_trans (List.length_filterMap_le _ _) (sliceIndicesBy_le lo hi k h0 z.length)
theorem pe_sliceK {e : Expr} {te : TE} {lo hi st : Option Expr} {tl th ts : TO} {pos p2 : Pos} (he : PE X e te) (hl : PO X lo tl) (hu : PO X hi th) (hst : PO X st ts)
    (hops : ∀ (z : Str) (t : Tok) (q : Value), subscripted (.Slice lo hi st p2) false (.str z t) q = operate [.str z t, q] (getItem (.str z t) q) := by intro _ _ _; with_unfolding_all rfl) (hgo : ∀ (z : Str) (t : Tok) (r : Value), letTemporaryGo e (.str z t) r = pure () := by intro _ _ _; with_unfolding_all rfl) :
    PE X (.Subscript e (.Slice lo hi st p2) pos) (fun σ H Q => te σ H fun x H1 => tl σ H1 fun l H2 => th σ H2 fun u H3 => ts σ H3 fun k H4 => ∃ z j, x = .str z ∧ k = some j ∧ j ≠ 0 ∧ z.length ≤ sizeLine ∧ Q (.str (stepS z l u j)) H4) := by
  constructor
  intro pins s0 σ H Q I h
  apply PyProof.Rows.Subscript_
  refine thn (he.run pins s0 σ H _ I h) ?_
  rintro v sA ⟨x, HA, IA, rA, qA⟩
  apply wpAny_Slice
  refine thn (hl.run pins sA σ HA _ IA qA) ?_
  rintro vl sB ⟨l, HB, IB, pB, qB⟩
  refine thn (hu.run pins sB σ HB _ IB qB) ?_
  rintro vu sC ⟨u, HC, IC, pC, qC⟩
  refine thn (hst.run pins sC σ HC _ IC qC) ?_
  rintro vk sD ⟨k, HD, ID, pD, qD⟩
  obtain ⟨z, j, rfl, rfl, h0, hz, q⟩ := qD
  obtain ⟨t, rfl⟩ := rA
  obtain ⟨l', rfl, rfl⟩ := IsPart.raw pB
  obtain ⟨u', rfl, rfl⟩ := IsPart.raw pC
  obtain ⟨k', rfl, hk'⟩ := IsPart.raw pD
  cases k' with
  | none => cases hk'
  | some kk =>
    obtain ⟨j', tk⟩ := kk
    have hj : j = j' := (Option.some.inj hk').symm
    subst hj
    have J : L2.Inv X pins σ HD { sD with heap := sD.heap.push { cls := .type "slice", data := .fields #[partValue l', partValue u', partValue (some (j, tk))] } } := ID.kept (t' := sD.toks) fun b ob g => Heap.get?_push_of_some _ g
    have hle : (stepS z (l'.map (·.1)) (u'.map (·.1)) j).length ≤ sizeLine := Nat.le_trans (stepS_le z _ _ h0) hz
    refine PyProof.Rows.tail_of_ItemOn ⟨"str", _, F.slot_str_getitem.lookup, typeIs_str _ _ _, wpAny_getItem_str_slice (l := l') (u := u') (st := some (j, tk)) ⟨_, Heap.get?_push_size _ rfl, rfl, rfl⟩ (by simpa using h0) ?_⟩ (hops _ _ _) (hgo _ _)
    show Made.post (if ((j == 1 && (Builtin.Str.strSliceIndices (l'.map (·.1)) (u'.map (·.1)) j z.length).length == z.length) = true) then Made.val (.str z t) else Made.str ⟨((Builtin.Str.strSliceIndices (l'.map (·.1)) (u'.map (·.1)) j z.length).filterMap (z.cps[·]?)).toArray⟩) (EP X pins σ Q) _
    unfold stepS at q hle
    by_cases c : ((j == 1 && (Builtin.Str.strSliceIndices (l'.map (·.1)) (u'.map (·.1)) j z.length).length == z.length) = true)
    · rw [if_pos c] at q ⊢
      exact ⟨.str z, HD, J, ⟨t, rfl⟩, q⟩
    · rw [if_neg c] at q hle ⊢
      exact ⟨hle, .str _, HD, J.tok _, ⟨_, rfl⟩, q⟩
def sliceKM (x : D) (l h k : Option Int) : M D := match x, k with
  | .str z, some j => if j ≠ 0 ∧ z.length ≤ big then ret (.str (stepS z l h j)) else fault
  | _, _ => fault
def sliceKE (fa : Env → M D) (fl fh fk : Env → M (Option Int)) : Env → M D := fun env => seq (fa env) fun x => seq (fl env) fun l => seq (fh env) fun h => seq (fk env) fun k => sliceKM x l h k
theorem se_sliceK {a : Expr} {fa : Env → M D} {lo hi st : Option Expr} {pos p2 : Pos} {fl fh fk : Env → M (Option Int)} (ha : SE X B a fa) (hl : SO X B lo fl) (hh : SO X B hi fh) (hk : SO X B st fk)
    (hops : ∀ (z : Str) (t : Tok) (q : Value), subscripted (.Slice lo hi st p2) false (.str z t) q = operate [.str z t, q] (getItem (.str z t) q) := by intro _ _ _; with_unfolding_all rfl) (hgo : ∀ (z : Str) (t : Tok) (r : Value), letTemporaryGo a (.str z t) r = pure () := by intro _ _ _; with_unfolding_all rfl) :
    SE X B (.Subscript a (.Slice lo hi st p2) pos) (sliceKE fa fl fh fk) := by
  refine pe_weak (pe_sliceK ha hl hh hk hops hgo) fun σ H Q h => ?_
  obtain ⟨env, O, n, s, post⟩ := h
  refine tG_seq1 (g := fun env x => seq (fl env) fun l => seq (fh env) fun h => seq (fk env) fun k => sliceKM x l h k) lat_E s post fun x vx n1 H1 s1 e1 p1 q1 => ?_
  refine tG_seq1 (g := fun env l => seq (fh env) fun h => seq (fk env) fun k => sliceKM x l h k) lat_E s1 q1 fun y vy n2 H2 s2 e2 p2 q2 => ?_
  refine tG_seq1 (g := fun env h => seq (fk env) fun k => sliceKM x y h k) lat_E s2 q2 fun w vw n3 H3 s3 e3 p3 q3 => ?_
  refine tG_seq1 (g := fun env k => sliceKM x y w k) lat_E s3 q3 fun k vk n4 H4 s4 e4 p4 q4 => ?_
  cases p2; cases p3; cases p4
  unfold sliceKM at q4
  split at q4
  · split at q4
    · rename_i z j hc
      have hs : vx = .str z := by cases p1; rfl
      exact ⟨z, j, hs, rfl, hc.1, Nat.le_trans hc.2 big_line, q4 _ H4 (Ext.refl _ _) s4.town (.str _)⟩
    · exact q4.elim
  · exact q4.elim
end
end Sim

/-! sorted(set(ints)) -/
namespace Sim
open PySem L2 L2 PyProof.Rows

/-! ### the plain side: strictly rising lists -/
def insU (x : Int) : List Int → List Int
  | [] => [x]
  | y :: l => if x < y then x :: y :: l else if x = y then y :: l else y :: insU x l
def setSortL (ns : List Int) : List Int := ns.foldr insU []
theorem mem_insU {x z : Int} : ∀ {l : List Int}, z ∈ insU x l ↔ z = x ∨ z ∈ l
  | [] => by simp [insU]
  | y :: l => by
    unfold insU
    split
    · simp
    · split
      · rename_i h; subst h; simp
      · rw [List.mem_cons, List.mem_cons, mem_insU (l := l)]
        constructor
        · rintro (h | h | h)
          · exact .inr (.inl h)
          · exact .inl h
          · exact .inr (.inr h)
        · rintro (h | h | h)
          · exact .inr (.inl h)
          · exact .inl h
          · exact .inr (.inr h)
theorem pw_insU {x : Int} : ∀ {l : List Int}, l.Pairwise (· < ·) → (insU x l).Pairwise (· < ·)
  | [], _ => List.pairwise_singleton _ _
  | y :: l, h => by
    obtain ⟨h1, h2⟩ := List.pairwise_cons.mp h
    unfold insU
    split
    · rename_i hxy
      refine List.pairwise_cons.mpr ⟨fun z hz => ?_, h⟩
      rcases List.mem_cons.mp hz with rfl | hz
      · exact hxy
      · exact Int.lt_trans hxy (h1 z hz)
    · split
      · exact h
      · refine List.pairwise_cons.mpr ⟨fun z hz => ?_, pw_insU h2⟩
        rcases mem_insU.mp hz with rfl | hz
        · omega
        · exact h1 z hz
theorem mem_setSort {z : Int} : ∀ {ns : List Int}, z ∈ setSortL ns ↔ z ∈ ns
  | [] => by simp [setSortL]
  | n :: ns => by
    show z ∈ insU n (setSortL ns) ↔ _
    rw [mem_insU, mem_setSort (ns := ns), List.mem_cons]
theorem pw_setSort : ∀ ns : List Int, (setSortL ns).Pairwise (· < ·)
  | [] => List.Pairwise.nil
  | n :: ns => pw_insU (pw_setSort ns)
theorem rising_one : ∀ {l m : List Int}, l.Pairwise (· < ·) → m.Pairwise (· < ·) → (∀ z, z ∈ l ↔ z ∈ m) → l = m
  | [], [], _, _, _ => rfl
  | [], b :: m, _, _, h => absurd ((h b).mpr List.mem_cons_self) (by simp)
  | a :: l, [], _, _, h => absurd ((h a).mp List.mem_cons_self) (by simp)
  | a :: l, b :: m, hl, hm, h => by
    obtain ⟨l1, l2⟩ := List.pairwise_cons.mp hl
    obtain ⟨m1, m2⟩ := List.pairwise_cons.mp hm
    have hab : a = b := by
      rcases List.mem_cons.mp ((h a).mp List.mem_cons_self) with e | e
      · exact e
      · rcases List.mem_cons.mp ((h b).mpr List.mem_cons_self) with e' | e'
        · exact e'.symm
        · have := m1 a e
          have := l1 b e'
          omega
    subst hab
    congr 1
    refine rising_one l2 m2 fun z => ⟨fun hz => ?_, fun hz => ?_⟩
    · rcases List.mem_cons.mp ((h z).mp (List.mem_cons_of_mem _ hz)) with e | e
      · have := l1 z hz
        omega
      · exact e
    · rcases List.mem_cons.mp ((h z).mpr (List.mem_cons_of_mem _ hz)) with e | e
      · have := m1 z hz
        omega
      · exact e
theorem nodup_of_lt {l : List Int} (h : l.Pairwise (· < ·)) : l.Nodup := h.imp fun h e => by omega
/-! ### set(list of ints) -/
section
variable {prog : Program} {w : World} {A : Around} {E : Value → Shared → Prop} {st : Shared}
abbrev bareSet (w : World) : PySem.Obj := { cls := .type "set", dict := none, data := .set #[] 0 (.fresh 0 0 (!w.params.followText "set-order")) }
set_option maxHeartbeats 8000000 in
theorem set_listI {a : Addr} {its : Array Value} (ns : List Int) {Q : Value → Shared → Prop} (calm : A.handled = none) (isl : st.heap.IsList a its) (hints : IntsAre its.toList ns) (few : ns.length + 1 < scanBound)
    (fin : ∀ (g : Heap) (tk c : Nat), SetR w g st.heap.objs.size (fun j => decide (j ∈ ns)) c → c ≤ ns.length → (∀ b o, st.heap.get? b = some o → g.get? b = some o) → Q (.ref st.heap.objs.size) { st with heap := g, toks := tk }) :
    wpAny (model prog w) A (call (.type "set") [.ref a]) Q E st := by
  have sz : its.size = ns.length := by
    rw [← Array.length_toList]; exact IntsAre.length hints
  obtain ⟨c0, tl0, mro0⟩ := F.called_set.mro
  have mk := F.called_set.made
  have sb := F.called_set.sub
  apply wpAny_call
  apply codeAny_of_tree
  show wpAny _ _ (callAny (.type "set") _) _ _ _
  refine wpAny_pure ⟨Code.quiet_builtin _ (by decide +kernel), ?_⟩
  apply codeAny_builtin F.entry_type_call
  rw [Around.under_plain (weight_type_call_type "set" [.ref a] []) rfl]
  have n1 := F.called_set.notType
  have n2 := F.called_set.canCreate
  have tc := F.typeCall_set_1 (.ref a)
  repeat (any_goals (first | assumption | wp_step))
  apply codeAny_mono (code_set_led1 (.ref a) (E := E) (Q₁ := fun ob t => ob = .ref st.heap.objs.size ∧ t = { st with heap := st.heap.push (bareSet w) }) ⟨rfl, rfl⟩)
  intro r t1 hr
  cases r with
  | error e => exact hr
  | ok fl =>
    cases fl with
    | ret ob =>
      obtain ⟨rfl, rfl⟩ := hr
      have gS : (st.heap.push (bareSet w)).get? st.heap.objs.size = some (bareSet w) := Heap.get?_push_size _ rfl
      have tS : Shared.TypeIs { st with heap := st.heap.push (bareSet w) } (.ref st.heap.objs.size) "set" := ⟨_, gS, rfl⟩
      have i1 := F.called_set.init.lookup
      have i2 := F.called_set.init.bind (.ref st.heap.objs.size)
      repeat (any_goals (first | assumption | wp_step))
      apply codeAny_mono (codeAny_call_builtin (R := wants (fun r t => r = .none ∧ ∃ g tk c, t = { st with heap := g, toks := tk } ∧ SetR w g st.heap.objs.size (fun j => decide (j ∈ ns)) c ∧ c ≤ ns.length ∧ ∀ b o, st.heap.get? b = some o → g.get? b = some o) E) F.called_set.init.plain F.entry_set_init (check_set_init_1 tS ?_))
      · intro r2 t2 hr2
        cases r2 with
        | error e => exact hr2
        | ok f2 =>
          cases f2 with
          | ret r3 =>
            obtain ⟨rfl, g, tk, c, rfl, k1, k2, k3⟩ := hr2
            repeat (any_goals (first | assumption | wp_step))
            exact fin g tk c k1 k2 k3
          | _ => exact hr2.elim
      · obtain ⟨oL, gL, cL, nL, dL⟩ := isl
        obtain ⟨x1, x2, x3, x4⟩ := oL
        simp only at cL dL
        subst cL; subst dL
        have gL' : (st.heap.push (bareSet w)).get? a = some { cls := .type "list", dict := x2, data := .seq its nL, slots := x4 } := Heap.get?_push_of_some _ gL
        have s1 := F.sub_list_set
        have s2 := F.sub_list_frozenset
        have nd : (Value.type "list" == Value.type "dict") = false := by decide
        have isl' : (st.heap.push (bareSet w)).IsList a its := ⟨_, gL', rfl, nL, rfl⟩
        unfold Builtin.«set.__init__» noKeywords Builtin.Frozenset.updateFrom
        generalize hIt : pyIter = It
        wp_walk
        subst hIt
        apply wpAny_pyIter_list isl'
        apply wpAny_bind
        apply wpAny_runValue
        have ltS : a < st.heap.objs.size := Heap.lt_size gL
        have calm3 : A.in1.in1.in1.handled = none := by simp [calm]
        have sz1 : (st.heap.push (bareSet w)).objs.size = st.heap.objs.size + 1 := Heap.size_push ..
        have neI : a ≠ (st.heap.push (bareSet w)).objs.size := by rw [sz1]; exact Nat.ne_of_lt (Nat.lt_succ_of_lt ltS)
        have outS : st.heap.objs.size ∉ [(st.heap.push (bareSet w)).objs.size, a] := by
          rw [sz1]
          simp only [List.mem_cons, List.not_mem_nil, or_false, not_or]
          exact And.intro (Nat.ne_of_lt (Nat.lt_succ_self _)) (Nat.ne_of_gt ltS)
        have vals : ∀ (i : Nat) (v : Value), its[i]? = some v → ∃ k t, ns[i]? = some k ∧ v = .int k t := by
          intro i v hv
          have hi : i < ns.length := by
            have := (Array.getElem?_eq_some_iff.mp hv).1
            omega
          obtain ⟨t, e⟩ := IntsAre.int_at hints i v (by rw [Array.getElem?_toList]; exact hv)
          have e2 : ns.getD i 0 = ns[i] := by rw [List.getD_eq_getElem?_getD, List.getElem?_eq_getElem hi]; rfl
          exact ⟨ns[i], t, List.getElem?_eq_getElem hi, by rw [e, e2]⟩
        apply set_update_ints ((Walks.list calm3 _ a neI its).toS) st.heap.objs.size outS ns sz few vals (its.size - 0) 0 _ (by omega) (Nat.zero_le _) ⟨⟨_, Heap.get?_push_size _ rfl, rfl, rfl⟩, (isl'.push _)⟩
        · exact ⟨0, Nat.le_refl 0, setR_new_at (Heap.get?_push_of_some _ gS)⟩
        · intro t3 c3 mv cl sR
          obtain ⟨g3, q3, d3, k3, o3⟩ := t3
          have z1 : q3 = st.gens := mv.gens
          have z2 : d3 = st.drawn := mv.drawn
          have z3 : o3 = st.os := mv.os
          subst z1; subst z2; subst z3
          show wpAny _ _ _ _ _ _
          apply wpAny_pure
          show wpAny _ _ (PySem.ret Value.none) _ _ _
          rw [sz] at cl
          refine wpAny_pure ⟨rfl, g3, k3, c3, rfl, sR, cl, fun b o e => ?_⟩
          have lb : b < st.heap.objs.size := Heap.lt_size e
          refine mv.heap b o ?_ (Heap.get?_push_of_some _ (Heap.get?_push_of_some _ e))
          simp only [List.mem_cons, List.not_mem_nil, or_false, not_or]
          rw [sz1]
          exact And.intro (Nat.ne_of_lt lb) (Nat.ne_of_lt (Nat.lt_succ_of_lt lb))
    | _ => exact hr.elim
end
/-! ### as rules -/
section
variable {X : Cx} {B : Bd}
def rSetI (K : PySem.W.Frag) (w : World) : List V → Hp → VK → Prop := fun vs H Q => ∃ (a : Addr) (ns : List Int), vs = [V.ref a] ∧ SqL K H a (ns.map V.int) ∧ ns.length ≤ 1000 ∧ (setSortL ns).length < 64 ∧ ∀ p, H p = none → Q (.ref p) (upd H p (SetO w p (fun j => decide (j ∈ ns)) (setSortL ns).length))
theorem setR_count {w : World} {h : Heap} {a : Addr} {ns : List Int} {c : Nat} (R : SetR w h a (fun j => decide (j ∈ ns)) c) : c = (setSortL ns).length := by
  obtain ⟨o, es, ep, t, _, _, _, _, nd, mem, _, _, sz, _⟩ := R
  have pm : (es.toList.map keyOf).Perm (setSortL ns) := (List.perm_ext_iff_of_nodup nd (nodup_of_lt (pw_setSort ns))).mpr fun z => by
    rw [← mem z, mem_setSort, decide_eq_true_eq]
  have hl := pm.length_eq
  rw [List.length_map, Array.length_toList] at hl
  omega
theorem cr_setI (hc : X.calm = true) : CallR X (.type "set") (rSetI X.K X.w) := by
  intro pins s σ H vs us Q I r h
  obtain ⟨a, ns, rfl, hs, h1, h2, q⟩ := h
  obtain ⟨its, rv, hl, hz⟩ := I.list hs
  rw [Vals.ref1 r]
  have hn : H s.heap.objs.size = none := I.hok.fresh (Nat.le_refl _)
  refine set_listI (prog := X.prog) (w := X.w) ns (I.ok.hd hc) hl.isList (by simpa using rv.ints) (Nat.lt_of_le_of_lt (Nat.add_le_add_right h1 1) (by decide)) fun g tk c R hcl kp => ?_
  have ec := setR_count R
  subst ec
  exact ⟨.ref s.heap.objs.size, upd H s.heap.objs.size (SetO X.w s.heap.objs.size (fun j => decide (j ∈ ns)) (setSortL ns).length), I.laid (t' := tk) kp (Nat.le_refl _) (setO_new R), rfl, q _ hn⟩
def sortSetM : D → M D
  | .list xs => match intsOf xs with
    | some ns => if ns.length ≤ 1000 ∧ (setSortL ns).length < 64 then ret (.list ((setSortL ns).map PyData.int)) else fault
    | none => fault
  | _ => fault
def sortSetE (fa : Env → M D) : Env → M D := fun env => seq (fa env) sortSetM
theorem reps_ints {K : PySem.W.Frag} {H : Hp} {O : OS} : ∀ ns : List Int, Reps K H O (ns.map V.int) (ns.map PyData.int)
  | [] => .nil
  | n :: ns => .cons (.int n) (reps_ints ns)
theorem se_sortSet {a : Expr} {fa : Env → M D} {p p2 pos pos2 : Pos} (hK : B.K = X.K) (hc : X.calm = true) (hg : Gl X "sorted") (hm : X.mg "sorted" = none) (hg2 : Gl X "set") (hm2 : X.mg "set" = none) (ha : SE X B a fa)
    (h1 : starEach [a] X.env = (false, eval a X.env) :: starEach [] X.env := by rfl) (h2 : (backTo pos2 (starEach [] X.env)).any (·.1) = false := by rfl) (h3 : starEach [.Call (.Name "set" p2) [a] [] pos2] X.env = (false, eval (.Call (.Name "set" p2) [a] [] pos2) X.env) :: starEach [] X.env := by rfl) (h4 : (backTo pos (starEach [] X.env)).any (·.1) = false := by rfl) :
    SE X B (.Call (.Name "sorted" p) [.Call (.Name "set" p2) [a] [] pos2] [] pos) (sortSetE fa) := by
  refine pe_weak (pe_callB (cr_sortedSet hc) hg hm (by decide +kernel) (pa_cons (pe_callTy (cr_setI hc) hg2 hm2 (by decide +kernel) (pa_cons ha pa_nil h1) (by decide) (by decide) h1 h2) pa_nil h3) (by decide) (by decide) h3 h4) fun σ H Q h => ?_
  obtain ⟨env, O, n, s, post⟩ := h
  refine tG_seq1 (g := fun env => sortSetM) lat_E s post fun x vx n1 H1 s1 e1 p1 q1 => ?_
  unfold sortSetM at q1
  split at q1
  · rename_i xs
    cases hns : intsOf xs with
    | none => rw [hns] at q1; exact q1.elim
    | some ns =>
      rw [hns] at q1
      dsimp only at q1
      by_cases hl : ns.length ≤ 1000 ∧ (setSortL ns).length < 64
      · rw [if_pos hl] at q1
        cases p1 with
        | @lst a' ys _ r1 r2 =>
          have ey := intsOf_reps r2 hns
          subst ey
          refine ⟨a', ns, rfl, .inl r1.1, hl.1, hl.2, fun p hp => ?_⟩
          refine ⟨p, _, _, rfl, upd_same, hl.2, fun ms p' pw mem len hp' => ?_⟩
          have em : ms = setSortL ns := rising_one pw (pw_setSort ns) fun z => by rw [mem z, decide_eq_true_eq, mem_setSort]
          subst em
          have st1 : Same H1 (upd H1 p (SetO X.w p (fun j => decide (j ∈ ns)) (setSortL ns).length)) := same_new hp
          have st2 : Same (upd H1 p (SetO X.w p (fun j => decide (j ∈ ns)) (setSortL ns).length)) (upd (upd H1 p (SetO X.w p (fun j => decide (j ∈ ns)) (setSortL ns).length)) p' (.lst ((setSortL ns).map V.int))) := same_new hp'
          have sm : Same H1 (upd (upd H1 p (SetO X.w p (fun j => decide (j ∈ ns)) (setSortL ns).length)) p' (.lst ((setSortL ns).map V.int))) := fun b o e => st2 b o (st1 b o e)
          refine q1 _ _ (same_ext sm) (same_town sm s1.town) ?_
          have dom2 : ∀ b, O b → NF (upd H1 p (SetO X.w p (fun j => decide (j ∈ ns)) (setSortL ns).length)) b := fun b hb => by
            obtain ⟨o, e, no⟩ := s1.dom b hb
            exact ⟨o, st1 b o e, no⟩
          exact rep_newL dom2 hp' (reps_ints _)
      · rw [if_neg hl] at q1; exact q1.elim
  · exact q1.elim
end
end Sim

namespace Sim
open PySem L2 PySem.Spec PyProof.Rows
/-! ### methods of tuples -/
def TyZ (K : PySem.W.Frag) (x : V) (H : Hp) : Prop := ∃ (a : Addr) (o : Obj), x = .ref a ∧ o.dict = none ∧ ((∃ xs, H a = some (.frz o (.tup xs))) ∨ (K.lookup a = some o ∧ o.cls = .type "tuple"))
def tMZ (K : PySem.W.Frag) (r : V → List V → Hp → VK → Prop) (to : TE) (t : TA) : TE := fun σ H Q => to σ H fun x H1 => TyZ K x H1 ∧ t σ H1 fun xs H2 => r x xs H2 Q
section
variable {X : Cx} {B : Bd}
theorem TyZ.is {pins : List (Addr × Obj)} {σ : L2.St} {H : Hp} {s : Shared} {x : V} {v : Value} (I : L2.Inv X pins σ H s) (r : RelV x v) (ty : TyZ X.K x H) : s.TypeIs v "tuple" ∧ ∀ a, v = .ref a → ∃ ob, s.heap.get? a = some ob ∧ ob.dict = none := by
  obtain ⟨a, o, rfl, d, h | h⟩ := ty
  · obtain ⟨xs, h⟩ := h
    cases r
    obtain ⟨g, z, us, rv, o', g', c, n, e⟩ := I.hok a _ h
    rw [g] at g'
    cases g'
    exact ⟨⟨o, g, c⟩, fun b eb => by cases eb; exact ⟨o, g, d⟩⟩
  · cases r
    exact ⟨⟨o, I.kIn a o h.1, h.2⟩, fun b eb => by cases eb; exact ⟨o, I.kIn a o h.1, d⟩⟩
variable {o e : Expr} {es : List Expr} {to : TE} {t : TA} {name : Str} {pa pc : Pos} {id : String} {r : V → List V → Hp → VK → Prop}
theorem pe_mZ (pl : PlainAttrs "tuple") (sl : Slot "tuple" name id) (hty : typeOf (.builtin id) = pure (.type "method_descriptor")) (hm : MtR X id r) (ho : PE X o to) (ha : PA X [e] t) (hb : attributeBase o name X.env (eval o X.env) = eval o X.env := by rfl) (hf : ((backTo pc (starEach [e] X.env)).all (fun x => !x.1) && (backToKw pc (keywordEach [] X.env)).all (fun x => x.1.isSome) && decide ([e].length + ([] : List Keyword).length + (if ([] : List Keyword).isEmpty then 0 else 1) < 30)) = true := by rfl) (hl : (pa.endLine == pc.line) = true := by rfl) (hs : starEach [e] X.env = [(false, eval e X.env)] := by rfl) : PE X (.Call (.Attribute o name pa) [e] [] pc) (tMZ X.K r to t) := by
  constructor
  intro pins s σ H Q I h
  apply wpAny_Call_method_late hb hf hl rfl
  refine thn (ho.run pins s σ H _ I h) ?_
  rintro v s1 ⟨x, H1, I1, r1, ty, q1⟩
  obtain ⟨k1, k2⟩ := ty.is I1 r1
  refine ⟨"tuple", id, pl, sl, hty, k1, k2, ?_⟩
  have w := ha.run pc pins s1 σ H1 _ I1 q1
  rw [hs] at w ⊢
  apply Calls.callWith_builtin rfl
  apply Calls.evalArgs_plain
  refine thn w ?_
  rintro us s2 ⟨vs, H2, I2, r2, q2⟩
  exact hm pins s2 σ H2 x vs v us Q I2 r1 r2 q2
def isTupD : D → Bool
  | .tuple _ => true
  | _ => false
theorem ty_tupZ (hK : B.K = X.K) : ∀ H O v d, Brw B H O v d → isTupD d = true → TyZ X.K v H := fun H O v d h e => by
  cases d with
  | tuple z =>
    obtain ⟨a, xs, rfl, ra, _⟩ := h.tup
    rcases ra with ⟨o, d, h, _⟩ | ⟨o, its, n, l, c, d, _⟩
    · exact ⟨a, o, rfl, d, .inl ⟨xs, h⟩⟩
    · exact ⟨a, o, rfl, d, .inr ⟨hK ▸ l, c⟩⟩
  | _ => cases e
theorem se_methZ {call : Expr} {g : D → List D → Option D} {fo : Env → M D} {fs : Env → M (List D)} (hK : B.K = X.K) (h : PE X call (tMZ X.K (rM B g) (tG B (pB B) fo) (tG B (pBs B) fs))) : SE X B call (methE isTupD g fo fs) := by
  refine pe_weak h fun σ H Q h => ?_
  obtain ⟨env, O, n, s, post⟩ := h
  refine tG_seq1 (g := fun env x => if isTupD x = true then seq (fs env) fun ds => lift (g x ds) else fault) lat_E s post fun x vx n1 H1 s1 e1 p1 q1 => ?_
  by_cases hok : isTupD x = true
  · rw [if_pos hok] at q1
    refine ⟨ty_tupZ hK _ _ _ _ p1 hok, ?_⟩
    refine tG_seq1 (g := fun env ds => lift (g x ds)) lat_E s1 q1 fun y vy n2 H2 s2 e2 p2 q2 => ?_
    obtain ⟨z, hz, k⟩ := lift_post q2
    exact ⟨O, x, y, z, s2.dom, Brw.ext s2.tO e2 p1, p2, hz, fun v H' sm r => k v H' (same_ext sm) (same_town sm s2.town) r⟩
  · rw [if_neg hok] at q1; exact q1.elim
def tcountD : D → List D → Option D
  | .tuple xs, [d] => if min (PyData.depthAll xs) d.depth ≤ 60 then some (.int ((xs.countP fun y => PyData.eqv y d : Nat) : Int)) else none
  | _, _ => none
theorem mtd_tcount (hK : B.K = X.K) (hu : X.A.units + 64 < cLine) : MtD X B "tuple.count" tcountD := by
  intro pins s σ H x vs v us Q I rx rv h
  obtain ⟨O, d, ds, z, dom, hx, hv, hz, q⟩ := h
  unfold tcountD at hz
  split at hz
  · rename_i xs d
    split at hz
    · rename_i hl
      cases hz
      obtain ⟨w, rfl, h1⟩ := hv.one
      obtain ⟨a, ws, rfl, ra, rws⟩ := hx.tup
      cases rx
      obtain ⟨u, rfl, ru⟩ := rv.one
      have dy := h1.dp
      rw [hK] at dy rws ra
      obtain ⟨bs, r2⟩ := Dp.reads I _ _ u dy ru
      obtain ⟨its, rvs, pt, _⟩ := I.tuple ra.sq
      obtain ⟨as, r1⟩ := Dp.readsAll I _ _ _ (Reps.dp _ _ rws) rvs
      refine PySem.SeqAt.count_tuple_data (vs := its.toArray) pt (by simpa using r1) r2 (plainAll_dp _ _ (Reps.dp _ _ rws)) (plain_dp _ _ dy) (by omega) ?_
      exact ⟨.int _, H, I.tok _, ⟨_, rfl⟩, q _ H (fun _ _ h => h) (.int _)⟩
    · cases hz
  · cases hz
def tindexD : D → List D → Option D
  | .tuple xs, [d] => if min (PyData.depthAll xs) d.depth ≤ 60 ∧ xs.length ≤ big then (xs.findIdx? fun y => PyData.eqv y d).map fun j => .int (j : Int) else none
  | _, _ => none
theorem mtd_tindex (hK : B.K = X.K) (hu : X.A.units + 64 < cLine) : MtD X B "tuple.index" tindexD := by
  intro pins s σ H x vs v us Q I rx rv h
  obtain ⟨O, d, ds, z, dom, hx, hv, hz, q⟩ := h
  unfold tindexD at hz
  split at hz
  · rename_i xs d
    split at hz
    · rename_i hl
      obtain ⟨w, rfl, h1⟩ := hv.one
      obtain ⟨a, ws, rfl, ra, rws⟩ := hx.tup
      cases rx
      obtain ⟨u, rfl, ru⟩ := rv.one
      have dy := h1.dp
      rw [hK] at dy rws ra
      obtain ⟨bs, r2⟩ := Dp.reads I _ _ u dy ru
      obtain ⟨its, rvs, ⟨⟨c, dd, da, sl⟩, g, ec, n, ed⟩, _⟩ := I.tuple ra.sq
      simp only at ec ed
      subst ec ed
      obtain ⟨as, r1⟩ := Dp.readsAll I _ _ _ (Reps.dp _ _ rws) rvs
      have pxs := plainAll_dp _ _ (Reps.dp _ _ rws)
      cases ej : xs.findIdx? (fun y => PyData.eqv y d) with
      | none => rw [ej] at hz; cases hz
      | some j =>
        rw [ej] at hz; cases hz
        have r1' : ReadsAll s.heap its.toArray.toList xs as := by simpa using r1
        obtain ⟨hj, hhit, hno⟩ := PySem.SeqAt.hit_at (d := d) r1' pxs ej
        refine PySem.call_meets PySem.F.slot_tuple_index ⟨_, g, rfl⟩ PySem.F.entry_tuple_index (PySem.F.args_tuple_index_2 _ _)
          (TI.tuple_indexAt a its.toArray n dd sl u (fun u => PyData.eqv (PySem.SeqAt.readOf s.heap u) d) j hj hhit hno) ⟨g, PySem.SeqAt.items_plain r1' r2 pxs (plain_dp _ _ dy) (by omega), ?_⟩
        exact ⟨.int _, H, I.tok _, ⟨_, rfl⟩, q _ H (fun _ _ h => h) (.int _)⟩
    · cases hz
  · cases hz
end
/-! ### words of layers and checks -/
theorem eqD_strs {x y : Str} {k : Bool} (h : decide (x = y) = k) : eqD (.str x) (.str y) = some (.bool k) := by
  unfold eqD
  rw [if_pos (show min (PyData.str x).depth (PyData.str y).depth ≤ 60 from Nat.le_trans (Nat.min_le_left _ _) (by rw [PyData.depth]; decide)), PyData.eqv, ← h]
  rfl
theorem neD_strs {x y : Str} {k : Bool} (h : decide (x = y) = !k) : neD (.str x) (.str y) = some (.bool k) := by
  unfold neD
  rw [if_pos (show min (PyData.str x).depth (PyData.str y).depth ≤ 60 from Nat.le_trans (Nat.min_le_left _ _) (by rw [PyData.depth]; decide)), PyData.eqv]
  congr 2
  by_cases e : x = y
  · subst e; cases k <;> simp at h ⊢
  · cases k <;> simp [e] at h ⊢
theorem intD_t : intD [.bool true] = some (.int 1) := rfl
theorem intD_f : intD [.bool false] = some (.int 0) := rfl
theorem ks_mark_mark : eqD (.str "mark") (.str "mark") = some (.bool true) := eqD_strs (by decide +kernel)
theorem ks_fixed_mark : eqD (.str "fixed") (.str "mark") = some (.bool false) := eqD_strs (by decide +kernel)
theorem ks_length_mark : eqD (.str "length") (.str "mark") = some (.bool false) := eqD_strs (by decide +kernel)
theorem ks_mark_fixed : eqD (.str "mark") (.str "fixed") = some (.bool false) := eqD_strs (by decide +kernel)
theorem ks_fixed_fixed : eqD (.str "fixed") (.str "fixed") = some (.bool true) := eqD_strs (by decide +kernel)
theorem ks_length_fixed : eqD (.str "length") (.str "fixed") = some (.bool false) := eqD_strs (by decide +kernel)
theorem ks_mark_length : eqD (.str "mark") (.str "length") = some (.bool false) := eqD_strs (by decide +kernel)
theorem ks_fixed_length : eqD (.str "fixed") (.str "length") = some (.bool false) := eqD_strs (by decide +kernel)
theorem ks_length_length : eqD (.str "length") (.str "length") = some (.bool true) := eqD_strs (by decide +kernel)
theorem ks_none_none : eqD (.str "none") (.str "none") = some (.bool true) := eqD_strs (by decide +kernel)
theorem ks_sum_none : eqD (.str "sum") (.str "none") = some (.bool false) := eqD_strs (by decide +kernel)
theorem ks_xor_none : eqD (.str "xor") (.str "none") = some (.bool false) := eqD_strs (by decide +kernel)
theorem ks_none_sum : eqD (.str "none") (.str "sum") = some (.bool false) := eqD_strs (by decide +kernel)
theorem ks_sum_sum : eqD (.str "sum") (.str "sum") = some (.bool true) := eqD_strs (by decide +kernel)
theorem ks_xor_sum : eqD (.str "xor") (.str "sum") = some (.bool false) := eqD_strs (by decide +kernel)
theorem kn_none_none : neD (.str "none") (.str "none") = some (.bool false) := neD_strs (by decide +kernel)
theorem kn_sum_none : neD (.str "sum") (.str "none") = some (.bool true) := neD_strs (by decide +kernel)
theorem kn_xor_none : neD (.str "xor") (.str "none") = some (.bool true) := neD_strs (by decide +kernel)
end Sim

namespace Sim
open PySem L2 PySem.Spec PyProof.Rows
/-! ### try .. except (A, B): -/
theorem flyK {B g g' : Heap} {l : List PySem.Env} {a : Addr} {Z : Obj → Prop} (f : HandSPX.FlyingZ B l a Z g) (k : ∀ b o, g.get? b = some o → g'.get? b = some o) : HandSPX.FlyingZ B l a Z g' := by
  obtain ⟨f1, f2, f3, oe, ws, T, oT, ts, g1, g2, g3, g4, g5, g6, g7, g8, g9⟩ := f
  refine ⟨fun b o q => k b o (f1 b o q), f2, ?_, oe, ws, T, oT, ts, k _ _ g1, g2, g3, g4, g5, g6, k _ _ g7, g8, g9⟩
  exact f3.of_keeps fun b o q _ => ⟨o, k b o q, rfl⟩
section
variable {X : Cx} {x1 x2 : Str} {c1 c2 : Value} {body suite : List Stmt} {b0 : Stmt} {p1 p2 tp pos pos' : Pos} {kk : Nat} {tb : WX → TS} {ts : Addr → Value → Option Addr → TS}
def w2 (K : PySem.W.Frag) (c1 c2 : Value) (ts : Addr → Value → Option Addr → TS) (De : Ends) : WX := fun cls d σ H => PySem.W.exmAny K cls [c1, c2] = some true ∧ ∀ a, H a = none → ts a cls d De σ H
theorem ps_try2 (hs : X.stack = X.env :: X.outer) (hf : X.env.frame = some X.env.locals) (n1 : Names X x1 c1) (n2 : Names X x2 c2)
    (hb : ∀ (W : WX) (pl : List (Addr × Obj)) (ye : Value → Shared → Prop), L2N.Takes (X.tr pl ye) W → PassesOwn (model X.prog X.w) X.A X.env ye → PSs (X.tr pl ye) body (tb W))
    (hsu : ∀ (a : Addr) (oe : Obj) (cls : Value) (d : Option Addr) (pl : List (Addr × Obj)), L2N.Zn cls d oe → (∃ ws, oe.data = .fields ws) → PSs (X.suite a ((a, oe) :: pl)) (b0 :: suite) (ts a cls d)) :
    PS X (.Try body [.ExceptHandler (some (.Tuple [.Name x1 p1, .Name x2 p2] kk tp)) none (b0 :: suite) pos'] [] [] pos) (fun De σ H => tb (w2 X.K c1 c2 ts De) De σ H) := by
  constructor
  intro pins s σ H De I h
  have ok := I.ok
  have fr : X.A.frames = some (X.env :: X.outer) := ok.frames.trans (congrArg some hs)
  apply wpAny_Try_except
  refine wpAny_mono ((hb (w2 X.K c1 c2 ts De) (X.pn ++ pins) _ ?_ PassesOwn.looking).run [] s σ H De (I.toTry _) h) ?_ (fun _ _ z => z)
  · rintro u t ⟨a, B, sI, pl, σ1, H1, cls, d, rfl, J', nb, up, sky, na, os, ag, hx, hyes⟩
    have J : L2.Inv X pins σ1 H1 sI := J'.ofTry ok
    rw [show (X.tr (X.pn ++ pins) _).stack = X.env :: X.outer from hs] at sky
    refine L2N.Sky.land L2N.Zn.steady fr hf sky ?_
    intro g fl up2
    have J2 : L2.Inv X pins σ1 H1 { t with heap := g } := J.landed nb fl.1 (up.trans up2) os ag
    obtain ⟨oe, ws, ge, ze, de⟩ := fl.there
    have out : a ∉ frs (X.env :: X.outer) := fun hm => by
      obtain ⟨_, o', e', hn⟩ := fl.2.2.1.mem hm
      rw [ge] at e'
      cases e'
      exact hn _ de
    have oL : a ≠ X.env.locals := fun z => out (List.mem_filterMap.mpr ⟨X.env, List.mem_cons_self, hf.trans (congrArg some z.symm)⟩)
    have oF : a ∉ X.fs := fun hm => by
      obtain ⟨e, he, q⟩ := List.mem_filterMap.mp hm
      exact out (List.mem_filterMap.mpr ⟨e, List.mem_cons_of_mem _ he, q⟩)
    have S2 := J2.suite ge de na oL oF
    have look : ∀ {x : Str} {c : Value} {p : Pos} (n : Names X x c) {Q : Value → Shared → Prop} {E : Value → Shared → Prop}, Q c { t with heap := g } → wpAny (model X.prog X.w) (X.A.mark (some (.ref a))) (eval (.Name x p) X.env) Q E { t with heap := g } := by
      intro x c p n Q E q
      obtain ⟨hg, hd, hm | ⟨hm, hv, hn⟩⟩ := n
      · exact ld_glob (X := X.suite a ((a, oe) :: (X.pn ++ pins))) S2 hg hm q hd
      · exact ld_blt (X := X.suite a ((a, oe) :: (X.pn ++ pins))) S2 hg hm hv q hn hd
    refine wpAny_handleBy_cons (codeAny_handlers_test ?_) (fun q => nomatch q)
    refine wpAny_Tuple (wpAny_items_cons (look n1 (wpAny_items_cons (look n2 (wpAny_items_nil ⟨by size_fits, ?_⟩)))))
    have kp : ∀ b o, g.get? b = some o → (g.push { cls := .type "tuple", data := .seq [c1, c2].toArray }).get? b = some o := fun _ _ z => Heap.get?_push_of_some _ z
    have ty : PySem.W.Looks (model X.prog X.w) g (typeOf (.ref a)) cls := fun A Q E s k q => wpAny_typeOf_ref (k _ _ ge) (by rw [ze.1]; exact q)
    have m := PySem.W.exm_tup2 (M := model X.prog X.w) (J2.kIn.keeps kp) (ty.keeps kp) (Heap.get?_push_size g rfl) hx
    refine m.here ?_
    apply codeAny_handlers_suite
    refine HandSPX.lands_againZ (flyK fl kp) ?_
    intro g4 fl4 up4
    have J4 : L2.Inv X pins σ1 H1 { t with heap := g4 } := J.landed nb fl4.1 (((up.trans up2).trans (Heap.UpToSlots.of_keeps kp)).trans up4) os ag
    obtain ⟨oe4, ws4, ge4, ze4, de4⟩ := fl4.there
    refine wpAny_mono ((hsu a oe4 cls d (X.pn ++ pins) ze4 ⟨_, de4⟩).run [] _ _ H1 _ (J4.suite ge4 de4 na oL oF) (hyes a na)) ?_ (fun _ _ z => z.elim)
    rintro f s6 q6
    match f, q6 with
    | .next, ⟨_, _, S6, q⟩ => exact ⟨_, _, S6.unsuite ok, q⟩
    | .brk, ⟨_, _, S6, q⟩ => exact ⟨_, _, S6.unsuite ok, q⟩
    | .cont, ⟨_, _, S6, q⟩ => exact ⟨_, _, S6.unsuite ok, q⟩
    | .ret _, ⟨_, _, _, S6, r, q⟩ => exact ⟨_, _, _, S6.unsuite ok, r, q⟩
  · intro f s1 q
    match f, q with
    | .next, ⟨_, _, J, q⟩ => exact wpAny_execs_nil ⟨_, _, J.ofTry ok, q⟩
    | .brk, ⟨_, _, J, q⟩ => exact ⟨_, _, J.ofTry ok, q⟩
    | .cont, ⟨_, _, J, q⟩ => exact ⟨_, _, J.ofTry ok, q⟩
    | .ret _, ⟨_, _, _, J, r, q⟩ => exact ⟨_, _, _, J.ofTry ok, r, q⟩
end
def try2S (i1 i2 : Nat) (b : Bool) (g : Env → M Fl) : Env → M Fl := fun env n => match g env n with
  | .exc c m => if c = i1 ∨ c = i2 then .ok (.ret (.bool b)) m else .bad
  | .ok a m => .ok a m
  | .bad => .bad
structure Ex2 (K : PySem.W.Frag) (C D : Addr) : Prop where
  h1 : PySem.W.exmAny K (.ref C) [.ref C, .ref D] = some true
  h2 : PySem.W.exmAny K (.ref D) [.ref C, .ref D] = some true
theorem pair_use {K : PySem.W.Frag} {mg : Str → Option Value} {R : Prop} {x y : Str} {C D : Addr} (_ : mg x = some (.ref C)) (_ : mg y = some (.ref D)) (b1 : PySem.W.subIn K (.ref C) (.type "BaseException") = some true) (b2 : PySem.W.subIn K (.ref D) (.type "BaseException") = some true) (t1 : PySem.W.typeIn K (.ref C) = some (.type "type")) (t2 : PySem.W.typeIn K (.ref D) = some (.type "type"))
    (d1 : PySem.W.hasDictIn K C = true) (d2 : PySem.W.hasDictIn K D = true) (s11 : PySem.W.subIn K (.ref C) (.ref C) = some true) (s12 : PySem.W.subIn K (.ref C) (.ref D) = some false) (s21 : PySem.W.subIn K (.ref D) (.ref C) = some false) (s22 : PySem.W.subIn K (.ref D) (.ref D) = some true) (n : Ex2 K C D → R) : R := by
  refine n ⟨?_, ?_⟩
  · simp only [PySem.W.exmAny]
    rw [PySem.W.exm_ref b1 d1 t1 s11, PySem.W.exm_ref b2 d2 t2 s12]; rfl
  · simp only [PySem.W.exmAny]
    rw [PySem.W.exm_ref b1 d1 t1 s21, PySem.W.exm_ref b2 d2 t2 s22]; rfl
section
variable {X : Cx} {B : Bd}
theorem ss_try2 {x1 x2 : Str} {C1 C2 : Addr} {i1 i2 : Nat} {b : Bool} {body : List Stmt} {e : Expr} {p1 p2 p3 tp pos pos' : Pos} {kk : Nat} {g : Env → M Fl} {cv : Nat → Value} (hs : X.stack = X.env :: X.outer) (hf : X.env.frame = some X.env.locals) (n1 : Names X x1 (.ref C1)) (n2 : Names X x2 (.ref C2)) (hK : B.K = X.K) (hcv : B.cv = cv)
    (e2 : Ex2 X.K C1 C2) (h1 : cv i1 = .ref C1) (h2 : cv i2 = .ref C2) (he : ∀ a pn, PE (X.suite a pn) e (tC (.bl b)))
    (hbody : ∀ (W : WX) (pl : List (Addr × Obj)) (ye : Value → Shared → Prop) (B' : Bd), B'.K = X.K → B'.cv = cv → B'.E = (fun cls d H => ∀ σ, W cls d σ H) → L2N.Takes (X.tr pl ye) W → PassesOwn (model X.prog X.w) X.A X.env ye → SSs (X.tr pl ye) B' body g) :
    SS X B (.Try body [.ExceptHandler (some (.Tuple [.Name x1 p1, .Name x2 p2] kk tp)) none [.Return (some e) p3] pos'] [] [] pos) (try2S i1 i2 b g) := by
  subst hcv
  refine ps_weak (ps_try2 (tb := fun W De σ H => tS { B with E := fun cls d H => ∀ σ, W cls d σ H } g De σ H) (ts := fun _ _ _ De _ H => De.rt (.bl b) H) hs hf n1 n2 ?_ ?_) ?_
  · exact fun W pl ye tk po => hbody W pl ye _ hK rfl rfl tk po
  · intro a oe cls d pl _ _
    exact pss_weak (pss_one (ps_ret (pos := p3) (he a _))) fun De σ H h => h
  · rintro De σ H ⟨env, O, m, s, post⟩
    refine ⟨env, O, m, ⟨s.len, s.slot, s.sep, s.dom, s.town, s.tO, s.fr1, s.fr2, s.fr3, s.tK, s.tC⟩, ?_⟩
    have post : SPost B De O H (try2S i1 i2 b g env m) := post
    unfold try2S at post
    cases r : g env m with
    | ok fl m' =>
      rw [r] at post
      cases fl with
      | next env' => exact fun σ' O' H' s' st => post σ' O' H' ⟨s'.len, s'.slot, s'.sep, s'.dom, s'.town, s'.tO, s'.fr1, s'.fr2, s'.fr3, s'.tK, s'.tC⟩ st
      | brk env' => exact fun σ' O' H' s' st => post σ' O' H' ⟨s'.len, s'.slot, s'.sep, s'.dom, s'.town, s'.tO, s'.fr1, s'.fr2, s'.fr3, s'.tK, s'.tC⟩ st
      | cont env' => exact fun σ' O' H' s' st => post σ' O' H' ⟨s'.len, s'.slot, s'.sep, s'.dom, s'.town, s'.tO, s'.fr1, s'.fr2, s'.fr3, s'.tK, s'.tC⟩ st
      | ret d => exact post
      | rn xs => exact post
    | exc c m' =>
      rw [r] at post
      by_cases hc : c = i1 ∨ c = i2
      · simp only [if_pos hc] at post
        intro H' ex tw σ'
        refine ⟨?_, fun a _ => post _ H' ex tw (.bl b)⟩
        show PySem.W.exmAny X.K (B.cv c) _ = _
        rcases hc with rfl | rfl
        · rw [h1]; exact e2.h1
        · rw [h2]; exact e2.h2
      · simp only [if_neg hc] at post
        exact post.elim
    | bad => rw [r] at post; exact post.elim
end
end Sim

/-! Listeners: fields, methods, making. -/
namespace Sim
open PySem PySem.Spec L2

/-! ### data without lists -/
mutual
def noList : D → Bool
  | .tuple ds => noLists ds
  | .list _ => false
  | .dict _ => false
  | _ => true
def noLists : List D → Bool
  | [] => true
  | d :: ds => noList d && noLists ds
end
theorem not_nf {H : Hp} {a : Addr} {o : Obj} {u : HO} (h : H a = some (.frz o u)) : ¬ NF H a := fun ⟨o', e', n'⟩ => by rw [h] at e'; cases e'; cases n'
mutual
theorem Rep.nf {K : PySem.W.Frag} {H : Hp} {O : OS} : ∀ (d : D) (v : V), noList d = true → Rep K H O v d → Rep K H (NF H) v d
  | .none, v, _, h => by cases h; exact .non
  | .bool b, v, _, h => by cases h; exact .bl b
  | .int i, v, _, h => by cases h; exact .int i
  | .str x, v, _, h => by cases h; exact .str x
  | .list ds, v, n, h => by cases n
  | .tuple ds, v, n, h => by
    cases h with
    | tup h1 h2 => exact .tup (h1.elim (fun ⟨o, d, h, _⟩ => .inl ⟨o, d, h, not_nf h⟩) .inr) (Reps.nf ds _ (by simpa [noList] using n) h2)
  | .dict _, v, n, h => by cases h
theorem Reps.nf {K : PySem.W.Frag} {H : Hp} {O : OS} : ∀ (ds : List D) (vs : List V), noLists ds = true → Reps K H O vs ds → Reps K H (NF H) vs ds
  | [], vs, _, h => by cases h; exact .nil
  | d :: ds, vs, n, h => by
    rw [noLists, Bool.and_eq_true] at n
    cases h with
    | cons h1 h2 => exact .cons (Rep.nf d _ n.1 h1) (Reps.nf ds _ n.2 h2)
end
/-! ### a listener of a slot -/
def lisK {α : Type} (k : Nat → LS → M α) : Option (Option SV) → M α
  | some (some (.lis j)) => fun s => match s.ls[j]? with
    | some l => k j l s
    | none => .bad
  | _ => fault
theorem lis_post {α : Type} {k : Nat → LS → M α} {o : Option (Option SV)} {n : Sta} {P : R α → Prop} (hb : P .bad → False) (h : P (lisK k o n)) : ∃ j l, o = some (some (.lis j)) ∧ n.ls[j]? = some l ∧ P (k j l n) := by
  rcases o with _ | _ | x | xs | _ | ns | a | j | _ <;> first | exact (hb h).elim | skip
  have h : P (match n.ls[j]? with | some l => k j l n | none => .bad) := h
  cases e : n.ls[j]? with
  | none => rw [e] at h; exact (hb h).elim
  | some l => rw [e] at h; exact ⟨j, l, rfl, e, h⟩
inductive Fd | form | tick | bits | told
def Fd.nm : Fd → Str
  | .form => "form" | .tick => "tick" | .bits => "bits" | .told => "told"
def LS.get (l : LS) : Fd → D
  | .form => l.form | .tick => l.tick | .bits => l.bits | .told => l.told
def LS.put (l : LS) : Fd → D → LS
  | .form, d => { l with form := d } | .tick, d => { l with tick := d } | .bits, d => { l with bits := d } | .told, d => { l with told := d }
abbrev flds (f t b d : V) (p : Addr) : List (Str × V) := [("form", f), ("tick", t), ("bits", b), ("told", d), ("past", .ref p)]
section
variable {B : Bd} {env : Env} {O : OS} {n : Sta} {σ : L2.St} {H : Hp}
theorem Sim.lis (s : Sim B env O n σ H) {i j : Nat} {l : LS} (hi : env[i]? = some (some (.lis j))) (hl : n.ls[j]? = some l) : ∃ la, B.T.L[j]? = some la ∧ σ[i]? = some (some (.ref la.a)) ∧ L1 B.K B.T.C H la l ∧ B.cv 100 = .ref B.T.C := by
  obtain ⟨v, h1, la, h2, rfl⟩ := s.slot i _ hi
  obtain ⟨l', h3, h4⟩ := s.town.2.1.at h2
  rw [hl] at h3; cases h3
  rw [s.tK] at h4
  exact ⟨la, h2, h1, h4, s.tC la (List.mem_of_getElem? h2)⟩
theorem LsOk.upd {K : PySem.W.Frag} {C : Addr} {H H' : Hp} (f : Firm H H') : ∀ {las : List LA} {ls : List LS} {j : Nat} {la : LA} {l' : LS}, LsOk K C H las ls → las[j]? = some la → L1 K C H' la l' → (∀ i x, las[i]? = some x → i ≠ j → H' x.a = H x.a ∧ H' x.pa = H x.pa) → LsOk K C H' las (ls.set j l')
  | _, _, _, _, _, .nil, e, _, _ => by simp at e
  | _, _, 0, la, l', .cons r t, e, h, k => by
    simp at e; subst e
    exact .cons h (LsOk.firm f (fun l hl => by
      obtain ⟨m, hm⟩ := List.mem_iff_getElem?.mp hl
      exact k (m + 1) l (by simpa using hm) (by omega)) t)
  | _, _, j + 1, la, l', .cons r t, e, h, k => .cons (r.firm f (k 0 _ rfl (by omega)).1 (k 0 _ rfl (by omega)).2) (LsOk.upd f t (by simpa using e) h fun i x hx hn => k (i + 1) x (by simpa using hx) (by omega))
theorem pw_idx {α : Type} {R : α → α → Prop} (sym : ∀ x y, R x y → R y x) {l : List α} (h : l.Pairwise R) {i j : Nat} {x y : α} (hi : l[i]? = some x) (hj : l[j]? = some y) (ne : i ≠ j) : R x y := by
  rw [List.pairwise_iff_getElem] at h
  obtain ⟨li, ei⟩ := List.getElem?_eq_some_iff.mp hi
  obtain ⟨lj, ej⟩ := List.getElem?_eq_some_iff.mp hj
  subst ei ej
  rcases Nat.lt_or_gt_of_ne ne with q | q
  · exact h i j li lj q
  · exact sym _ _ (h j i lj li q)
/-- the listener j is changed, at its object or at its list -/
theorem Town.hot {T : Hot} (t : Town T H n) {j : Nat} {la : LA} {p : Addr} {o : HO} {l' : LS} (hj : T.L[j]? = some la) (hp : p = la.a ∨ p = la.pa) (h : L1 T.K T.C (upd H p o) la l') : Town T (upd H p o) { n with ls := n.ls.set j l' } := by
  have hm : la ∈ T.L := List.mem_of_getElem? hj
  have nfp : NF H p := t.nf (.inr ⟨la, hm, hp⟩)
  obtain ⟨l0, _, f, tt, b, d, vs, e1, e2, _⟩ := t.2.1.at hj
  have firm : Firm H (upd H p o) := fun b' ob u h' => by
    rw [upd_ne (fun z => by subst z; exact not_nf h' nfp)]; exact h'
  have ntp : T.t ≠ p := fun z => by
    rcases hp with hp | hp
    · rw [← hp, ← z, t.1] at e1; cases e1
    · exact t.2.2.1 la hm (hp.symm.trans z.symm)
  refine ⟨by rw [upd_ne ntp]; exact t.1, t.2.1.upd firm hj h fun i x hx hn => ?_, t.2.2⟩
  have ap := pw_idx (R := fun x y : LA => x.a ≠ y.a ∧ x.pa ≠ y.pa) (fun _ _ q => ⟨q.1.symm, q.2.symm⟩) t.2.2.2 hx hj hn
  obtain ⟨lx, _, f', tt', b', d', vs', e1', e2', _⟩ := t.2.1.at hx
  rcases hp with hp | hp
  · subst hp
    exact ⟨upd_ne ap.1, upd_ne (fun z => by rw [z, e1] at e2'; cases e2')⟩
  · subst hp
    exact ⟨upd_ne (fun z => by rw [z, e2] at e1'; cases e1'), upd_ne ap.2⟩
theorem Ext.hot {T : Hot} {j : Nat} {la : LA} {p : Addr} {o : HO} (hj : T.L[j]? = some la) (hp : p = la.a ∨ p = la.pa) : Ext T H (upd H p o) := fun a u na h => by
  rw [upd_ne (fun z => na (.inr ⟨la, List.mem_of_getElem? hj, by rw [z]; exact hp⟩))]; exact h
end
section
variable {X : Cx} {B : Bd} {e : Expr} {es : List Expr} {pos : Pos} {fa : Env → M D} {st : Stmt} {C : Addr}
/-! ### self.f -/
def fldE (i : Nat) (f : Fd) : Env → M D := fun env => lisK (fun _ l => ret (l.get f)) env[i]?
theorem fld_look (f t b d : V) (p : Addr) (x : Fd) : ∃ v, (flds f t b d p).lookup x.nm = some v ∧ v = (match x with | .form => f | .tick => t | .bits => b | .told => d) := by
  cases x <;> exact ⟨_, rfl, rfl⟩
theorem se_fld {i : Nat} {f : Fd} {x : Str} (hK : B.K = X.K) (hcv : B.cv 100 = .ref C) (hc : Cls X.K C) (hn : NoAttr X.K C x) (hx : x = f.nm) (h : PE X e (tFld X.K (tVar i) x)) : SE X B e (fldE i f) := by
  refine pe_weak h fun σ H Q h => ?_
  obtain ⟨env, O, n, s, post⟩ := h
  obtain ⟨j, l, hi, hl, post⟩ := lis_post (P := fun r => Post B (pE B O) H r Q) (fun z => z) post
  obtain ⟨la, hj, hσ, ⟨vf, vt, vb, vd, vs, e1, e2, r1, r2, r3, r4, r5⟩, hC⟩ := s.lis hi hl
  rw [hcv] at hC; cases hC
  obtain ⟨v, k1, k2⟩ := fld_look vf vt vb vd la.pa f
  refine ⟨_, hσ, la.a, _, la.dx, _, v, rfl, e1, hc, hn, hx ▸ k1, ?_⟩
  subst k2
  refine post _ H (Ext.refl _ _) s.town (Rep.anti s.dom _ _ ?_)
  cases f <;> assumption
/-! ### self.f = e -/
def putM (f : Fd) (d : D) (env : Env) : Option (Option SV) → M Fl := lisK (fun j l => if noList d = true then (fun s => .ok (.next env) { s with ls := s.ls.set j (l.put f d) }) else fault)
def setF (i : Nat) (f : Fd) (fa : Env → M D) : Env → M Fl := fun env => seq (fa env) fun d => putM f d env env[i]?
theorem ss_setF {i : Nat} {f : Fd} {x : Str} (hK : B.K = X.K) (hcv : B.cv 100 = .ref C) (hc : Cls X.K C) (hn : NoAttr X.K C x) (hx : x = f.nm) (h : PS X st (sFld X.K (tVar i) (tG B (pE B) fa) x)) : SS X B st (setF i f fa) := by
  refine ps_weak h fun De σ H h => ?_
  obtain ⟨env, O, n, s, post⟩ := h
  refine tS_seq (g := fun env d => lisK (fun j l => if noList d = true then (fun s => .ok (.next env) { s with ls := s.ls.set j (l.put f d) }) else fault) env[i]?) s post fun d v n1 H1 s1 ex1 p1 q1 => ?_
  obtain ⟨j, l, hi, hl, q1⟩ := lis_post (P := fun r => SPost B De O H1 r) (fun z => z) q1
  by_cases hd : noList d = true
  · rw [if_pos hd] at q1
    obtain ⟨la, hj, hσ, ⟨vf, vt, vb, vd, vs, e1, e2, r1, r2, r3, r4, r5⟩, hC⟩ := s1.lis hi hl
    rw [hcv] at hC; cases hC
    refine ⟨_, hσ, la.a, _, la.dx, _, rfl, e1, hc, hn, by show 5 < 1000; decide, ?_⟩
    have rv := Rep.nf d v hd p1
    have nfa : NF H1 la.a := ⟨_, e1, rfl⟩
    have npa : la.pa ≠ la.a := fun z => by rw [z, e1] at e2; cases e2
    have firm : ∀ o : HO, Firm H1 (upd H1 la.a o) := fun o b' ob u h' => by
      rw [upd_ne (fun z => by subst z; exact not_nf h' nfa)]; exact h'
    have key : L1 B.T.K B.T.C (upd H1 la.a (.ins B.T.C la.dx (putF x v (flds vf vt vb vd la.pa)))) la (l.put f d) := by
      rw [s1.tK]
      have up : ∀ {w : V} {c : D}, Rep B.K H1 (NF H1) w c → Rep B.K (upd H1 la.a (.ins B.T.C la.dx (putF x v (flds vf vt vb vd la.pa)))) (NF (upd H1 la.a (.ins B.T.C la.dx (putF x v (flds vf vt vb vd la.pa))))) w c := fun r => Rep.step (firm _).step _ _ r
      subst hx
      cases f
      · exact ⟨v, vt, vb, vd, vs, upd_same, by rw [upd_ne npa]; exact e2, up rv, up r2, up r3, up r4, Reps.step (firm _).step _ _ r5⟩
      · exact ⟨vf, v, vb, vd, vs, upd_same, by rw [upd_ne npa]; exact e2, up r1, up rv, up r3, up r4, Reps.step (firm _).step _ _ r5⟩
      · exact ⟨vf, vt, v, vd, vs, upd_same, by rw [upd_ne npa]; exact e2, up r1, up r2, up rv, up r4, Reps.step (firm _).step _ _ r5⟩
      · exact ⟨vf, vt, vb, v, vs, upd_same, by rw [upd_ne npa]; exact e2, up r1, up r2, up r3, up rv, Reps.step (firm _).step _ _ r5⟩
    have ex := Ext.hot (H := H1) (o := .ins B.T.C la.dx (putF x v (flds vf vt vb vd la.pa))) hj (.inl rfl)
    exact q1 σ O _ (s1.ext ex (s1.town.hot hj (.inl rfl) key)) (step_of s1.tO ex)
  · rw [if_neg hd] at q1; exact q1.elim
/-! ### self.past.append(e) -/
def pastM (d : D) (env : Env) : Option (Option SV) → M Fl := lisK (fun j l => if noList d = true ∧ l.past.length < big then (fun s => .ok (.next env) { s with ls := s.ls.set j { l with past := l.past ++ [d] } }) else fault)
def pastS (i : Nat) (fa : Env → M D) : Env → M Fl := fun env => lisK (fun _ _ => seq (fa env) fun d => pastM d env env[i]?) env[i]?
theorem past_look (f t b d : V) (p : Addr) : (flds f t b d p).lookup ("past" : Str) = some (V.ref p) := rfl
theorem ss_past {i : Nat} {K : PySem.W.Frag} (hK : B.K = X.K) (hcv : B.cv 100 = .ref C) (hc : Cls X.K C) (hn : NoAttr X.K C "past") (h : PS X st (tDrop (tBM K "list" rAppend (tFld X.K (tVar i) "past") (tCons (tG B (pE B) fa) tNil)))) : SS X B st (pastS i fa) := by
  refine ps_weak h fun De σ H h => ?_
  obtain ⟨env, O, n, s, post⟩ := h
  obtain ⟨j, l, hi, hl, post⟩ := lis_post (P := fun r => SPost B De O H r) (fun z => z) post
  obtain ⟨la, hj, hσ, ⟨vf, vt, vb, vd, vs, e1, e2, r1, r2, r3, r4, r5⟩, hC⟩ := s.lis hi hl
  rw [hcv] at hC; cases hC
  refine ⟨_, hσ, la.a, _, la.dx, _, _, rfl, e1, hc, hn, past_look .., .inl ⟨rfl, vs, .inl (.inl e2)⟩, ?_⟩
  refine tS_seq (g := fun env d => lisK (fun j l => if noList d = true ∧ l.past.length < big then (fun s => .ok (.next env) { s with ls := s.ls.set j { l with past := l.past ++ [d] } }) else fault) env[i]?) s post fun d v n1 H1 s1 ex1 p1 q1 => ?_
  obtain ⟨j', l1, hi', hl1, q1⟩ := lis_post (P := fun r => SPost B De O H1 r) (fun z => z) q1
  rw [hi] at hi'; cases hi'
  by_cases hd : noList d = true ∧ l1.past.length < big
  · rw [if_pos hd] at q1
    obtain ⟨la', hj', hσ', ⟨vf', vt', vb', vd', vs', e1', e2', r1', r2', r3', r4', r5'⟩, _⟩ := s1.lis hi hl1
    rw [hj] at hj'; cases hj'
    refine ⟨la.pa, vs', v, rfl, rfl, e2', by rw [r5'.length]; exact Nat.lt_of_lt_of_le hd.2 big_line, ?_⟩
    have rv := Rep.nf d v hd.1 p1
    have nfa : NF H1 la.pa := ⟨_, e2', rfl⟩
    have npa : la.a ≠ la.pa := fun z => by rw [← z, e1'] at e2'; cases e2'
    have firm : Firm H1 (upd H1 la.pa (.lst (vs' ++ [v]))) := fun b' ob u h' => by
      rw [upd_ne (fun z => by subst z; exact not_nf h' nfa)]; exact h'
    have key : L1 B.T.K B.T.C (upd H1 la.pa (.lst (vs' ++ [v]))) la { l1 with past := l1.past ++ [d] } := by
      rw [s1.tK]
      exact ⟨vf', vt', vb', vd', vs' ++ [v], by rw [upd_ne npa]; exact e1', upd_same, Rep.step firm.step _ _ r1', Rep.step firm.step _ _ r2', Rep.step firm.step _ _ r3', Rep.step firm.step _ _ r4', Reps.step firm.step _ _ (r5'.append (.cons rv .nil))⟩
    have ex := Ext.hot (H := H1) (o := .lst (vs' ++ [v])) hj (.inr rfl)
    exact q1 σ O _ (s1.ext ex (s1.town.hot hj (.inr rfl) key)) (step_of s1.tO ex)
  · rw [if_neg hd] at q1; exact q1.elim
/-! ### o.m(..) -/
def methL (i np : Nat) (F : List SV → M D) (fs : Env → M (List SV)) : Env → M D := fun env => lisK (fun j _ => seq (fs env) fun as => if as.length + 1 = np then F (.lis j :: as) else fault) env[i]?
theorem se_methL {i np : Nat} {m : Str} {F : List SV → M D} {fs : Env → M (List SV)} {K : PySem.W.Frag} {cv : Nat → Value} {E : XK} (hK : B.K = K) (hcv : B.cv = cv) (hE : B.E = E) (hC : cv 100 = .ref C) (hm : ∀ f t b d p, (flds f t b d p).lookup m = none) (h : PE X e (tMeth C m (SpF K cv np F) [] E (tVar i) (tG B (pA B) fs))) : SE X B e (methL i np F fs) := by
  subst hK hcv hE
  refine pe_weak h fun σ H Q h => ?_
  obtain ⟨env, O, n, s, post⟩ := h
  obtain ⟨j, l, hi, hl, post⟩ := lis_post (P := fun r => Post B (pE B O) H r Q) (fun z => z) post
  obtain ⟨la, hj, hσ, ⟨vf, vt, vb, vd, vs, e1, e2, _⟩, hC'⟩ := s.lis hi hl
  rw [hC] at hC'; cases hC'
  refine ⟨_, hσ, la.a, la.dx, _, rfl, e1, hm .., ?_⟩
  simp only [List.append_nil]
  refine tG_seq1 (P := pA B) (g := fun env (as : List SV) => if as.length + 1 = np then F (.lis j :: as) else fault) lat_E s post fun as vs n1 H1 s1 e1 p1 q1 => ?_
  by_cases hl : as.length + 1 = np
  · rw [if_pos hl] at q1
    refine ⟨by rw [List.length_cons, ArgsOk.length p1]; exact hl, B.T, O, n1, .lis j :: as, s1.dom, s1.town, ⟨s1.tO, s1.tK, s1.tC⟩, .cons ⟨la, hj, rfl⟩ (ArgsOk.to (B := B) (B' := ⟨B.K, H1, O, B.T, B.E, B.cv⟩) rfl rfl p1), ?_⟩
    cases r : F (.lis j :: as) n1 with
    | ok d m => rw [r] at q1; exact q1
    | exc c m => rw [r] at q1; exact fun H' ex tw => q1 H' (s1.fr1.trans ex) tw
    | bad => rw [r] at q1; exact q1
  · rw [if_neg hl] at q1; exact q1.elim
theorem se_methL0 {i : Nat} {m : Str} {F : List SV → M D} {K : PySem.W.Frag} {cv : Nat → Value} {E : XK} (hK : B.K = K) (hcv : B.cv = cv) (hE : B.E = E) (hC : cv 100 = .ref C) (hm : ∀ f t b d p, (flds f t b d p).lookup m = none) (h : PE X e (tMeth C m (SpF K cv 1 F) [] E (tVar i) tNil)) : SE X B e (methL i 1 F nilE) := by
  refine se_methL hK hcv hE hC hm (pe_weak h fun σ H Q h => ?_)
  obtain ⟨v, hv, a, dx, fs, e1, e2, e3, q⟩ := h
  refine ⟨v, hv, a, dx, fs, e1, e2, e3, ?_⟩
  obtain ⟨env, O, n, s, post⟩ := q
  exact post [] H (Ext.refl _ _) s.town .nil
/-! ### a listener as an argument -/
def lisM (fr : M (List SV)) : Option (Option SV) → M (List SV)
  | some (some (.lis j)) => seq fr fun r => ret (.lis j :: r)
  | _ => fault
def lisA (i : Nat) (fr : Env → M (List SV)) : Env → M (List SV) := fun env => lisM (fr env) env[i]?
theorem sa_lis {i : Nat} {x : Str} {fr : Env → M (List SV)} (ha : PE X (.Name x pos) (tVar i)) (hr : SA X B es fr) (hs : starEach (.Name x pos :: es) X.env = (false, eval (.Name x pos) X.env) :: starEach es X.env := by rfl) : SA X B (.Name x pos :: es) (lisA i fr) :=
  pa_weak (pa_cons ha hr hs) fun σ H Q h => by
    obtain ⟨env, O, n, s, post⟩ := h
    have post : Post B (pA B O) H (lisM (fr env) env[i]? n) Q := post
    rcases e : env[i]? with _ | _ | x | xs | _ | ns | _ | j | _ <;> rw [e] at post <;> first | exact post.elim | skip
    obtain ⟨v, hv, r⟩ := s.slot i _ e
    refine ⟨v, hv, ?_⟩
    refine tG_seq1 (g := fun env r => ret (SV.lis j :: r)) lat_A s post fun y vy n2 H2 s2 e2 p2 q2 => ?_
    exact q2 _ H2 (Ext.refl _ _) s2.town (.cons (show ArgOk B H2 O v (.lis j) from r) p2)
end
end Sim

/-! Listeners are made. -/
namespace Sim
open PySem PySem.Spec L2
def newLS (d : D) : LS := ⟨d, .none, .tuple [], .tuple [], []⟩
def spNew (K : PySem.W.Frag) (cv : Nat → Value) (C : Addr) (Fn : List SV → M D) : Sp := fun vs H Q E => vs.length = 2 ∧ ∃ (x dx : Addr) (v : V) (d : D) (T : Hot) (O : OS) (n : Sta), vs = [.ref x, v] ∧ H x = some (.ins C dx []) ∧ ¬ T.has x ∧ O x ∧ (∀ a, O a → NF H a) ∧ Town T H n ∧ ((∀ a, T.has a → O a) ∧ T.Fit K cv) ∧ Rep K H O v d ∧
  match Fn [.d d] n with
  | .ok _ n' => ∀ H' pa b t, (∀ a o, a ≠ x → ¬ T.has a → H a = some o → H' a = some o) → Town T H' n' → H pa = none → H' x = some (.ins C dx (flds v .non b t pa)) → H' pa = some (.lst []) → Rep K H' (NF H') b (.tuple []) → Rep K H' (NF H') t (.tuple []) → Q .non H'
  | .exc c n' => ∀ H', Ext T H H' → Town T H' n' → E (cv c) none H'
  | .bad => False
abbrev tTup0 : TE := fun σ H Q => tNil σ H fun xs H1 => xs.length ≤ sizeLine ∧ NewT H1 xs Q
theorem rep_tup0 {K : PySem.W.Frag} {H : Hp} {p : Addr} {o : Obj} (od : o.dict = none) (h : H p = some (.frz o (.tup []))) : Rep K H (NF H) (.ref p) (.tuple []) := .tup (.inl ⟨o, od, h, not_nf h⟩) .nil
theorem init_sim {P : Program} {w : World} {K : PySem.W.Frag} {mg : Str → Option Value} {base : Heap} {cv : Nat → Value} {qual : Str} {st : Stmt} {f C : Addr} {fd : FuncData} {k : Nat} {Fn : List SV → M D} {sc : Scope} (F : Fun K "__init__" qual st f fd) (hsc : defScope st = sc) (S : FnScope ["self", "form"] ["self", "form"] sc)
    (hc : Cls K C) (h1 : NoAttr K C "form") (h2 : NoAttr K C "tick") (h3 : NoAttr K C "bits") (h4 : NoAttr K C "told") (h5 : NoAttr K C "past")
    (hbody : ∀ (cdv : Value) (A : Around) (outer : List PySem.Env) (s : Shared) (H : Hp) (E : XK), Room k (A.deeper (PyProof.Rows.envOfC qual sc s.heap.objs.size f cdv)) →
      PSs (cxOf (L2N.CX P w) P w K mg base ["self", "form"] qual sc f cdv A outer s H E) (defBody st) (tSeq (tDrop (tCall (SpF K cv 1 Fn) [] E (tCons (tVar 1) tNil))) (tSeq (sFld K (tVar 0) (tVar 1) "form") (tSeq (sFld K (tVar 0) (tC .non) "tick") (tSeq (sFld K (tVar 0) tTup0 "bits") (tSeq (sFld K (tVar 0) tTup0 "told") (sFld K (tVar 0) (tLst tNil) "past"))))))) :
    FnOk P w K mg base (L2N.CX P w) (k + 1) f fd ["self", "form"] (spNew K cv C Fn) := by
  subst hsc
  obtain ⟨oc, od, kV, doc, pm, an, cdv, ct, osl, rfl, lk, hcd⟩ := F.ex
  refine fn_of lk hcd S (fun vs H Q E h => h.1) fun A outer s H vs Q E hr hsp => ?_
  obtain ⟨_, x, dx, v, d, T, O, n, rfl, hx, nx, ox, dom, tw, tO, rv, post⟩ := hsp
  refine ⟨_, hbody cdv A outer s H E hr, ?_⟩
  refine ⟨v, rfl, ?_⟩
  refine ⟨rfl, T, O, n, [.d d], dom, tw, tO, .cons rv .nil, ?_⟩
  cases r : Fn [.d d] n with
  | exc c n' => rw [r] at post; exact post
  | bad => rw [r] at post; exact post
  | ok y n' =>
    rw [r] at post
    intro _ H1 ex1 tw1 _
    have hx1 : H1 x = some (.ins C dx []) := ex1 x _ nx hx
    have nf : ∀ {H2 : Hp} {fs : List (Str × V)}, H2 x = some (.ins C dx fs) → NF H2 x := fun h => ⟨_, h, rfl⟩
    refine ⟨v, rfl, .ref x, rfl, x, C, dx, [], rfl, hx1, hc, h1, by decide, ?_⟩
    refine ⟨.ref x, rfl, x, C, dx, _, rfl, upd_same, hc, h2, by show 1 < 1000; decide, ?_⟩
    rw [upd_upd]
    refine ⟨Nat.zero_le _, fun p o hp od => ⟨.ref x, rfl, x, C, dx, _, rfl, (by rw [upd_ne (fun z => by rw [← z, upd_same] at hp; cases hp)]; exact upd_same), hc, h3, by show 2 < 1000; decide, ?_⟩⟩
    have npx : p ≠ x := fun z => by rw [z, upd_same] at hp; cases hp
    refine ⟨Nat.zero_le _, fun q o' hq od' => ⟨.ref x, rfl, x, C, dx, _, rfl, (by rw [upd_ne (fun z => by rw [← z, upd_same] at hq; cases hq)]; exact upd_same), hc, h4, by show 3 < 1000; decide, ?_⟩⟩
    have nqx : q ≠ x := fun z => by rw [z, upd_same] at hq; cases hq
    have nqp : q ≠ p := fun z => by rw [z, upd_ne npx, upd_same] at hq; cases hq
    refine ⟨Nat.zero_le _, fun pa hpa => ⟨.ref x, rfl, x, C, dx, _, rfl, (by rw [upd_ne (fun z => by rw [← z, upd_same] at hpa; cases hpa)]; exact upd_same), hc, h5, by show 4 < 1000; decide, ?_⟩⟩
    have nax : pa ≠ x := fun z => by rw [z, upd_same] at hpa; cases hpa
    have naq : pa ≠ q := fun z => by rw [z, upd_ne nqx, upd_same] at hpa; cases hpa
    have nap : pa ≠ p := fun z => by rw [z, upd_ne npx, upd_ne (Ne.symm nqp), upd_ne npx, upd_same] at hpa; cases hpa
    have hp1 : H1 p = none := by rw [upd_ne npx] at hp; exact hp
    have hq1 : H1 q = none := by rw [upd_ne nqx, upd_ne nqp, upd_ne nqx] at hq; exact hq
    have ha1 : H1 pa = none := by rw [upd_ne nax, upd_ne naq, upd_ne nax, upd_ne nap, upd_ne nax] at hpa; exact hpa
    have t1 := tw1.cool (o := .ins C dx [("form", v), ("tick", .non)]) nx (nf hx1)
    have t2 := same_town (same_new (o := .frz o (.tup [])) hp) t1
    have t3 := t2.cool (o := .ins C dx [("form", v), ("tick", .non), ("bits", .ref p)]) nx (nf (by rw [upd_ne (Ne.symm npx)]; exact upd_same))
    have t4 := same_town (same_new (o := .frz o' (.tup [])) hq) t3
    have t5 := t4.cool (o := .ins C dx [("form", v), ("tick", .non), ("bits", .ref p), ("told", .ref q)]) nx (nf (by rw [upd_ne (Ne.symm nqx)]; exact upd_same))
    have t6 := same_town (same_new (o := .lst []) hpa) t5
    have t7 := t6.cool (o := .ins C dx (flds v .non (.ref p) (.ref q) pa)) nx (nf (by rw [upd_ne (Ne.symm nax)]; exact upd_same))
    refine post _ pa (.ref p) (.ref q) (fun a o na hh hH => ?_) t7 ?_ upd_same (by rw [upd_ne nax]; exact upd_same) (rep_tup0 (o := o) od ?_) (rep_tup0 (o := o') od' ?_)
    · have h' := ex1 a o hh hH
      have b1 : a ≠ p := ne_of_none h' hp1
      have b2 : a ≠ q := ne_of_none h' hq1
      have b3 : a ≠ pa := ne_of_none h' ha1
      rw [upd_ne na, upd_ne b3, upd_ne na, upd_ne b2, upd_ne na, upd_ne b1, upd_ne na]; exact h'
    · exact none_back ex1 tw1 ha1
    · rw [upd_ne npx, upd_ne (Ne.symm nap), upd_ne npx, upd_ne (Ne.symm nqp), upd_ne npx]; exact upd_same
    · rw [upd_ne nqx, upd_ne (Ne.symm naq), upd_ne nqx]; exact upd_same
/-! ### the frame with one listener more -/
def addL (T : Hot) (C : Addr) (la : LA) : Hot := ⟨T.t, T.K, C, T.L ++ [la]⟩
theorem addL_has {T : Hot} {C : Addr} {la : LA} {a : Addr} : (addL T C la).has a ↔ T.has a ∨ a = la.a ∨ a = la.pa := by
  unfold addL Hot.has
  simp only [List.mem_append, List.mem_singleton]
  constructor
  · rintro (h | ⟨l, h | h, q⟩)
    · exact .inl (.inl h)
    · exact .inl (.inr ⟨l, h, q⟩)
    · subst h; exact .inr q
  · rintro ((h | ⟨l, h, q⟩) | h)
    · exact .inl h
    · exact .inr ⟨l, .inl h, q⟩
    · exact .inr ⟨la, .inr rfl, h⟩
theorem LsOk.append {K : PySem.W.Frag} {C : Addr} {H : Hp} {la : LA} {l : LS} (h : L1 K C H la l) : ∀ {las : List LA} {ls : List LS}, LsOk K C H las ls → LsOk K C H (las ++ [la]) (ls ++ [l])
  | _, _, .nil => .cons h .nil
  | _, _, .cons r t => .cons r (LsOk.append h t)
theorem LsOk.front {K : PySem.W.Frag} {C : Addr} {H : Hp} {la : LA} : ∀ {las : List LA} {ls : List LS}, LsOk K C H (las ++ [la]) ls → LsOk K C H las (ls.take las.length)
  | [], ls, h => by simp; exact .nil
  | _ :: las, _, .cons r t => .cons r (LsOk.front t)
theorem LsOk.cls {K : PySem.W.Frag} {C C' : Addr} {H : Hp} {las : List LA} {ls : List LS} (e : ∀ l ∈ las, C = C') (h : LsOk K C H las ls) : LsOk K C' H las ls := by
  cases las with
  | nil => cases h; exact .nil
  | cons a r => rw [← e a List.mem_cons_self]; exact h
theorem Town.front {T : Hot} {C : Addr} {la : LA} {H : Hp} {n : Sta} (e : ∀ l ∈ T.L, C = T.C) (h : Town (addL T C la) H n) : Town T H { n with ls := n.ls.take T.L.length } := by
  obtain ⟨h1, h2, h3, h4⟩ := h
  refine ⟨h1, (LsOk.front h2).cls e, fun l hl => h3 l (List.mem_append_left _ hl), (List.pairwise_append.mp h4).1⟩
section
variable {B : Bd} {env : Env} {O : OS} {n n' : Sta} {σ : L2.St} {H H' : Hp} {C : Addr}
theorem Sim.make (s : Sim B env O n σ H) {la : LA} {v b t : V} {d : D} (hC : B.cv 100 = .ref C) (hx : H la.a = none) (hpa : H la.pa = none) (ex : Ext B.T H H') (tw : Town B.T H' n') (e1 : H' la.a = some (.ins C la.dx (flds v .non b t la.pa))) (e2 : H' la.pa = some (.lst []))
    (rv : Rep B.K H' (NF H') v d) (rb : Rep B.K H' (NF H') b (.tuple [])) (rt : Rep B.K H' (NF H') t (.tuple [])) :
    Sim { B with T := addL B.T C la } env (fun a => O a ∨ a = la.a ∨ a = la.pa) { n' with ls := n'.ls ++ [newLS d] } σ H' := by
  have ce : ∀ l ∈ B.T.L, B.T.C = C := fun l hl => by have := s.tC l hl; rw [hC] at this; cases this; rfl
  have st : Step O H (fun a => O a ∨ a = la.a ∨ a = la.pa) H' := fun a o h na => ⟨ex a o (fun z => na (s.tO a z)) h, fun z => z.elim na fun z => z.elim (ne_of_none h hx) (ne_of_none h hpa)⟩
  have npx : la.pa ≠ la.a := fun z => by rw [z, e1] at e2; cases e2
  refine ⟨s.len, fun i sv h => ?_, s.sep, fun a h => ?_, ?_, fun a h => ?_, fun a o na h => ?_, fun a h => ?_, fun a h => .inl (s.fr3 a h), s.tK, fun l hl => hC⟩
  · obtain ⟨w, h1, h2⟩ := s.slot i sv h
    refine ⟨w, h1, ?_⟩
    have cold : ∀ a, H a ≠ none → ¬ B.T.has a → ¬ (addL B.T C la).has a := fun a na nh z => by
      rcases addL_has.mp z with q | q | q
      · exact nh q
      · exact na (q ▸ hx)
      · exact na (q ▸ hpa)
    have h3 := h2.to st fun w a _ o1 ne => ⟨.inl o1, fun o q => ex a o ne q⟩
    cases sv with
    | d x => exact h3
    | own xs =>
      obtain ⟨a, _, e3, _, _, ne, hv, _⟩ := h2
      obtain ⟨a', vs, e4, o1, o2, _, hv', r⟩ := h3
      cases e3; cases e4
      exact ⟨a, vs, rfl, o1, o2, cold a (by rw [hv]; simp) ne, hv', r⟩
    | town => exact h3
    | scr ns => exact h3
    | ex a => exact h3
    | lis k =>
      obtain ⟨l, h4, h5⟩ := h3
      exact ⟨l, by show (B.T.L ++ [la])[k]? = some l; rw [List.getElem?_append_left (List.getElem?_eq_some_iff.mp h4).1]; exact h4, h5⟩
    | dic kvs =>
      obtain ⟨a, _, _, e3, _, _, ne, hv, _⟩ := h2
      obtain ⟨a', o, vs, e4, o1, o2, _, hv', r⟩ := h3
      cases e3; cases e4
      exact ⟨a, o, vs, rfl, o1, o2, cold a (by rw [hv]; simp) ne, hv', r⟩
  · rcases h with h | h | h
    · exact dom_ext ex tw s.dom a h
    · rw [h]; exact ⟨_, e1, rfl⟩
    · rw [h]; exact ⟨_, e2, rfl⟩
  · refine ⟨tw.1, LsOk.append ⟨v, .non, b, t, [], e1, e2, s.tK ▸ rv, .non, s.tK ▸ rb, s.tK ▸ rt, .nil⟩ (tw.2.1.cls ce), fun l hl => ?_, List.pairwise_append.mpr ⟨tw.2.2.2, List.pairwise_singleton _ _, fun x hx' y hy => ?_⟩⟩
    · rcases List.mem_append.mp hl with q | q
      · exact tw.2.2.1 l q
      · rw [List.mem_singleton.mp q]
        exact fun z => s.town.cold hpa (.inl z)
    · rw [List.mem_singleton.mp hy]
      exact ⟨fun z => s.town.cold hx (.inr ⟨x, hx', .inl z.symm⟩), fun z => s.town.cold hpa (.inr ⟨x, hx', .inr z.symm⟩)⟩
  · rcases addL_has.mp h with q | q
    · exact .inl (s.tO a q)
    · exact .inr q
  · exact ex a o (fun z => na (addL_has.mpr (.inl z))) (s.fr1 a o (fun z => na (addL_has.mpr (.inl z))) h)
  · rcases h with h | h | h
    · exact s.fr2 a h
    · rw [h]; exact .inr (none_back s.fr1 s.town hx)
    · rw [h]; exact .inr (none_back s.fr1 s.town hpa)
theorem ext_front {T : Hot} {la : LA} {H0 : Hp} (h1 : H0 la.a = none) (h2 : H0 la.pa = none) (h : Ext (addL T C la) H0 H') : Ext T H0 H' := fun a o na q => h a o (fun z => by
  rcases addL_has.mp z with w | w | w
  · exact na w
  · exact ne_of_none q h1 w
  · exact ne_of_none q h2 w) q
end
/-! ### the semantics -/
def newL {α : Type} (l : LS) (good : α → Bool) (k : Nat → M α) : M α := fun s => match k s.ls.length { s with ls := s.ls ++ [l] } with
  | .ok a s' => if good a = true then .ok a { s' with ls := s'.ls.take s.ls.length } else .bad
  | .exc c s' => .exc c { s' with ls := s'.ls.take s.ls.length }
  | .bad => .bad
def makeM {α : Type} (Fn : List SV → M D) (d : D) (good : α → Bool) (k : Nat → M α) : M α := seq (Fn [.d d]) fun _ => if noList d = true then newL (newLS d) good k else fault
def isRet : Fl → Bool
  | .ret _ => true
  | .rn _ => true
  | _ => false
def newS (i : Nat) (Fn : List SV → M D) (fa : Env → M D) (g : Env → M Fl) : Env → M Fl := fun env => seq (fa env) fun d => makeM Fn d isRet fun k => g (env.set i (some (.lis k)))
section
variable {X : Cx} {B : Bd} {st : Stmt} {rest : List Stmt} {C : Addr} {fa : Env → M D} {Fn : List SV → M D} {g : Env → M Fl} {env : Env} {O : OS} {n : Sta} {σ : L2.St} {H : Hp}
/-- __init__'s promise, at a new instance -/
theorem make_run {α : Type} (s : Sim B env O n σ H) {v : V} {d : D} (rv : Rep B.K H O v d) (hC : B.cv 100 = .ref C) {x dx : Addr} (hx : H x = none) (hdx : H dx = none) (ne : dx ≠ x) {good : α → Bool} {k : Nat → M α} {W : R α → Prop} (hb : W .bad → False) (hxp : ∀ c m, W (.exc c m) → XPost B c m) (post : W (makeM Fn d good k n)) {Q : VK}
    (next : ∀ (la : LA) (n' : Sta) (H' : Hp), la.a = x → H la.pa = none → n'.ls.length = B.T.L.length + 1 → Ext B.T H H' → Sim { B with T := addL B.T C la } env (fun a => O a ∨ a = la.a ∨ a = la.pa) n' σ H' → W (match k B.T.L.length n' with
      | .ok a s' => if good a = true then .ok a { s' with ls := s'.ls.take B.T.L.length } else .bad
      | .exc c s' => .exc c { s' with ls := s'.ls.take B.T.L.length }
      | .bad => .bad) → Q (.ref x) H') : spNew B.K B.cv C Fn [.ref x, v] (upd (upd H dx (.own x)) x (.ins C dx [])) (fun u H2 => u = .non ∧ Q (.ref x) H2) B.E := by
  have sm1 : Same H (upd H dx (.own x)) := same_new hdx
  have hx1 : upd H dx (.own x) x = none := by rw [upd_ne (Ne.symm ne)]; exact hx
  have sm2 : Same (upd H dx (.own x)) (upd (upd H dx (.own x)) x (.ins C dx [])) := same_new hx1
  have sm : Same H (upd (upd H dx (.own x)) x (.ins C dx [])) := fun a o h => sm2 a o (sm1 a o h)
  have st : Step O H (addO O x) (upd (upd H dx (.own x)) x (.ins C dx [])) := fun a o h na => ⟨sm a o h, fun z => z.elim na (ne_of_none h hx)⟩
  refine ⟨rfl, x, dx, v, d, B.T, addO O x, n, rfl, upd_same, s.town.cold hx, .inr rfl, fun a h => ?_, same_town sm s.town, ⟨fun a h => .inl (s.tO a h), s.tK, s.tC⟩, Rep.step st _ _ rv, ?_⟩
  · rcases h with h | h
    · obtain ⟨o, e, no⟩ := s.dom a h
      exact ⟨o, sm a o e, no⟩
    · rw [h]; exact ⟨_, upd_same, rfl⟩
  unfold makeM seq at post
  cases r : Fn [.d d] n with
  | bad => rw [r] at post; exact hb post
  | exc c m =>
    rw [r] at post
    exact fun H' ex tw => hxp c m post H' (s.fr1.trans ((same_ext sm).trans ex)) tw
  | ok y n' =>
    rw [r] at post
    by_cases hd : noList d = true
    · simp only [if_pos hd] at post
      intro H' pa b t k1 k2 k3 k4 k5 k6 k7
      refine ⟨rfl, ?_⟩
      have hpa : H pa = none := by
        cases e : H pa with
        | none => rfl
        | some o => rw [sm pa o e] at k3; cases k3
      have ex : Ext B.T H H' := fun a o na h => k1 a o (ne_of_none h hx) na (sm a o h)
      have len : n'.ls.length = B.T.L.length := k2.2.1.len.symm
      have rv' : Rep B.K H' (NF H') v d := Rep.nf d v hd (Rep.step (step_of s.tO ex) _ _ rv)
      refine next ⟨x, dx, pa⟩ { n' with ls := n'.ls ++ [newLS d] } H' rfl hpa (by show (n'.ls ++ [newLS d]).length = _; rw [List.length_append, len]; rfl) ex (s.make (la := ⟨x, dx, pa⟩) hC hx hpa ex k2 k4 k5 rv' k6 k7) ?_
      unfold newL at post
      rw [len] at post
      exact post
    · simp only [if_neg hd] at post
      exact (hb post).elim
theorem ss_new {i : Nat} {K : PySem.W.Frag} {cv : Nat → Value} {E : XK} (hK : B.K = K) (hcv : B.cv = cv) (hE : B.E = E) (hC : cv 100 = .ref C) (h : PS X st (tAsg (tMake C (spNew K cv C Fn) [] E (tCons (tG B (pE B) fa) tNil)) (gName i)))
    (hr : ∀ B' : Bd, B'.K = K → B'.cv = cv → B'.E = E → SSs X B' rest g) : SSs X B (st :: rest) (newS i Fn fa g) := by
  subst hK hcv hE
  have hr2 : PSs X rest (fun De σ H' => ∃ B' : Bd, (B'.K = B.K ∧ B'.cv = B.cv ∧ B'.E = B.E) ∧ tS B' g De σ H') :=
    ⟨fun pins s' σ H' De I h => by
      obtain ⟨B', ⟨h1, h2, h3⟩, h⟩ := h
      exact (hr B' h1 h2 h3).run pins s' σ H' De I h⟩
  refine pss_weak (pss_cons h hr2) fun De σ H h => ?_
  obtain ⟨env, O, n, s, post⟩ := h
  refine tS_seq (g := fun env d => makeM Fn d isRet fun k => g (env.set i (some (.lis k)))) s post fun d v n1 H1 s1 ex1 p1 q1 => ?_
  intro x dx hx hdx ne
  refine make_run s1 p1 hC hx hdx ne (W := fun r => SPost B De O H1 r) (fun z => z) (fun c m z => z) q1 (Q := fun u H2 => gName i u σ H2 _) ?_
  intro la n' H' ela hpa len ex sm q
  refine ⟨{ B with T := addL B.T C la }, ⟨rfl, rfl, rfl⟩, env.set i (some (.lis B.T.L.length)), _, n', sm.setV i rfl ⟨la, by show (B.T.L ++ [la])[B.T.L.length]? = some la; simp, by rw [ela]⟩, ?_⟩
  have z1 : B.H0 la.a = none := none_back s1.fr1 s1.town (by rw [ela]; exact hx)
  have z2 : B.H0 la.pa = none := none_back s1.fr1 s1.town hpa
  have ce : ∀ l ∈ B.T.L, C = B.T.C := fun l hl => by have := s1.tC l hl; rw [hC] at this; cases this; rfl
  cases r : g (env.set i (some (.lis B.T.L.length))) n' with
  | bad => rw [r] at q; exact q
  | exc c m =>
    rw [r] at q
    exact fun H2 e2 t2 => q H2 (ext_front z1 z2 e2) (t2.front ce)
  | ok fl m =>
    rw [r] at q
    cases fl with
    | ret d =>
      exact fun v H2 e2 t2 r2 => q v H2 (ext_front z1 z2 e2) (t2.front ce) r2
    | rn xs =>
      exact fun v H2 e2 t2 r2 => q v H2 (ext_front z1 z2 e2) (t2.front ce) r2
    | next _ => exact q.elim
    | brk _ => exact q.elim
    | cont _ => exact q.elim
/-! ### C(e).m(..) -/
def newE (np : Nat) (Fn F : List SV → M D) (fa : Env → M D) (fs : Env → M (List SV)) : Env → M D := fun env => seq (fa env) fun d => makeM Fn d (fun _ => true) fun k => seq (fs env) fun as => if as.length + 1 = np then F (.lis k :: as) else fault
theorem new_run {m : Str} {np : Nat} {F : List SV → M D} {fs : Env → M (List SV)} {t : TA} (hC : B.cv 100 = .ref C) (hm : ∀ f t b d p, (flds f t b d p).lookup m = none)
    (ha : ∀ (B' : Bd) (σ : L2.St) (H : Hp) (Q : List V → Hp → Prop), B'.K = B.K → B'.cv = B.cv → B'.E = B.E → tG B' (pA B') fs σ H Q → t σ H Q) {σ : L2.St} {H : Hp} {Q : VK} (h : tG B (pE B) (newE np Fn F fa fs) σ H Q) :
    tMeth C m (SpF B.K B.cv np F) [] B.E (tMake C (spNew B.K B.cv C Fn) [] B.E (tCons (tG B (pE B) fa) tNil)) t σ H Q := by
  obtain ⟨env, O, n, s, post⟩ := h
  refine tG_seq1 (g := fun env d => makeM Fn d (fun _ => true) fun k => seq (fs env) fun as => if as.length + 1 = np then F (.lis k :: as) else fault) lat_E s post fun d v n1 H1 s1 ex1 p1 q1 => ?_
  intro x dx hx hdx ne
  refine make_run s1 p1 hC hx hdx ne (W := fun r => Post B (pE B O) H1 r Q) (fun z => z) (fun c m z => z) q1 (Q := fun u H2 => ∃ a dx fs, u = .ref a ∧ H2 a = some (.ins C dx fs) ∧ fs.lookup m = none ∧ t σ H2 fun vs H3 => SpF B.K B.cv np F (u :: (vs ++ [])) H3 Q B.E) ?_
  intro la n' H' ela hpa len ex sm q
  have hl : n'.ls[B.T.L.length]? ≠ none := by rw [List.getElem?_eq_getElem (by omega)]; simp
  obtain ⟨l, hl'⟩ := Option.ne_none_iff_exists'.mp hl
  have hj : (addL B.T C la).L[B.T.L.length]? = some la := by show (B.T.L ++ [la])[B.T.L.length]? = some la; simp
  obtain ⟨l', _, vf, vt, vb, vd, vs, e1, _⟩ := sm.town.2.1.at hj
  refine ⟨x, la.dx, _, rfl, by rw [← ela]; exact e1, hm .., ?_⟩
  have z1 : H1 la.a = none := by rw [ela]; exact hx
  have ce : ∀ l ∈ B.T.L, C = B.T.C := fun l hl => by have := s1.tC l hl; rw [hC] at this; cases this; rfl
  have w1 : B.H0 la.a = none := none_back s1.fr1 s1.town z1
  have w2 : B.H0 la.pa = none := none_back s1.fr1 s1.town hpa
  simp only [List.append_nil]
  refine ha { B with T := addL B.T C la } σ H' _ rfl rfl rfl ⟨env, _, n', sm, ?_⟩
  unfold seq at q
  cases r : fs env n' with
  | bad => rw [r] at q; exact q
  | exc c m' =>
    rw [r] at q
    exact fun H2 e2 t2 => q H2 (ext_front w1 w2 e2) (t2.front ce)
  | ok as m' =>
    rw [r] at q
    intro vs H2 ex2 tw2 pa2
    have sm2 := sm.ext ex2 tw2
    have fr : Ext B.T H1 H2 := fun a o na h => ex2 a o (fun z => by
      rcases addL_has.mp z with w | w | w
      · exact na w
      · exact ne_of_none h z1 w
      · exact ne_of_none h hpa w) (ex a o na h)
    by_cases hnp : as.length + 1 = np
    · simp only [if_pos hnp] at q
      refine ⟨by rw [List.length_cons, ArgsOk.length pa2]; exact hnp, addL B.T C la, _, m', .lis B.T.L.length :: as, sm2.dom, sm2.town, ⟨sm2.tO, sm2.tK, sm2.tC⟩, .cons ⟨la, hj, by rw [ela]⟩ (ArgsOk.to (B := { B with T := addL B.T C la }) (B' := ⟨B.K, H2, _, addL B.T C la, B.E, B.cv⟩) rfl rfl pa2), ?_⟩
      cases r2 : F (.lis B.T.L.length :: as) m' with
      | ok d2 m2 =>
        rw [r2] at q
        exact fun v3 H3 e3 t3 r3 => q v3 H3 (fun a o na h => e3 a o (fun z => by
          rcases addL_has.mp z with w | w | w
          · exact na w
          · exact ne_of_none h z1 w
          · exact ne_of_none h hpa w) (fr a o na h)) (t3.front ce) (Rep.anti (fun _ z => .inl z) _ _ r3)
      | exc c m2 =>
        rw [r2] at q
        exact fun H3 e3 t3 => q H3 (ext_front w1 w2 (fun a o na h => e3 a o na (sm2.fr1 a o na h))) (t3.front ce)
      | bad => rw [r2] at q; exact q
    · simp only [if_neg hnp] at q
      exact q.elim
theorem se_newM0 {e : Expr} {m : Str} {F : List SV → M D} {K : PySem.W.Frag} {cv : Nat → Value} {E : XK} (hK : B.K = K) (hcv : B.cv = cv) (hE : B.E = E) (hC : cv 100 = .ref C) (hm : ∀ f t b d p, (flds f t b d p).lookup m = none)
    (h : PE X e (tMeth C m (SpF K cv 1 F) [] E (tMake C (spNew K cv C Fn) [] E (tCons (tG B (pE B) fa) tNil)) tNil)) : SE X B e (newE 1 Fn F fa nilE) := by
  subst hK hcv hE
  refine pe_weak h fun σ H Q q => new_run (fs := nilE) hC hm (fun B' σ H Q _ _ _ h => ?_) q
  obtain ⟨env, O, n, s, post⟩ := h
  exact post [] H (Ext.refl _ _) s.town .nil
theorem se_newM {e e2 : Expr} {es : List Expr} {m : Str} {np : Nat} {F : List SV → M D} {fs : Env → M (List SV)} {K : PySem.W.Frag} {cv : Nat → Value} {E : XK} (hK : B.K = K) (hcv : B.cv = cv) (hE : B.E = E) (hC : cv 100 = .ref C) (hm : ∀ f t b d p, (flds f t b d p).lookup m = none)
    (ha : ∀ B' : Bd, B'.K = K → B'.cv = cv → B'.E = E → SA X B' (e2 :: es) fs)
    (h : ∀ t : TA, PA X (e2 :: es) t → PE X e (tMeth C m (SpF K cv np F) [] E (tMake C (spNew K cv C Fn) [] E (tCons (tG B (pE B) fa) tNil)) t)) : SE X B e (newE np Fn F fa fs) := by
  subst hK hcv hE
  have ha2 : PA X (e2 :: es) (fun σ H' Q => ∃ B' : Bd, (B'.K = B.K ∧ B'.cv = B.cv ∧ B'.E = B.E) ∧ tG B' (pA B') fs σ H' Q) :=
    ⟨fun pos pins s' σ H' Q I h => by
      obtain ⟨B', ⟨h1, h2, h3⟩, h⟩ := h
      exact (ha B' h1 h2 h3).run pos pins s' σ H' Q I h⟩
  exact pe_weak (h _ ha2) fun σ H Q q => new_run hC hm (fun B' σ H Q h1 h2 h3 h => ⟨B', ⟨h1, h2, h3⟩, h⟩) q
end
theorem cv100 {B : Bd} {cv : Nat → Value} {C : Addr} (h : B.cv = cv) (e : cv 100 = .ref C) : B.cv 100 = .ref C := by rw [h]; exact e
/-! ### what the top says of the class -/
def adr {mg : Str → Option Value} {x : Str} {C : Addr} (_ : mg x = some (.ref C)) : Addr := C
section
variable {K : PySem.W.Frag} {mg : Str → Option Value} {h : Heap} {R : Prop} {x qual : Str} {C : Addr}
theorem cls_use (X : K.In h) (G : h.Ns mainGlobals mg) (a : PySem.W.nsIn K mainGlobals x = some (some (.ref C))) (pg : PySem.W.plainGet K C Str.empty = true) (hd : PySem.W.hasDictIn K C = true) (po : PySem.W.plainOver K C = true) (sa : PySem.W.findIn K (.ref C) "__setattr__" = some (some (.builtin "object.__setattr__"))) (mk : PySem.W.makesIn K C = true) (kc : PySem.W.keepIn K (.ref C) = true)
    (n : mg x = some (.ref C) → Cls K C → PySem.W.makesIn K C = true → PySem.W.keepIn K (.ref C) = true → R) : R := n (PySem.W.mg_of X G a) ⟨pg, hd, po, sa⟩ mk kc
theorem attr_use {f : Str} (_ : Cls K C) (a : PySem.W.findIn K (.ref C) f = some none) (n : NoAttr K C f → R) : R := n a
theorem meth_use {st : Stmt} {ps : List Str} {f : Addr} {oc : Value} {od an : Option Addr} {osl : Array (Option Value)} {kV doc pm cdv ct : Value} (_ : Cls K C) (a : PySem.W.findIn K (.ref C) x = some (some (.ref f))) (i : PySem.W.isFn K (.ref f) = true)
    (l : K.lookup f = some ⟨oc, od, .func (PySem.W.fnOf x qual (defArgs st) (defBody st) (defScope st) .none kV doc pm an cdv ct), osl⟩) (c : PySem.W.codeIn K cdv qual = true) (k : PySem.W.keepIn K (.ref f) = true)
    (hb : ∀ (kV doc pm : Value) (an : Option Addr) (cdv ct : Value) (us : List Value), us.length = ps.length → bindArgs (PySem.W.fnOf x qual (defArgs st) (defBody st) (defScope st) .none kV doc pm an cdv ct) ⟨us, []⟩ = pure (ps.zip us))
    (n : ∀ f fd, Meth K C x f → Fun K x qual st f fd → Binds K fd ps [] → R) : R := n f _ ⟨a, i, k⟩ (fun_mk (st := st) l c k) ((fun_mk (st := st) l c k).binds hb)
end
end Sim

/-! enumerate(text). -/
namespace Sim
open PySem PySem.Spec L2
def ItS (x : Str) : It := ⟨fun i _ => i < x.cps.size, fun i H v H' => ∃ T c, v = .ref T ∧ H T = none ∧ H' = upd H T (.tup [.int (i : Nat), .str ⟨#[c]⟩]) ∧ x.cps[i]? = some c, fun i _ => i = x.cps.size⟩
theorem turn_enumS {P : Program} {w : World} {K : PySem.W.Frag} {elts : List Expr} {kk : Nat} {tpos : Pos} (e it : Addr) (x : Str) (t : Tok) (ty : String) (hty : ty = "str_ascii_iterator" ∨ ty = "str_iterator") :
    Turn P w K (.Tuple elts kk tpos) (ItS x) [e, it] e (fun i h => (∃ old, IsEnum h e it ((i : Nat) : Int) old) ∧ h.IsStrIter it ty x t i ∧ e ≠ it) where
  mem := by simp
  obj := fun i h st b hb => by
    obtain ⟨⟨old, he⟩, ⟨o, ho, hc, hd⟩, _⟩ := st
    have e' : b = e ∨ b = it := by simpa using hb
    rcases e' with z | z
    · rw [z]; exact ⟨_, he, fun v q => nomatch q⟩
    · rw [z]; exact ⟨o, ho, fun v q => by rw [hd] at q; cases q⟩
  keep := fun i h h' st k => let ⟨⟨old, he⟩, ⟨o, ho, r⟩, hne⟩ := st; ⟨⟨old, k e (by simp) _ he⟩, ⟨o, k it (by simp) o ho, r⟩, hne⟩
  item := by
    intro X hP hw hK hc i pins s σ H E I hf st hg
    subst hP hw hK
    obtain ⟨⟨old, he⟩, hit, hne⟩ := st
    have D : Draws X.prog X.w X.A.in1 it [it] x.cps.size (fun i v => ∃ c u, x.cps[i]? = some c ∧ v = .str ⟨#[c]⟩ u) (fun i h => h.IsStrIter it ty x t i) := by
      rcases hty with e | e
      · rw [e]; exact Draws.strAscii (A := X.A.in1) (show X.A.in1.handled = none from I.ok.hd hc) it x t
      · rw [e]; exact Draws.strWide (A := X.A.in1) (show X.A.in1.handled = none from I.ok.hd hc) it x t
    have hel : e < s.heap.objs.size := Heap.lt_size he
    have hil : it < s.heap.objs.size := by obtain ⟨_, q, _⟩ := hit; exact Heap.lt_size q
    refine wpAny_pyNext_enum_itemD D he hit hg hne (by simpa using hne) fun u h' tk hP ho hit' hT hsz hk => ?_
    obtain ⟨c, uu, hcx, rfl⟩ := hP
    refine ⟨_, rfl, wpAny_letOwnedTupleGo_enum (s := { s with heap := h', toks := tk + 1 }) ho fun h'' he' sb => ?_⟩
    have hT2 : h''.get? s.heap.objs.size = some { cls := .type "tuple", data := .seq #[.int i tk, .str ⟨#[c]⟩ uu] } := (sb.2 _ (Nat.ne_of_gt hel)).trans hT
    have new : ObjOk X.prog X.w (upd H s.heap.objs.size (.tup [.int (i : Nat), .str ⟨#[c]⟩])) h'' s.heap.objs.size (.tup [.int (i : Nat), .str ⟨#[c]⟩]) :=
      ⟨by show 2 ≤ sizeLine; decide, [.int i tk, .str ⟨#[c]⟩ uu], .cons ⟨_, rfl⟩ (.cons ⟨_, rfl⟩ .nil), ⟨_, hT2, rfl, _, rfl⟩⟩
    have I1 : Inv X pins σ (upd H s.heap.objs.size (.tup [.int (i : Nat), .str ⟨#[c]⟩])) { s with heap := h'', toks := tk + 1 } :=
      I.turnedNew (ch := [e, it]) (fun b ob hb q => (sb.2 b (fun z => hb (by simp [z]))).trans (hk b ob (fun z => hb (by simp [z])) (fun z => hb (by simp [z])) q)) hf (Nat.le_refl _) new
    obtain ⟨oi, hoi, roi⟩ := hit'
    refine ⟨.ref s.heap.objs.size, _, I1, rfl, ⟨_, c, rfl, I.hok.fresh (Nat.le_refl _), rfl, hcx⟩, ⟨⟨.str ⟨#[c]⟩ uu, ?_⟩, ⟨oi, (sb.2 it (Ne.symm hne)).trans hoi, roi⟩, hne⟩, fun b hb => ?_⟩
    · have e1 : ((i + 1 : Nat) : Int) = (i : Int) + 1 := by omega
      rw [e1]; exact he'
    · have hb' : b < s.heap.objs.size := by
        have e' : b = e ∨ b = it := by simpa using hb
        rcases e' with z | z
        · rw [z]; exact hel
        · rw [z]; exact hil
      rw [upd_ne (Nat.ne_of_lt hb')]
      exact (hf b hb).1
  done := by
    intro X hP hw hK hc i pins s σ H E I hf st hg
    subst hP hw hK
    obtain ⟨⟨old, he⟩, hit, hne⟩ := st
    obtain ⟨f0, f1, f2, f3, f4, f5⟩ := hf it (by simp)
    have hg : i = x.cps.size := hg
    subst hg
    have D : Draws X.prog X.w X.A.in1 it [it] x.cps.size (fun i v => ∃ c u, x.cps[i]? = some c ∧ v = .str ⟨#[c]⟩ u) (fun i h => h.IsStrIter it ty x t i) := by
      rcases hty with e | e
      · rw [e]; exact Draws.strAscii (A := X.A.in1) (show X.A.in1.handled = none from I.ok.hd hc) it x t
      · rw [e]; exact Draws.strWide (A := X.A.in1) (show X.A.in1.handled = none from I.ok.hd hc) it x t
    exact wpAny_pyNext_enum_endD D he hit fun h' eb => ⟨rfl, I.turned (t' := s.toks) (fun b o hb q => eb b o hb q) f0 f1 f3 f4 f5⟩
  self := fun A i s Q E st h => let ⟨⟨_, he⟩, _⟩ := st; wpAny_pyIter_enum he h
theorem pi_enumS {X : Cx} {e : Expr} {ta : TA} {p pos tpos : Pos} {elts : List Expr} {kk : Nat} (hg : Gl X "enumerate") (hm : X.mg "enumerate" = none) (ha : PA X [e] ta) (hs : starEach [e] X.env = [(false, eval e X.env)] := by rfl) :
    PI X (.Tuple elts kk tpos) (.Call (.Name "enumerate" p) [e] [] pos) (fun σ H R => ta σ H fun vs H1 => ∃ x, vs = [.str x] ∧ R (ItS x) H1) := by
  refine ⟨fun pins s σ H R I h => ?_⟩
  refine PyProof.Rows.Call_ (ld_blt I hg hm PyProof.Rows.boot_enumerate (PyProof.Rows.callWith_type1 (thn (ha.run pos pins s σ H _ I h) fun us s1 ⟨vs, H1, I1, r1, q1⟩ => ?_) hs rfl))
  obtain ⟨x, ex, q⟩ := q1
  subst ex
  cases r1 with
  | cons r rr =>
    cases rr
    obtain ⟨t, rfl⟩ := r
    refine call_enumerate_str fun h' he hit hsz hk => wpAny_pyIter_enum he ?_
    have I2 : L2.Inv X pins σ H1 { s1 with heap := h' } := I1.kept (t' := s1.toks) hk
    have hty : strIterType x = "str_ascii_iterator" ∨ strIterType x = "str_iterator" := by unfold strIterType; split; exact .inl rfl; exact .inr rfl
    refine ⟨s1.heap.objs.size + 1, [s1.heap.objs.size + 1, s1.heap.objs.size], _, _, H1, rfl, I2, turn_enumS (s1.heap.objs.size + 1) s1.heap.objs.size x t (strIterType x) hty, ⟨⟨.none, he⟩, hit, Nat.succ_ne_self _⟩, fun b hb => ?_, q⟩
    have e' : b = s1.heap.objs.size + 1 ∨ b = s1.heap.objs.size := by simpa using hb
    have hle : s1.heap.objs.size ≤ b := by
      rcases e' with z | z
      · rw [z]; exact Nat.le_add_right _ _
      · rw [z]; exact Nat.le_refl _
    exact I1.fpOk hle (I1.hok.fresh hle)
theorem walk_enumS (x : Str) : Walk (ItS x) x.cps.size (fun _ => True) (YPair (fun i => some (.int (i : Nat))) (fun i => (x.cps[i]?).map fun c => V.str ⟨#[c]⟩)) := by
  refine ⟨fun i _ hi _ => hi, fun _ _ => rfl, fun i H v H' _ _ y => ?_⟩
  obtain ⟨T, c, h1, h2, h3, h4⟩ := y
  exact ⟨T, .int (i : Nat), _, h1, h2, h3, rfl, by show Option.map _ x.cps[i]? = _; rw [h4]; rfl⟩
def enumSM : List D → M (List D)
  | [.str z] => if z.length ≤ big then ret (enumD (signsOf z)) else fault
  | [.list xs] => ret (enumD xs)
  | _ => fault
theorem si_enumS {X : Cx} {B : Bd} {e : Expr} {p pos : Pos} {fs : Env → M (List D)} {elts : List Expr} {kk : Nat} {tpos : Pos} (hK : B.K = X.K) (hg : Gl X "enumerate") (hm : X.mg "enumerate" = none) (ha : SRs X B [e] fs) (hs : starEach [e] X.env = [(false, eval e X.env)] := by rfl) :
    SIz X B (.Tuple elts kk tpos) (.Call (.Name "enumerate" p) [e] [] pos) (rngE enumSM fs) := by
  have base : PI X (.Tuple elts kk tpos) (.Call (.Name "enumerate" p) [e] [] pos) (fun σ H R => iEnum X.K (tG B (pRs B) fs) σ H R ∨ tG B (pRs B) fs σ H fun vs H1 => ∃ x, vs = [.str x] ∧ R (ItS x) H1) := pi_or (pi_enum hg hm ha hs) (pi_enumS hg hm ha hs)
  refine pi_weak base fun σ H Q h => ?_
  obtain ⟨env, O, n, s, post⟩ := h
  have post0 : Post B (pI (pPair B) O) H (seq (fs env) enumSM n) Q := post
  have post1 := post0
  unfold seq at post1
  cases r : fs env n with
  | exc c m => rw [r] at post1; exact .inl ⟨env, O, n, s, by rw [r]; exact post1⟩
  | bad => rw [r] at post1; exact post1.elim
  | ok ds m =>
    rw [r] at post1
    have post1 : Post B (pI (pPair B) O) H (enumSM ds m) Q := post1
    cases ds with
    | nil => exact post1.elim
    | cons d0 ds =>
      cases ds with
      | cons _ _ => cases d0 <;> exact post1.elim
      | nil =>
        cases d0 with
        | str z =>
          have post1 : Post B (pI (pPair B) O) H ((if z.length ≤ big then ret (enumD (signsOf z)) else fault) m) Q := post1
          split at post1
          · skip
            right
            refine ⟨env, O, n, s, ?_⟩
            rw [r]
            intro vs H1 ex tw p1
            obtain ⟨v, rfl, r1⟩ := Reps.one p1
            cases r1
            refine ⟨z, rfl, post1 _ H1 ex tw ?_⟩
            have el : (enumD (signsOf z)).length = z.cps.size := by simp [enumD, signsOf]
            refine it_pair el (walk_enumS z) (fun _ _ _ => trivial) fun i x y O1 H2 st hi hx hy => ?_
            cases hx
            rw [Array.getElem?_eq_getElem hi] at hy
            cases hy
            refine ⟨.int i, .str ⟨#[z.cps[i]]⟩, ?_, .int _, .str _⟩
            unfold enumD
            rw [List.getElem?_map, List.getElem?_range (by rw [← el] at hi; simpa [enumD] using hi)]
            simp [signsOf, hi]
          · exact post1.elim
        | list ds' =>
          have post1 : Post B (pI (pPair B) O) H (ret (enumD ds') m) Q := post1
          left
          refine ⟨env, O, n, s, ?_⟩
          rw [r]
          intro vs H1 ex tw p1
          obtain ⟨v, rfl, r1⟩ := Reps.one p1
          cases r1 with
          | @lst a xs _ h1 h2 =>
            refine ⟨a, xs, rfl, h1.sq, post1 _ H1 ex tw ?_⟩
            rw [← hK]
            have el : (enumD ds').length = xs.length := by rw [h2.length]; simp [enumD]
            refine it_pair el walk_enum (fun O' H' st => (h1.step st).sq) fun i x y O1 H2 st hi hx hy => ?_
            cases hx
            obtain ⟨d, hd, rd⟩ := Reps.at (Reps.step st _ _ h2) hy
            refine ⟨.int i, d, ?_, .int _, rd⟩
            unfold enumD
            rw [List.getElem?_map, List.getElem?_range (by rw [← h2.length]; exact hi)]
            simp [hd]
        | _ => exact post1.elim
end Sim

/-! Defs that hand back a new list. -/
namespace Sim
open PySem PySem.Spec L2
section
variable {X : Cx} {B : Bd} {e : Expr} {pos : Pos}
theorem Reps.anti2 {K : PySem.W.Frag} {H : Hp} {O O' : OS} (h : ∀ a, O' a → O a) {vs : List V} {ds : List D} (r : Reps K H O vs ds) : Reps K H O' vs ds := Reps.anti h _ _ r
def retN (fx : Env → M (List D)) : Env → M Fl := fun env => seq (fx env) fun xs => ret (.rn xs)
theorem ss_rn {fx : Env → M (List D)} (h : SN X B e fx) : SS X B (.Return (some e) pos) (retN fx) := by
  refine ps_weak (ps_ret h) fun De σ H h => ?_
  obtain ⟨env, O, n, s, post⟩ := h
  refine tS_seq (g := fun env xs => ret (.rn xs)) s post fun xs vx n1 H1 s1 e1 p1 q1 => ?_
  obtain ⟨a, vs, rfl, ha, ha1, r⟩ := p1
  exact q1 _ H1 s1.fr1 s1.town ⟨a, vs, rfl, none_back s.fr1 s.town ha, ha1, Reps.anti2 (fun b hb => hb.imp (s.fr3 b) id) r⟩
def rnOwn (i : Nat) : Env → M Fl := fun env => ownM (fun xs => ret (.rn xs)) env[i]?
theorem ss_rnOwn {i : Nat} (h : PE X e (tVar i)) : SS X B (.Return (some e) pos) (rnOwn i) := by
  refine ps_weak (ps_ret h) fun De σ H h => ?_
  obtain ⟨env, O, n, s, post⟩ := h
  have post : SPost B De O H (ownM (fun xs => ret (.rn xs)) env[i]? n) := post
  rcases hi : env[i]? with _ | _ | d | xs | _ | ns | _ | _ | _ <;> rw [hi] at post <;> first | exact post.elim | skip
  obtain ⟨v, hσ, a, vs, rfl, oa, n0, nt, ha, r⟩ := s.slot i _ hi
  refine ⟨_, hσ, ?_⟩
  refine post _ H s.fr1 s.town ⟨a, vs, rfl, (s.fr2 a oa).resolve_left n0, ha, Reps.anti2 (fun b hb => ?_) r⟩
  rcases hb with hb | hb
  · exact s.fr3 b hb
  · rw [hb]; exact oa
def FPostN (B : Bd) (r : R (List D)) (Q : VK) : Prop := match r with
  | .ok xs n => ∀ v H', Ext B.T B.H0 H' → Town B.T H' n → RN B H' v xs → Q v H'
  | .exc c n => XPost B c n
  | .bad => False
def SpN (K : PySem.W.Frag) (cv : Nat → Value) (np : Nat) (F : List SV → M (List D)) : Sp := fun vs H Q E =>
  vs.length = np ∧ ∃ (T : Hot) (O : OS) (n : Sta) (as : List SV), (∀ a, O a → NF H a) ∧ Town T H n ∧ ((∀ a, T.has a → O a) ∧ T.Fit K cv) ∧ ArgsOk ⟨K, H, O, T, E, cv⟩ H O vs as ∧ FPostN ⟨K, H, O, T, E, cv⟩ (F as n) Q
def finN : Fl → M (List D)
  | .rn xs => ret xs
  | _ => fault
def runN (N : Nat) (g : Env → M Fl) : List SV → M (List D) := fun as => seq (g (startE N as)) finN
theorem body_postN {B : Bd} {O : OS} {H : Hp} {x : M Fl} {n : Sta} {Q : VK} (h : FPostN B (seq x finN n) Q) : SPost B { nx := fun _ H' => Q .non H', rt := Q } O H (x n) := by
  unfold seq at h
  cases r : x n with
  | ok f n =>
    rw [r] at h
    cases f with
    | next env => exact h.elim
    | ret d => exact h.elim
    | rn xs => exact h
    | brk env => exact h.elim
    | cont env => exact h.elim
  | exc c n => rw [r] at h; exact h
  | bad => rw [r] at h; exact h
theorem fn_simN {P : Program} {w : World} {K : PySem.W.Frag} {mg : Str → Option Value} {base : Heap} {cv : Nat → Value} {x qual : Str} {st : Stmt} {f : Addr} {fd : FuncData} {N ps : List Str} {k : Nat} {g : Env → M Fl} {sc : Scope} (F : Fun K x qual st f fd) (hsc : defScope st = sc) (S : FnScope N ps sc)
    (hbody : ∀ (cdv : Value) (A : Around) (outer : List PySem.Env) (s : Shared) (H : Hp) (E : XK) (B : Bd), B.K = K → B.cv = cv → B.E = E → Room k (A.deeper (PyProof.Rows.envOfC qual sc s.heap.objs.size f cdv)) →
      SSs (cxOf (L2N.CX P w) P w K mg base N qual sc f cdv A outer s H E) B (defBody st) g) : FnOk P w K mg base (L2N.CX P w) (k + 1) f fd ps (SpN K cv ps.length (runN N.length g)) := by
  subst hsc
  obtain ⟨oc, od, kV, doc, pm, an, cdv, ct, osl, rfl, lk, hcd⟩ := F.ex
  refine fn_of lk hcd S (fun vs H Q E h => h.1) fun A outer s H vs Q E hr hsp => ?_
  obtain ⟨hl, T, O, n, as, dom, tw, tO, ha, post⟩ := hsp
  refine ⟨_, hbody cdv A outer s H E ⟨K, H, O, T, E, cv⟩ rfl rfl rfl hr, startE N.length as, O, n, start_sim dom tw tO ha, body_postN post⟩
def callN (np : Nat) (F : List SV → M (List D)) (fs : Env → M (List SV)) : Env → M (List D) := fun env => seq (fs env) fun as => if as.length = np then F as else fault
theorem sn_call {np : Nat} {F : List SV → M (List D)} {fs : Env → M (List SV)} {K : PySem.W.Frag} {cv : Nat → Value} {E : XK} (hK : B.K = K) (hcv : B.cv = cv) (hE : B.E = E) (h : PE X e (tCall (SpN K cv np F) [] E (tG B (pA B) fs))) : SN X B e (callN np F fs) := by
  subst hK hcv hE
  refine pe_weak h fun σ H Q q => ?_
  show tG B (pA B) fs σ H fun vs H1 => SpN B.K B.cv np F (vs ++ []) H1 Q B.E
  simp only [List.append_nil]
  obtain ⟨env, O, n, s, post⟩ := q
  refine tG_seq1 (g := fun env (as : List SV) => if as.length = np then F as else fault) lat_N s post fun as vs n1 H1 s1 e1 p1 q1 => ?_
  by_cases hl : as.length = np
  · rw [if_pos hl] at q1
    refine ⟨by rw [ArgsOk.length p1]; exact hl, B.T, O, n1, as, s1.dom, s1.town, ⟨s1.tO, s1.tK, s1.tC⟩, ArgsOk.to (B := B) (B' := ⟨B.K, H1, O, B.T, B.E, B.cv⟩) rfl rfl p1, ?_⟩
    cases r : F as n1 with
    | ok d m => rw [r] at q1; exact q1
    | exc c m => rw [r] at q1; exact fun H' ex tw => q1 H' (s1.fr1.trans ex) tw
    | bad => rw [r] at q1; exact q1
  · rw [if_neg hl] at q1; exact q1.elim
/-! ### new lists: by if, sorted -/
theorem sn_if {c a b : Expr} {gc : Env → M Bool} {fa fb : Env → M (List D)} (hc : ST X B c gc) (ha : SN X B a fa) (hb : SN X B b fb) : SN X B (.IfExp c a b pos) (ifE gc fa fb) := by
  refine pe_weak (pe_ifExp hc ha hb) fun σ H Q h => ?_
  obtain ⟨env, O, n, s, post⟩ := h
  refine tG_seq1 (g := fun env k => if k = true then fa env else fb env) lat_N s post fun x vx n1 H1 s1 e1 p1 q1 => ?_
  cases p1
  cases x with
  | true => exact ⟨env, O, n1, s1, q1⟩
  | false => exact ⟨env, O, n1, s1, q1⟩
def sortedDL : List D → Option (List D)
  | [.list xs] => if sortOkB xs = true then some (sortL xs) else none
  | _ => none
def rCL (B : Bd) (g : List D → Option (List D)) : List V → Hp → VK → Prop := fun vs H Q => ∃ O ds z, (∀ a, O a → NF H a) ∧ Brws B H O vs ds ∧ g ds = some z ∧ ∀ v H', Same H H' → pN B O H H' v z → Q v H'
theorem callL_sorted (hK : B.K = X.K) (hu : X.A.units + 64 < cLine) : CallR X (.builtin "sorted") (rCL B sortedDL) := by
  intro pins s σ H vs us Q I r h
  obtain ⟨O, ds, z, dom, hv, hz, q⟩ := h
  unfold sortedDL at hz
  split at hz
  · rename_i xs
    split at hz
    · rename_i hok
      cases hz
      unfold sortOkB at hok
      simp only [Bool.and_eq_true, Bool.or_eq_true, decide_eq_true_eq, List.all_eq_true] at hok
      obtain ⟨⟨⟨o1, o2⟩, o3⟩, o4⟩ := hok
      obtain ⟨v, rfl, h1⟩ := hv.one
      obtain ⟨a, ys, rfl, ra, rxs⟩ := h1.list
      obtain ⟨its, rv, hl, hzl⟩ := I.list (.inl ra)
      rw [Vals.ref1 r]
      have he := each_of (O := O) hK I rv rxs
      refine PySem.W.sorted_data (enc := fun d : D => d) (R := fun v d => ∃ x, RelV x v ∧ Rep B.K H O x d) hl.isList (he.mono fun _ _ h => h.1) (he.mono fun _ _ h => h.2) ?_ ?_ (Nat.le_trans o3 big_line) (fun b hb => ?_) fun out hlen hout => ?_
      · rw [List.map_id']
        exact fun d hd d' hd' => o1 d hd d' hd'
      · rw [List.map_id']
        rcases o2 with o2 | o2
        · left
          intro d hd
          have h1 := o2 d hd
          unfold tupConsB at h1
          split at h1
          · exact ⟨_, _, rfl⟩
          · cases h1
        · right
          intro d hd
          have h1 := o2 d hd
          refine ⟨fun z => ?_, fun xs z => ?_⟩
          · subst z; cases h1
          · subst z; cases h1
      · have := o4 b hb
        omega
      · obtain ⟨ys', rv', rp'⟩ := each_back hout
        obtain ⟨ep, he'⟩ := PyProof.Rows.sortedAll_at s.heap its (List.toArray out)
        have hlen' : ys'.length ≤ sizeLine := by rw [rv'.length, hlen]; exact Nat.le_trans o3 big_line
        have hf : H (s.heap.objs.size + 1) = none := I.hok.fresh (Nat.le_succ _)
        exact ⟨.ref _, upd H (s.heap.objs.size + 1) (.lst ys'), I.laid (t' := s.toks) (fun _ _ => PyProof.Rows.sortedAll_old) (Nat.le_succ _) ⟨hlen', out, ep, rv', he'⟩, rfl, q _ _ (same_new hf) ⟨_, ys', rfl, hf, upd_same, Reps.step (step_add hf) _ _ rp'⟩⟩
    · cases hz
  · cases hz
def callBN (g : List D → Option (List D)) (fs : Env → M (List D)) : Env → M (List D) := fun env => seq (fs env) fun ds => lift (g ds)
theorem sn_callB {id : String} {x : Str} {p : Pos} {es : List Expr} {g : List D → Option (List D)} {fs : Env → M (List D)} (hc : CallR X (.builtin id) (rCL B g)) (hg : Gl X x) (hm : X.mg x = none) (hv : bootBuiltins x = some (.builtin id)) (ha : SBs X B (e :: es) fs) (hn : x ≠ "__name__" := by decide) (hdb : (x == ("__debug__" : Str)) = false := by decide)
    (he : starEach (e :: es) X.env = (false, eval e X.env) :: starEach es X.env := by rfl) (hpl : (backTo pos (starEach es X.env)).any (·.1) = false := by rfl) : SN X B (.Call (.Name x p) (e :: es) [] pos) (callBN g fs) :=
  pe_weak (pe_callB hc hg hm hv ha hn hdb he hpl) fun σ H Q h => by
    obtain ⟨env, O, n, s, post⟩ := h
    refine tG_seq1 (g := fun env ds => lift (g ds)) lat_N s post fun x vx n1 H1 s1 e1 p1 q1 => ?_
    obtain ⟨z, hz, k⟩ := lift_post q1
    exact ⟨O, x, z, s1.dom, p1, hz, fun v H' sm r => k v H' (same_ext sm) (same_town sm s1.town) r⟩
def sortSetLM : D → M (List D)
  | .list xs => match intsOf xs with
    | some ns => if ns.length ≤ 1000 ∧ (setSortL ns).length < 64 then ret ((setSortL ns).map PyData.int) else fault
    | none => fault
  | _ => fault
def sortSetN (fa : Env → M D) : Env → M (List D) := fun env => seq (fa env) sortSetLM
theorem sn_sortSet {a : Expr} {fa : Env → M D} {p p2 pos pos2 : Pos} (hK : B.K = X.K) (hc : X.calm = true) (hg : Gl X "sorted") (hm : X.mg "sorted" = none) (hg2 : Gl X "set") (hm2 : X.mg "set" = none) (ha : SE X B a fa)
    (h1 : starEach [a] X.env = (false, eval a X.env) :: starEach [] X.env := by rfl) (h2 : (backTo pos2 (starEach [] X.env)).any (·.1) = false := by rfl) (h3 : starEach [.Call (.Name "set" p2) [a] [] pos2] X.env = (false, eval (.Call (.Name "set" p2) [a] [] pos2) X.env) :: starEach [] X.env := by rfl) (h4 : (backTo pos (starEach [] X.env)).any (·.1) = false := by rfl) :
    SN X B (.Call (.Name "sorted" p) [.Call (.Name "set" p2) [a] [] pos2] [] pos) (sortSetN fa) := by
  refine pe_weak (pe_callB (cr_sortedSet hc) hg hm (by decide +kernel) (pa_cons (pe_callTy (cr_setI hc) hg2 hm2 (by decide +kernel) (pa_cons ha pa_nil h1) (by decide) (by decide) h1 h2) pa_nil h3) (by decide) (by decide) h3 h4) fun σ H Q h => ?_
  obtain ⟨env, O, n, s, post⟩ := h
  refine tG_seq1 (g := fun env => sortSetLM) lat_N s post fun x vx n1 H1 s1 e1 p1 q1 => ?_
  unfold sortSetLM at q1
  split at q1
  · rename_i xs
    cases hns : intsOf xs with
    | none => rw [hns] at q1; exact q1.elim
    | some ns =>
      rw [hns] at q1
      dsimp only at q1
      by_cases hl : ns.length ≤ 1000 ∧ (setSortL ns).length < 64
      · rw [if_pos hl] at q1
        cases p1 with
        | @lst a' ys _ r1 r2 =>
          have ey := intsOf_reps r2 hns
          subst ey
          refine ⟨a', ns, rfl, .inl r1.1, hl.1, hl.2, fun p hp => ?_⟩
          refine ⟨p, _, _, rfl, upd_same, hl.2, fun ms p' pw mem len hp' => ?_⟩
          have em : ms = setSortL ns := rising_one pw (pw_setSort ns) fun z => by rw [mem z, decide_eq_true_eq, mem_setSort]
          subst em
          have st1 : Same H1 (upd H1 p (SetO X.w p (fun j => decide (j ∈ ns)) (setSortL ns).length)) := same_new hp
          have st2 : Same (upd H1 p (SetO X.w p (fun j => decide (j ∈ ns)) (setSortL ns).length)) (upd (upd H1 p (SetO X.w p (fun j => decide (j ∈ ns)) (setSortL ns).length)) p' (.lst ((setSortL ns).map V.int))) := same_new hp'
          have sm : Same H1 (upd (upd H1 p (SetO X.w p (fun j => decide (j ∈ ns)) (setSortL ns).length)) p' (.lst ((setSortL ns).map V.int))) := fun b o e => st2 b o (st1 b o e)
          refine q1 _ _ (same_ext sm) (same_town sm s1.town) ?_
          refine ⟨p', _, rfl, ?_, upd_same, reps_ints _⟩
          cases hq : H1 p' with
          | none => rfl
          | some o => rw [st1 p' o hq] at hp'; cases hp'
      · rw [if_neg hl] at q1; exact q1.elim
  · exact q1.elim
theorem thenM_rn (g : Env → M Fl) (xs : List D) : thenM g (.rn xs) = ret (.rn xs) := rfl
theorem loopM_rn (g : Env → M Fl) (xs : List D) : loopM g (.rn xs) = ret (.rn xs) := rfl
theorem finN_rn (xs : List D) : finN (.rn xs) = ret xs := rfl
end
end Sim

/-! Laws of the data semantics: sequences, comprehensions, loops, texts. -/
namespace Sim
open PySem PySem.Spec L2

theorem seq_r {α β : Type} (a : α) (f : α → M β) : seq (ret a) f = f a := rfl
theorem seq_f {α β : Type} (f : α → M β) : seq (fault : M α) f = fault := rfl
theorem lift_s {α : Type} (a : α) : lift (some a) = ret a := rfl
theorem noexc_r {α : Type} (a : α) : noexc (ret a) = ret a := rfl
theorem seq_assoc {α β γ : Type} (x : M α) (f : α → M β) (g : β → M γ) : seq (seq x f) g = seq x fun a => seq (f a) g := by
  funext n
  simp only [seq]
  cases x n <;> rfl
def raiseM {α : Type} (c : Nat) : M α := fun n => .exc c n
theorem seq_x {α β : Type} (c : Nat) (f : α → M β) : seq (raiseM c) f = raiseM c := rfl

/-! ### runs that end well, with at most k draws -/
def Ok {α : Type} (k : Nat) (x : M α) (P : α → Prop) : Prop := ∀ n : Sta, n.n + k ≤ big → ∃ a m, x n = .ok a m ∧ (m.n ≤ n.n + k ∧ m.ls = n.ls) ∧ P a
section
variable {α β : Type} {x : M α} {f : α → M β} {P : α → Prop} {Q : β → Prop} {k k1 k2 : Nat}
theorem Ok.ret {a : α} (h : P a) : Ok k (Sim.ret a) P := fun n _ => ⟨a, n, rfl, ⟨by omega, rfl⟩, h⟩
theorem Ok.of {a : α} (e : x = Sim.ret a) (h : P a) : Ok k x P := by rw [e]; exact Ok.ret h
theorem Ok.seq (h1 : Ok k1 x P) (h2 : ∀ a, P a → Ok k2 (f a) Q) : Ok (k1 + k2) (Sim.seq x f) Q := fun n hn => by
  obtain ⟨a, m, e, hm, p⟩ := h1 n (by omega)
  obtain ⟨b, m', e', hm', q⟩ := h2 a p m (by omega)
  exact ⟨b, m', by simp only [Sim.seq, e, e'], ⟨by omega, hm'.2.trans hm.2⟩, q⟩
theorem Ok.step (h1 : Ok k1 x P) (hk : k1 ≤ k) (h2 : ∀ a, P a → Ok (k - k1) (f a) Q) : Ok k (Sim.seq x f) Q := by
  have h := Ok.seq h1 h2
  have e : k1 + (k - k1) = k := by omega
  rw [e] at h; exact h
theorem Ok.mono {Q : α → Prop} (h : Ok k1 x P) (hk : k1 ≤ k) (q : ∀ a, P a → Q a) : Ok k x Q := fun n hn => by
  obtain ⟨a, m, e, hm, p⟩ := h n (by omega)
  exact ⟨a, m, e, ⟨by omega, hm.2⟩, q a p⟩
theorem Ok.noexc (h : Ok k x P) : Ok k (Sim.noexc x) P := fun n hn => by
  obtain ⟨a, m, e, hm, p⟩ := h n hn
  exact ⟨a, m, by simp only [Sim.noexc, e], hm, p⟩
end
theorem law_of {N : Nat} {g : Env → M Fl} {ns : List Int} (h : Ok 1000000 (g (lawEnv N ns)) fun f => f = .ret (.bool true)) : ∃ n, lawR N g ns = .ok (.bool true) n := by
  obtain ⟨a, m, e, _, rfl⟩ := h ⟨0, []⟩ (by decide)
  exact ⟨m, by simp only [lawR, seq, e, finM, ret]⟩

/-! ### comprehensions -/
theorem lc_pure {bnd : D → Env → Option Env} {gt : Env → M Bool} {fe : Env → M D} {env : Env} (e : D → Env) (p : D → Bool) (h : D → D) : ∀ ds : List D, (∀ d ∈ ds, bnd d env = some (e d)) → (∀ d ∈ ds, gt (e d) = ret (p d)) → (∀ d ∈ ds, p d = true → fe (e d) = ret (h d)) →
    lcF bnd gt fe env ds = ret ((ds.filter p).map h)
  | [], _, _, _ => rfl
  | d :: ds, hb, ht, he => by
    have ih := lc_pure e p h ds (fun x hx => hb x (List.mem_cons_of_mem _ hx)) (fun x hx => ht x (List.mem_cons_of_mem _ hx)) (fun x hx => he x (List.mem_cons_of_mem _ hx))
    simp only [lcF, hb d List.mem_cons_self, lift_s, seq_r, ht d List.mem_cons_self, noexc_r, ih]
    cases q : p d with
    | true => simp only [if_true, he d List.mem_cons_self q, noexc_r, seq_r, List.filter_cons, q, List.map_cons]
    | false => simp [List.filter_cons, q]
theorem lc_map {bnd : D → Env → Option Env} {fe : Env → M D} {env : Env} (e : D → Env) (h : D → D) (ds : List D) (hb : ∀ d ∈ ds, bnd d env = some (e d)) (he : ∀ d ∈ ds, fe (e d) = ret (h d)) : lcF bnd yesT fe env ds = ret (ds.map h) := by
  have := lc_pure (gt := yesT) e (fun _ => true) h ds hb (fun _ _ => rfl) (fun d hd _ => he d hd)
  rw [this]
  rw [List.filter_eq_self.mpr (fun _ _ => rfl)]
/-- over a list of ints (or of any f): the form one uses -/
theorem lc_mapf {γ : Type} {bnd : D → Env → Option Env} {fe : Env → M D} {env : Env} (i : γ → D) (e : γ → Env) (h : γ → D) : ∀ cs : List γ, (∀ c ∈ cs, bnd (i c) env = some (e c)) → (∀ c ∈ cs, fe (e c) = ret (h c)) → lcF bnd yesT fe env (cs.map i) = ret (cs.map h)
  | [], _, _ => rfl
  | c :: cs, hb, he => by
    have ih := lc_mapf i e h cs (fun x hx => hb x (List.mem_cons_of_mem _ hx)) (fun x hx => he x (List.mem_cons_of_mem _ hx))
    simp only [List.map_cons, lcF, hb c List.mem_cons_self, lift_s, seq_r, yesT, noexc_r, if_true, he c List.mem_cons_self]
    rw [ih]
    rfl
theorem lc_filterf {γ : Type} {bnd : D → Env → Option Env} {gt : Env → M Bool} {fe : Env → M D} {env : Env} (i : γ → D) (e : γ → Env) (p : γ → Bool) (h : γ → D) : ∀ cs : List γ, (∀ c ∈ cs, bnd (i c) env = some (e c)) → (∀ c ∈ cs, gt (e c) = ret (p c)) → (∀ c ∈ cs, p c = true → fe (e c) = ret (h c)) →
    lcF bnd gt fe env (cs.map i) = ret ((cs.filter p).map h)
  | [], _, _, _ => rfl
  | c :: cs, hb, ht, he => by
    have ih := lc_filterf i e p h cs (fun x hx => hb x (List.mem_cons_of_mem _ hx)) (fun x hx => ht x (List.mem_cons_of_mem _ hx)) (fun x hx => he x (List.mem_cons_of_mem _ hx))
    simp only [List.map_cons, lcF, hb c List.mem_cons_self, lift_s, seq_r, ht c List.mem_cons_self, noexc_r, ih]
    cases q : p c with
    | true => simp only [if_true, he c List.mem_cons_self q, noexc_r, seq_r, List.filter_cons, q, List.map_cons]
    | false => simp [List.filter_cons, q]
/-- with draws: each item keeps P -/
theorem lc_ok {bnd : D → Env → Option Env} {fe : Env → M D} {env : Env} {k : Nat} (e : D → Env) (P : D → Prop) : ∀ ds : List D, (∀ d ∈ ds, bnd d env = some (e d)) → (∀ d ∈ ds, Ok k (fe (e d)) P) → Ok (ds.length * k) (lcF bnd yesT fe env ds) fun r => r.length = ds.length ∧ ∀ x ∈ r, P x
  | [], _, _ => Ok.ret ⟨rfl, fun x hx => by cases hx⟩
  | d :: ds, hb, he => by
    have ih := lc_ok e P ds (fun x hx => hb x (List.mem_cons_of_mem _ hx)) (fun x hx => he x (List.mem_cons_of_mem _ hx))
    simp only [lcF, hb d List.mem_cons_self, lift_s, seq_r, yesT, noexc_r, if_true]
    have e1 : (d :: ds).length * k = k + ds.length * k := by simp only [List.length_cons]; rw [Nat.add_mul, Nat.one_mul, Nat.add_comm]
    rw [e1]
    refine Ok.seq (he d List.mem_cons_self).noexc fun y py => ?_
    refine (Ok.seq (k2 := 0) ih fun r pr => Ok.ret ⟨?_, ?_⟩).mono (Nat.le_refl _) fun _ h => h
    · simp [pr.1]
    · intro x hx
      rcases List.mem_cons.mp hx with rfl | hx
      · exact py
      · exact pr.2 x hx
/-! ### loops -/
theorem for_pure {S : Type} {bnd : D → Env → Option Env} {gb : Env → M Fl} (E : S → Env) (step : S → D → S) : ∀ (ds : List D) (s : S), (∀ d ∈ ds, ∀ s, ∃ e1, bnd d (E s) = some e1 ∧ gb e1 = ret (.next (E (step s d)))) → forF bnd gb ds (E s) = ret (.next (E (ds.foldl step s)))
  | [], s, _ => rfl
  | d :: ds, s, h => by
    obtain ⟨e1, h1, h2⟩ := h d List.mem_cons_self s
    simp only [forF, h1, lift_s, seq_r, h2, loopM, List.foldl_cons]
    exact for_pure E step ds (step s d) fun x hx => h x (List.mem_cons_of_mem _ hx)
/-- a loop by a word over what was done and the slots -/
theorem for_ok {bnd : D → Env → Option Env} {gb : Env → M Fl} {k : Nat} (J : List D → Env → Prop) : ∀ (ds pre : List D) (env : Env), J pre env → (∀ pre d post env, J pre env → ds = post ++ d :: (ds.drop (post.length + 1)) → ∃ e1, bnd d env = some e1 ∧ Ok k (gb e1) fun f => ∃ env', f = .next env' ∧ J (pre ++ [d]) env') →
    Ok (ds.length * k) (forF bnd gb ds env) fun f => ∃ env', f = .next env' ∧ J (pre ++ ds) env'
  | [], pre, env, j, _ => Ok.ret ⟨env, rfl, by rw [List.append_nil]; exact j⟩
  | d :: ds, pre, env, j, h => by
    obtain ⟨e1, h1, h2⟩ := h pre d [] env j (by simp)
    simp only [forF, h1, lift_s, seq_r]
    have e1' : (d :: ds).length * k = k + ds.length * k := by simp only [List.length_cons]; rw [Nat.add_mul, Nat.one_mul, Nat.add_comm]
    rw [e1']
    refine Ok.seq h2 fun f hf => ?_
    obtain ⟨env', rfl, j'⟩ := hf
    have ih := for_ok J ds (pre ++ [d]) env' j' fun pre' d' post env'' j'' e => by
      refine h pre' d' (d :: post) env'' j'' ?_
      simp only [List.cons_append, List.length_cons, List.drop_succ_cons]
      rw [← e]
    rw [List.append_assoc] at ih
    exact ih
/-! ### texts by their signs -/
def txt (l : List Nat) : Str := ⟨l.toArray⟩
theorem txt_inj {a b : List Nat} (h : txt a = txt b) : a = b := by
  have := congrArg (fun s : Str => s.cps.toList) h
  simpa [txt] using this
theorem txt_len (l : List Nat) : (txt l).length = l.length := by simp [txt, Str.length]
theorem txt_cps (l : List Nat) : (txt l).cps.toList = l := by simp [txt]
theorem txt_of (s : Str) : s = txt s.cps.toList := by cases s; simp [txt]
theorem txt_app (a b : List Nat) : txt a ++ txt b = txt (a ++ b) := by
  show (⟨a.toArray ++ b.toArray⟩ : Str) = ⟨(a ++ b).toArray⟩
  simp
theorem txt_mul (l : List Nat) (k : Int) : Txt.mul (txt l) k = txt (List.replicate k.toNat l).flatten := by
  unfold Txt.mul
  by_cases h1 : k < 1
  · rw [if_pos h1, show k.toNat = 0 by omega]; rfl
  · rw [if_neg h1]
    by_cases h2 : (k == 1 || (txt l).length == 0) = true
    · rw [if_pos h2]
      simp only [Bool.or_eq_true, beq_iff_eq] at h2
      rcases h2 with h2 | h2
      · subst h2; simp
      · have : l = [] := by rw [txt_len] at h2; exact List.length_eq_zero_iff.mp h2
        subst this; simp
    · rw [if_neg h2]
      have fold : ∀ (m : Nat) (acc : List Nat), (List.replicate m l.toArray).foldl (· ++ ·) acc.toArray = (acc ++ (List.replicate m l).flatten).toArray := by
        intro m
        induction m with
        | zero => intro acc; simp
        | succ m ih =>
          intro acc
          rw [List.replicate_succ, List.foldl_cons]
          have : acc.toArray ++ l.toArray = (acc ++ l).toArray := by simp
          rw [this, ih]
          simp [List.replicate_succ]
      show (⟨(List.replicate k.toNat l.toArray).foldl (· ++ ·) #[]⟩ : Str) = _
      have := fold k.toNat []
      simp only [List.nil_append] at this
      rw [show (#[] : Array Nat) = ([] : List Nat).toArray from rfl, this]
      rfl
theorem eqv_str (a b : List Nat) : PyData.eqv (.str (txt a)) (.str (txt b)) = decide (a = b) := by
  have : PyData.eqv (.str (txt a)) (.str (txt b)) = (txt a == txt b) := by simp [PyData.eqv]
  rw [this]
  by_cases h : a = b
  · subst h; simp
  · rw [decide_eq_false h]
    exact beq_eq_false_iff_ne.mpr fun z => h (txt_inj z)
theorem cut_txt (l : List Nat) (lo hi : Option Int) : cutS (txt l) lo hi = txt (cutL l lo hi) := by
  unfold cutS cutL
  rw [txt_cps, txt_len]; rfl
theorem signs_txt (l : List Nat) : signsOf (txt l) = l.map fun c => .str (txt [c]) := by
  unfold signsOf; rw [txt_cps]; rfl
theorem glued_nil (ls : List (List Nat)) : Txt.join (txt []) (ls.map txt) = txt ls.flatten := by
  cases ls with
  | nil => rfl
  | cons l ls =>
    have fold : ∀ (ls : List (List Nat)) (acc : List Nat), (ls.map txt).foldl (fun acc p => acc ++ (txt []).cps ++ p.cps) acc.toArray = (acc ++ ls.flatten).toArray := by
      intro ls
      induction ls with
      | nil => intro acc; simp
      | cons m ls ih =>
        intro acc
        rw [List.map_cons, List.foldl_cons]
        have : acc.toArray ++ (txt []).cps ++ (txt m).cps = (acc ++ m).toArray := by simp [txt]
        rw [this, ih]
        simp
    show (⟨(ls.map txt).foldl (fun acc p => acc ++ (txt []).cps ++ p.cps) l.toArray⟩ : Str) = _
    rw [fold]
    rfl
/-! ### the operations on known data -/
theorem addD_ii (i j : Int) : addD (.int i) (.int j) = some (.int (i + j)) := rfl
theorem addD_ss {x y : Str} (h : x.length + y.length ≤ big) : addD (.str x) (.str y) = some (.str (x ++ y)) := if_pos h
theorem addD_txt {x y : List Nat} (h : x.length + y.length ≤ big) : addD (.str (txt x)) (.str (txt y)) = some (.str (txt (x ++ y))) := by
  rw [addD_ss (by rw [txt_len, txt_len]; exact h), txt_app]
theorem addD_ll {xs ys : List D} (h : xs.length + ys.length ≤ big) : addD (.list xs) (.list ys) = some (.list (xs ++ ys)) := if_pos h
theorem addD_tt {xs ys : List D} (h : xs.length + ys.length ≤ big) : addD (.tuple xs) (.tuple ys) = some (.tuple (xs ++ ys)) := if_pos h
theorem subD_ii (i j : Int) : subD (.int i) (.int j) = some (.int (i - j)) := rfl
theorem mulD_ii {i j : Int} (h : i.natAbs < 2 ^ 64 ∨ j.natAbs < 2 ^ 64) : mulD (.int i) (.int j) = some (.int (i * j)) := if_pos h
theorem mulD_txt {x : List Nat} {k : Int} (h : k.natAbs ≤ 1000 ∧ x.length ≤ 1000) : mulD (.str (txt x)) (.int k) = some (.str (txt (List.replicate k.toNat x).flatten)) := by
  show (if k.natAbs ≤ 1000 ∧ (txt x).length ≤ 1000 then some (PyData.str (Txt.mul (txt x) k)) else none) = _
  rw [txt_len, if_pos h, txt_mul]
theorem mulD_li {xs : List D} {k : Int} (h : k.natAbs ≤ 1000 ∧ xs.length ≤ 1000) : mulD (.list xs) (.int k) = some (.list (List.replicate k.toNat xs).flatten) := if_pos h
theorem mulD_ti {xs : List D} {k : Int} (h : 2 ≤ k ∧ k ≤ 1000 ∧ xs ≠ [] ∧ xs.length ≤ 1000) : mulD (.tuple xs) (.int k) = some (.tuple (List.replicate k.toNat xs).flatten) := if_pos h
theorem fdivD_ii {i j : Int} (h : 0 < j ∧ j < 1073741824) : fdivD (.int i) (.int j) = some (.int (i / j)) := if_pos ⟨h.1, Nat.lt_of_lt_of_le (show j.natAbs < 1073741824 by omega) (by decide)⟩
theorem fdivD_big {i j : Int} (h : 0 < j) (h2 : j.natAbs < 2 ^ 1000) : fdivD (.int i) (.int j) = some (.int (i / j)) := if_pos ⟨h, h2⟩
theorem modD_ii {i j : Int} (h : 0 < j) : modD (.int i) (.int j) = some (.int (i % j)) := if_pos h
theorem powD_ii {i j : Int} (h : 0 ≤ j ∧ j ≤ 1000000 ∧ i.natAbs < 2 ^ 64) : powD (.int i) (.int j) = some (.int (i ^ j.toNat)) := if_pos h
theorem ltD_ii (i j : Int) : ltD (.int i) (.int j) = some (.bool (decide (i < j))) := rfl
theorem leD_ii (i j : Int) : leD (.int i) (.int j) = some (.bool (decide (i ≤ j))) := rfl
theorem gtD_ii (i j : Int) : gtD (.int i) (.int j) = some (.bool (decide (j < i))) := rfl
theorem geD_ii (i j : Int) : geD (.int i) (.int j) = some (.bool (decide (j ≤ i))) := rfl
theorem eqD_ii (i j : Int) : eqD (.int i) (.int j) = some (.bool (decide (i = j))) := by
  have : eqD (.int i) (.int j) = some (.bool (i == j)) := by simp [eqD, PyData.eqv, PyData.depth]
  rw [this]; congr 2
theorem neD_ii (i j : Int) : neD (.int i) (.int j) = some (.bool (!decide (i = j))) := by
  have : neD (.int i) (.int j) = some (.bool (!(i == j))) := by simp [neD, PyData.eqv, PyData.depth]
  rw [this]; congr 3
theorem eqD_ss (x y : Str) : eqD (.str x) (.str y) = some (.bool (decide (x = y))) := by
  have : eqD (.str x) (.str y) = some (.bool (x == y)) := by simp [eqD, PyData.eqv, PyData.depth]
  rw [this]; congr 2
theorem neD_ss (x y : Str) : neD (.str x) (.str y) = some (.bool (!decide (x = y))) := by
  have : neD (.str x) (.str y) = some (.bool (!(x == y))) := by simp [neD, PyData.eqv, PyData.depth]
  rw [this]; congr 3
theorem eqD_txt (x y : List Nat) : eqD (.str (txt x)) (.str (txt y)) = some (.bool (decide (x = y))) := by
  rw [eqD_ss]; congr 2; exact decide_eq_decide.mpr ⟨txt_inj, fun h => by rw [h]⟩
theorem neD_txt (x y : List Nat) : neD (.str (txt x)) (.str (txt y)) = some (.bool (!decide (x = y))) := by
  rw [neD_ss]; congr 3; exact decide_eq_decide.mpr ⟨txt_inj, fun h => by rw [h]⟩
theorem ixD_l (xs : List D) (i : Int) : ixD (.list xs) (.int i) = atI xs i := rfl
theorem ixD_t (xs : List D) (i : Int) : ixD (.tuple xs) (.int i) = atI xs i := rfl
theorem ixD_txt {x : List Nat} {i : Int} (h : x.length ≤ big) : ixD (.str (txt x)) (.int i) = (atI x i).map fun c => .str (txt [c]) := by
  show (if (txt x).length ≤ big then _ else _) = _
  rw [txt_len, if_pos h, txt_cps]; rfl
theorem lenD_l (xs : List D) : lenD [.list xs] = some (.int xs.length) := rfl
theorem lenD_t (xs : List D) : lenD [.tuple xs] = some (.int xs.length) := rfl
theorem lenD_txt {x : List Nat} (h : x.length ≤ big) : lenD [.str (txt x)] = some (.int x.length) := by
  show (if (txt x).length ≤ big then _ else _) = _
  rw [txt_len, if_pos h]
theorem atI_lt {α : Type} {l : List α} {k : Nat} (h : k < l.length) : atI l (k : Int) = some l[k] := atI_nat (List.getElem?_eq_getElem h)
theorem atI_int {α : Type} {l : List α} {i : Int} (h0 : 0 ≤ i) (h : i < l.length) : atI l i = some (l[i.toNat]'(by omega)) := by
  have h1 : i.toNat < l.length := by omega
  have e : atI l ((i.toNat : Nat) : Int) = some l[i.toNat] := atI_lt h1
  rw [show ((i.toNat : Nat) : Int) = i by omega] at e
  exact e
theorem sliceD_l (xs : List D) (lo hi : Option Int) : sliceD (.list xs) lo hi = some (.list (cutL xs lo hi)) := rfl
theorem sliceD_t (xs : List D) (lo hi : Option Int) : sliceD (.tuple xs) lo hi = some (.tuple (cutL xs lo hi)) := rfl
theorem sliceD_txt {x : List Nat} {lo hi : Option Int} (h : x.length ≤ big) : sliceD (.str (txt x)) lo hi = some (.str (txt (cutL x lo hi))) := by
  show (if (txt x).length ≤ big then _ else _) = _
  rw [txt_len, if_pos h, cut_txt]
theorem cutL_to {α : Type} (l : List α) (k : Nat) : cutL l none (some (k : Int)) = l.take k := by
  unfold cutL
  rw [HT.sIx_none, HT.sIx_nat]
  simp only [List.drop_zero, Nat.sub_zero]
  by_cases h : k ≤ l.length
  · rw [Nat.min_eq_left h]
  · rw [Nat.min_eq_right (by omega), List.take_length, List.take_of_length_le (by omega)]
theorem cutL_from {α : Type} (l : List α) (k : Nat) : cutL l (some (k : Int)) none = l.drop k := by
  unfold cutL
  rw [HT.sIx_none, HT.sIx_nat]
  by_cases h : k ≤ l.length
  · rw [Nat.min_eq_left h, List.take_of_length_le (by simp)]
  · rw [Nat.min_eq_right (by omega), List.drop_of_length_le (Nat.le_refl _), List.drop_of_length_le (by omega)]; simp
theorem cutL_mid {α : Type} (l : List α) (i j : Nat) : cutL l (some (i : Int)) (some (j : Int)) = (l.drop i).take (j - i) := by
  unfold cutL
  rw [HT.sIx_nat, HT.sIx_nat]
  by_cases h : i ≤ l.length
  · rw [Nat.min_eq_left h]
    by_cases h2 : j ≤ l.length
    · rw [Nat.min_eq_left h2]
    · rw [Nat.min_eq_right (by omega), List.take_of_length_le (by simp), List.take_of_length_le (by simp; omega)]
  · rw [List.drop_of_length_le (show l.length ≤ min i l.length by omega), List.drop_of_length_le (show l.length ≤ i by omega)]; simp
theorem joinD_txt {ls : List (List Nat)} (h : (ls.map List.length).sum ≤ big) : joinD (.str (txt [])) [.list (ls.map fun l => .str (txt l))] = some (.str (txt ls.flatten)) := by
  have e : strsOf (ls.map fun l => PyData.str (txt l)) = some (ls.map txt) := by
    clear h
    induction ls with
    | nil => rfl
    | cons l ls ih => simp [strsOf, ih]
  have hl : ((ls.map txt).map (·.length)).sum = (ls.map List.length).sum := by
    rw [List.map_map]; exact congrArg List.sum (List.map_congr_left fun l _ => txt_len l)
  show (strsOf (ls.map fun l => PyData.str (txt l))).bind _ = _
  rw [e]
  show (if ((ls.map txt).map (·.length)).sum + (ls.map txt).length * (txt []).length ≤ big then some (PyData.str (Txt.join (txt []) (ls.map txt))) else none) = _
  rw [hl, txt_len, if_pos (by simpa using h), glued_nil]
theorem intsOf_map (ns : List Int) : intsOf (ns.map .int) = some ns := by
  induction ns with
  | nil => rfl
  | cons n ns ih => simp [intsOf, ih]
theorem boolsOf_map (ns : List Bool) : boolsOf (ns.map .bool) = some ns := by
  induction ns with
  | nil => rfl
  | cons n ns ih => simp [boolsOf, ih]
theorem sumD_map (ns : List Int) : sumD [.list (ns.map .int)] = some (.int ns.sum) := by
  show (intsOf (ns.map .int)).map _ = _
  rw [intsOf_map]; rfl
theorem allD_map (ns : List Bool) : allD [.list (ns.map .bool)] = some (.bool (ns.all id)) := by
  show (boolsOf (ns.map .bool)).map _ = _
  rw [boolsOf_map]; rfl
theorem minLD_map {ns : List Int} {m : Int} (h : ns.min? = some m) : minLD [.list (ns.map .int)] = some (.int m) := by
  show (intsOf (ns.map .int)).bind _ = _
  rw [intsOf_map]
  show ns.min?.map PyData.int = _
  rw [h]; rfl
theorem strD_0 : strD [.int 0] = some (.str (txt [48])) := by
  have : (toString (0 : Int) : Str) = txt [48] := by decide +kernel
  show (if (0 : Int).natAbs < 1000000 then some (PyData.str (toString (0 : Int))) else none) = _
  rw [this]; rfl
theorem strD_1 : strD [.int 1] = some (.str (txt [49])) := by
  have : (toString (1 : Int) : Str) = txt [49] := by decide +kernel
  show (if (1 : Int).natAbs < 1000000 then some (PyData.str (toString (1 : Int))) else none) = _
  rw [this]; rfl
theorem boolM_b (k : Bool) : boolM (.bool k) = ret k := rfl
theorem intM_i (i : Int) : intM (.int i) = ret i := rfl
theorem raiseS_x (c : Nat) (env : Env) : raiseS c env = raiseM c := rfl
theorem catM_ll (xs ys : List D) : catM (.list xs) (.list ys) = if xs.length + ys.length ≤ big then ret (xs ++ ys) else fault := rfl
theorem itemsM_l (xs : List D) : itemsM (.list xs) = ret xs := rfl
theorem itemsM_t (xs : List D) : itemsM (.tuple xs) = ret xs := rfl
theorem itemsM_txt {l : List Nat} (h : l.length ≤ 1000000) : itemsM (.str (txt l)) = ret (l.map fun c => .str (txt [c])) := by
  show (if (txt l).length ≤ big then ret (signsOf (txt l)) else fault) = _
  rw [txt_len, if_pos (show l.length ≤ big from h), signs_txt]
theorem bndT_t (is : List Nat) (ds : List D) (env : Env) : bndT is (.tuple ds) env = if ds.length = is.length then some (setAll is ds env) else none := rfl
theorem bndT_l (is : List Nat) (ds : List D) (env : Env) : bndT is (.list ds) env = if ds.length = is.length then some (setAll is ds env) else none := rfl
theorem extM_l (i : Nat) (env : Env) (xs ys : List D) : extM i env xs (.list ys) = if xs.length + ys.length ≤ big then ret (.next (env.set i (some (.own (xs ++ ys))))) else fault := rfl
theorem thenM_n (g : Env → M Fl) (env : Env) : thenM g (.next env) = g env := rfl
theorem thenM_r (g : Env → M Fl) (d : D) : thenM g (.ret d) = ret (.ret d) := rfl
theorem thenM_b (g : Env → M Fl) (env : Env) : thenM g (.brk env) = ret (.brk env) := rfl
theorem thenM_c (g : Env → M Fl) (env : Env) : thenM g (.cont env) = ret (.cont env) := rfl
theorem finM_r (d : D) : finM (.ret d) = ret d := rfl
theorem finM_n (env : Env) : finM (.next env) = ret .none := rfl
theorem loopM_n (g : Env → M Fl) (env : Env) : loopM g (.next env) = g env := rfl
theorem loopM_c (g : Env → M Fl) (env : Env) : loopM g (.cont env) = g env := rfl
theorem loopM_b (g : Env → M Fl) (env : Env) : loopM g (.brk env) = ret (.next env) := rfl
theorem loopM_r (g : Env → M Fl) (d : D) : loopM g (.ret d) = ret (.ret d) := rfl
theorem varM_d (x : D) : varM (some (some (.d x))) = ret x := rfl
theorem borM_d (x : D) : borM (some (some (.d x))) = ret x := rfl
theorem borM_o (xs : List D) : borM (some (some (.own xs))) = ret (.list xs) := rfl
theorem ownM_o {α : Type} (k : List D → M α) (xs : List D) : ownM k (some (some (.own xs))) = k xs := rfl
theorem townM_t (fr : M (List SV)) : townM fr (some (some .town)) = seq fr fun r => ret (.town :: r) := rfl
theorem scrM_s (fr : M (List SV)) (ns : List Int) : scrM fr (some (some (.scr ns))) = seq fr fun r => ret (.scr ns :: r) := rfl
theorem freeze_0o (xs : List D) (env : Env) : freezeEnv 0 (some (.own xs) :: env) = some (.d (.list xs)) :: env := rfl
theorem freeze_0d (x : D) (env : Env) : freezeEnv 0 (some (.d x) :: env) = some (.d x) :: env := rfl
theorem freeze_0n (env : Env) : freezeEnv 0 (none :: env) = none :: env := rfl
theorem freeze_s (k : Nat) (a : Option SV) (env : Env) : freezeEnv (k + 1) (a :: env) = a :: freezeEnv k env := by
  simp only [freezeEnv, List.getElem?_cons_succ]
  split <;> simp_all
theorem ite_big {α : Type} {k : Nat} [inst : Decidable (k ≤ big)] (h : k ≤ 1000000) (x y : α) : @ite α (k ≤ big) inst x y = x := if_pos h
theorem ite_lt_big {α : Type} {k : Nat} [inst : Decidable (k < big)] (h : k < 1000000) (x y : α) : @ite α (k < big) inst x y = x := if_pos h
theorem atI_0 {α : Type} (a : α) (l : List α) : atI (a :: l) 0 = some a := by
  have h : 0 < (a :: l).length := by simp only [List.length_cons]; omega
  exact atI_lt h
theorem atI_1 {α : Type} (a b : α) (l : List α) : atI (a :: b :: l) 1 = some b := by
  have h : 1 < (a :: b :: l).length := by simp only [List.length_cons]; omega
  exact atI_lt h
theorem atI_2 {α : Type} (a b c : α) (l : List α) : atI (a :: b :: c :: l) 2 = some c := by
  have h : 2 < (a :: b :: c :: l).length := by simp only [List.length_cons]; omega
  exact atI_lt h
theorem atI_3 {α : Type} (a b c d : α) (l : List α) : atI (a :: b :: c :: d :: l) 3 = some d := by
  have h : 3 < (a :: b :: c :: d :: l).length := by simp only [List.length_cons]; omega
  exact atI_lt h
theorem atI_4 {α : Type} (a b c d e : α) (l : List α) : atI (a :: b :: c :: d :: e :: l) 4 = some e := by
  have h : 4 < (a :: b :: c :: d :: e :: l).length := by simp only [List.length_cons]; omega
  exact atI_lt h
/-! ### like data -/
def Pl (k : Nat) (d : D) : Prop := d.plain = true ∧ d.depth ≤ k
theorem pl_int (k : Nat) (i : Int) : Pl k (.int i) := ⟨rfl, Nat.zero_le _⟩
theorem pl_str (k : Nat) (i : Str) : Pl k (.str i) := ⟨rfl, Nat.zero_le _⟩
theorem pl_bool (k : Nat) (i : Bool) : Pl k (.bool i) := ⟨rfl, Nat.zero_le _⟩
theorem pl_none (k : Nat) : Pl k .none := ⟨rfl, Nat.zero_le _⟩
theorem pl_all {k : Nat} : ∀ {xs : List D}, (∀ x ∈ xs, Pl k x) → PyData.plainAll xs = true ∧ PyData.depthAll xs ≤ k
  | [], _ => ⟨rfl, Nat.zero_le _⟩
  | x :: xs, h => by
    have h1 := h x List.mem_cons_self
    have h2 := pl_all (xs := xs) fun y hy => h y (List.mem_cons_of_mem _ hy)
    refine ⟨?_, ?_⟩
    · rw [PyData.plainAll, h1.1, h2.1]; rfl
    · rw [PyData.depthAll]; exact Nat.max_le.mpr ⟨h1.2, h2.2⟩
theorem pl_list {k : Nat} {xs : List D} (h : ∀ x ∈ xs, Pl k x) : Pl (k + 1) (.list xs) := ⟨by rw [PyData.plain]; exact (pl_all h).1, by rw [PyData.depth]; exact Nat.succ_le_succ (pl_all h).2⟩
theorem pl_tuple {k : Nat} {xs : List D} (h : ∀ x ∈ xs, Pl k x) : Pl (k + 1) (.tuple xs) := ⟨by rw [PyData.plain]; exact (pl_all h).1, by rw [PyData.depth]; exact Nat.succ_le_succ (pl_all h).2⟩
theorem eqD_refl {k : Nat} {d : D} (h : Pl k d) (hk : k ≤ 60) : eqD d d = some (.bool true) := by
  unfold eqD
  rw [if_pos (by have := h.2; omega), PySem.SeqAt.eqv_refl_plain d h.1]
theorem neD_refl {k : Nat} {d : D} (h : Pl k d) (hk : k ≤ 60) : neD d d = some (.bool false) := by
  unfold neD
  rw [if_pos (by have := h.2; omega), PySem.SeqAt.eqv_refl_plain d h.1]; rfl
end Sim

namespace Lw
open PySem PySem.Spec L2 Sim
def top (i : Nat) : Stmt := PySem.Challenge.pw_wirereadings_k40_whole_again_and_kept.main.body.getD i (.Pass ⟨0, 0, 0, 0⟩)
abbrev s__law_cell_at : Stmt := top 67
abbrev n__law_cell_at : List Str := ["script", "k"]
abbrev c__law_cell_at : Scope := { kind := .function, names := [("script", .local), ("k", .local), ("len", .globalImplicit)], isGenerator := false, isCoroutine := false, more := [] }
theorem sc__law_cell_at : FnScope n__law_cell_at ["script", "k"] c__law_cell_at := ⟨rfl, rfl, rfl, by decide +kernel, rfl, by decide +kernel, by decide +kernel⟩
def g__law_cell_at : Sim.Env → M Fl := thenS (ifS (testE (opE ltD (varE 1) (scrLen 0))) (retS (scrIx 0 (varE 1))) (nextS)) (thenS (ifS (testE (scrEmpty 0)) (retS (cE (.int 0))) (nextS)) (retS (opE addD (opE mulD (scrIx 0 (opE modD (varE 1) (scrLen 0))) (cE (.int 31))) (varE 1))))
def F__law_cell_at : List SV → M D := runF 2 g__law_cell_at

abbrev s__law_mixed : Stmt := top 68
abbrev n__law_mixed : List Str := ["script", "k", "many", "drawn"]
abbrev c__law_mixed : Scope := { kind := .function, names := [("script", .local), ("k", .local), ("many", .local), ("drawn", .local), ("_law_cell_at", .globalImplicit)], isGenerator := false, isCoroutine := false, more := [] }
theorem sc__law_mixed : FnScope n__law_mixed ["script", "k", "many"] c__law_mixed := ⟨rfl, rfl, rfl, by decide +kernel, rfl, by decide +kernel, by decide +kernel⟩
def g__law_mixed : Sim.Env → M Fl := thenS (setS 3 (opE modD (opE addD (opE addD (opE mulD (callF 2 F__law_cell_at (scrA 0 (consA (varE 1) (nilE)))) (cE (.int 1103515245))) (opE mulD (cE (.int 7919)) (varE 1))) (cE (.int 12345))) (cE (.int 2147483647)))) (retS (opE modD (opE modD (opE modD (opE powD (varE 3) (cE (.int 5))) (cE (.int 2147483647))) (cE (.int 999983))) (varE 2)))
def F__law_mixed : List SV → M D := runF 4 g__law_mixed

abbrev s__law_draw : Stmt := top 69
abbrev n__law_draw : List Str := ["script", "town", "many"]
abbrev c__law_draw : Scope := { kind := .function, names := [("script", .local), ("town", .local), ("many", .local), ("_law_mixed", .globalImplicit), ("len", .globalImplicit)], isGenerator := false, isCoroutine := false, more := [] }
theorem sc__law_draw : FnScope n__law_draw ["script", "town", "many"] c__law_draw := ⟨rfl, rfl, rfl, by decide +kernel, rfl, by decide +kernel, by decide +kernel⟩
def g__law_draw : Sim.Env → M Fl := thenS (tickS 1) (retS (callF 3 F__law_mixed (scrA 0 (consA (townN 1) (consA (varE 2) (nilE))))))
def F__law_draw : List SV → M D := runF 3 g__law_draw

abbrev s__law_pick : Stmt := top 70
abbrev n__law_pick : List Str := ["script", "town", "some"]
abbrev c__law_pick : Scope := { kind := .function, names := [("script", .local), ("town", .local), ("some", .local), ("_law_draw", .globalImplicit), ("len", .globalImplicit)], isGenerator := false, isCoroutine := false, more := [] }
theorem sc__law_pick : FnScope n__law_pick ["script", "town", "some"] c__law_pick := ⟨rfl, rfl, rfl, by decide +kernel, rfl, by decide +kernel, by decide +kernel⟩
def g__law_pick : Sim.Env → M Fl := retS (opE ixD (varE 2) (callF 3 F__law_draw (scrA 0 (townA 1 (consA (callB lenD (consE (varE 2) (nilE))) (nilE))))))
def F__law_pick : List SV → M D := runF 3 g__law_pick

abbrev s__law_form : Stmt := top 71
abbrev n__law_form : List Str := ["script", "town", "pace", "order", "parity"]
abbrev c__law_form : Scope := { kind := .function, names := [("script", .local), ("town", .local), ("pace", .local), ("order", .local), ("parity", .local), ("_law_pick", .globalImplicit), ("_law_draw", .globalImplicit)], isGenerator := false, isCoroutine := false, more := [] }
theorem sc__law_form : FnScope n__law_form ["script", "town"] c__law_form := ⟨rfl, rfl, rfl, by decide +kernel, rfl, by decide +kernel, by decide +kernel⟩
def g__law_form : Sim.Env → M Fl := thenS (setS 2 (callF 3 F__law_pick (scrA 0 (townA 1 (consA (listE (lstN (consE (cE (.int 1)) (consE (cE (.int 1)) (consE (cE (.int 2)) (consE (cE (.int 2)) (consE (cE (.int 3)) (consE (cE (.int 4)) (consE (cE (.int 5)) (consE (cE (.int 6)) (nilE))))))))))) (nilE)))))) (thenS (setS 3 (callF 3 F__law_pick (scrA 0 (townA 1 (consA (listE (lstN (consE (cE (.str "low")) (consE (cE (.str "high")) (nilE))))) (nilE)))))) (thenS (setS 4 (callF 3 F__law_pick (scrA 0 (townA 1 (consA (listE (lstN (consE (cE (.str "none")) (consE (cE (.str "even")) (consE (cE (.str "odd")) (nilE)))))) (nilE)))))) (retS (tupE (consE (varE 2) (consE (opE addD (cE (.int 4)) (callF 3 F__law_draw (scrA 0 (townA 1 (consA (cE (.int 3)) (nilE)))))) (consE (varE 3) (consE (varE 4) (consE (opE addD (cE (.int 1)) (callF 3 F__law_draw (scrA 0 (townA 1 (consA (cE (.int 2)) (nilE)))))) (nilE))))))))))
def F__law_form : List SV → M D := runF 5 g__law_form

abbrev s__law_packets : Stmt := top 76
abbrev n__law_packets : List Str := ["script", "town", "bits", "most", "like", "many", "made", "k", "size", "j"]
abbrev c__law_packets : Scope := { kind := .function, names := [("script", .cell), ("town", .cell), ("bits", .cell), ("most", .local), ("like", .local), ("many", .local), ("made", .local), ("k", .local), ("size", .local), ("_law_draw", .globalImplicit), ("range", .globalImplicit), ("tuple", .globalImplicit)], isGenerator := false, isCoroutine := false, more := [("fast", .str "script"), ("fast", .str "town"), ("fast", .str "bits"), ("fast", .str "most"), ("fast", .str "like"), ("fast", .str "many"), ("fast", .str "made"), ("fast", .str "k"), ("fast", .str "size"), ("fast", .str "j")] }
theorem sc__law_packets : FnScope n__law_packets ["script", "town", "bits", "most"] c__law_packets := ⟨rfl, rfl, rfl, by decide +kernel, rfl, by decide +kernel, by decide +kernel⟩
def g__law_packets : Sim.Env → M Fl := thenS (setS 4 (callF 3 F__law_draw (scrA 0 (townA 1 (consA (cE (.int 3)) (nilE)))))) (thenS (setS 5 (opE addD (cE (.int 1)) (callF 3 F__law_draw (scrA 0 (townA 1 (consA (cE (.int 4)) (nilE))))))) (thenS (setN 6 (lstN (nilE))) (thenS (forS (rngE rng1M (consE (opE addD (cE (.int 1)) (callF 3 F__law_draw (scrA 0 (townA 1 (consA (varE 3) (nilE)))))) (nilE))) (bndN 7) (thenS (setS 8 (ifE (testE (opE gtD (varE 4) (cE (.int 0)))) (varE 5) (opE addD (cE (.int 1)) (callF 3 F__law_draw (scrA 0 (townA 1 (consA (cE (.int 5)) (nilE)))))))) (appS 6 (callB tupleD (consE (listE (lcE (rngE rng1M (consE (varE 8) (nilE))) [9] (bndN 9) (yesT) (callF 3 F__law_draw (scrA 0 (townA 1 (consA (opE ixD (listE (lstN (consE (cE (.int 16)) (consE (cE (.int 32)) (consE (cE (.int 64)) (nilE)))))) (opE subD (varE 2) (cE (.int 4)))) (nilE))))))) (nilE)))))) (freezeS 6 (retS (varE 6))))))
def F__law_packets : List SV → M D := runF 10 g__law_packets

abbrev s__law_frame : Stmt := top 72
abbrev n__law_frame : List Str := ["form", "word", "pace", "bits", "order", "parity", "stops", "row", "odd", "more", "place", "bit"]
abbrev c__law_frame : Scope := { kind := .function, names := [("form", .local), ("word", .cell), ("pace", .cell), ("bits", .local), ("order", .local), ("parity", .local), ("stops", .local), ("row", .local), ("odd", .local), ("more", .local), ("range", .globalImplicit), ("sum", .globalImplicit)], isGenerator := false, isCoroutine := false, more := [("fast", .str "form"), ("fast", .str "word"), ("fast", .str "pace"), ("fast", .str "bits"), ("fast", .str "order"), ("fast", .str "parity"), ("fast", .str "stops"), ("fast", .str "place"), ("fast", .str "row"), ("fast", .str "odd"), ("fast", .str "more"), ("fast", .str "bit")] }
theorem sc__law_frame : FnScope n__law_frame ["form", "word"] c__law_frame := ⟨rfl, rfl, rfl, by decide +kernel, rfl, by decide +kernel, by decide +kernel⟩
def g__law_frame : Sim.Env → M Fl := thenS (setT (bndT [2, 3, 4, 5, 6]) (varE 0)) (thenS (setS 7 (listE (lcE (rngE rng1M (consE (varE 3) (nilE))) [10] (bndN 10) (yesT) (opE modD (opE fdivD (varE 1) (opE ixD (listE (lstN (consE (cE (.int 1)) (consE (cE (.int 2)) (consE (cE (.int 4)) (consE (cE (.int 8)) (consE (cE (.int 16)) (consE (cE (.int 32)) (nilE))))))))) (varE 10))) (cE (.int 2)))))) (thenS (setS 7 (ifE (testE (opE eqD (varE 4) (cE (.str "low")))) (varE 7) (revE (varE 7)))) (thenS (setS 8 (opE modD (callB sumD (consE (varE 7) (nilE))) (cE (.int 2)))) (thenS (setS 9 (dict3E "none" "even" "odd" (listE (lstN (nilE))) (listE (lstN (consE (varE 8) (nilE)))) (listE (lstN (consE (opE subD (cE (.int 1)) (varE 8)) (nilE)))) (varE 5))) (retS (methE isStrD joinD (cE (.str "")) (consE (listE (lcE (itemsE (opE addD (opE addD (opE addD (listE (lstN (consE (cE (.int 0)) (nilE)))) (varE 7)) (varE 9)) (opE mulD (listE (lstN (consE (cE (.int 1)) (nilE)))) (varE 6)))) [11] (bndN 11) (yesT) (opE mulD (callB strD (consE (varE 11) (nilE))) (varE 2)))) (nilE))))))))
def F__law_frame : List SV → M D := runF 12 g__law_frame

abbrev s_need_samples : Stmt := top 25
abbrev n_need_samples : List Str := ["thing", "sign"]
abbrev c_need_samples : Scope := { kind := .function, names := [("thing", .local), ("isinstance", .globalImplicit), ("str", .globalImplicit), ("len", .globalImplicit), ("LONG", .globalImplicit), ("all", .globalImplicit), ("NoSamples", .globalImplicit)], isGenerator := false, isCoroutine := false, more := [("fast", .str "thing"), ("fast", .str "sign")] }
theorem sc_need_samples : FnScope n_need_samples ["thing"] c_need_samples := ⟨rfl, rfl, rfl, by decide +kernel, rfl, by decide +kernel, by decide +kernel⟩
def g_need_samples : Sim.Env → M Fl := ifS (orT (notT (testE (isiE PyData.isStr (varE 0)))) (orT (notT (testE (chainE leD leD (cE (.int 1)) (callB lenD (consE (varE 0) (nilE))) (cE (.int 200))))) (notT (testE (callB allD (consE (listE (lcE (itemsE (varE 0)) [1] (bndN 1) (yesT) (opE inD (varE 1) (cE (.str "01"))))) (nilE))))))) (raiseS 1) (nextS)
def F_need_samples : List SV → M D := runF 2 g_need_samples

abbrev s_runs_of : Stmt := top 60
abbrev n_runs_of : List Str := ["samples", "made", "sign"]
abbrev c_runs_of : Scope := { kind := .function, names := [("samples", .local), ("made", .local), ("sign", .local)], isGenerator := false, isCoroutine := false, more := [] }
theorem sc_runs_of : FnScope n_runs_of ["samples"] c_runs_of := ⟨rfl, rfl, rfl, by decide +kernel, rfl, by decide +kernel, by decide +kernel⟩
def g_runs_of : Sim.Env → M Fl := thenS (setN 1 (lstN (nilE))) (thenS (forS (itemsE (varE 0)) (bndN 2) (ifS (andT (testE (opE neD (borE 1) (listE (lstN (nilE))))) (testE (opE eqD (opE ixD (opE ixD (borE 1) (negE (cE (.int 1)))) (cE (.int 0))) (varE 2)))) (putS 1 (-1) (tupE (consE (varE 2) (consE (opE addD (opE ixD (opE ixD (borE 1) (negE (cE (.int 1)))) (cE (.int 1))) (cE (.int 1))) (nilE))))) (appS 1 (tupE (consE (varE 2) (consE (cE (.int 1)) (nilE))))))) (freezeS 1 (retS (varE 1))))
def F_runs_of : List SV → M D := runF 3 g_runs_of
def gN_runs_of : Sim.Env → M Fl := thenS (setN 1 (lstN (nilE))) (thenS (forS (itemsE (varE 0)) (bndN 2) (ifS (andT (testE (opE neD (borE 1) (listE (lstN (nilE))))) (testE (opE eqD (opE ixD (opE ixD (borE 1) (negE (cE (.int 1)))) (cE (.int 0))) (varE 2)))) (putS 1 (-1) (tupE (consE (varE 2) (consE (opE addD (opE ixD (opE ixD (borE 1) (negE (cE (.int 1)))) (cE (.int 1))) (cE (.int 1))) (nilE))))) (appS 1 (tupE (consE (varE 2) (consE (cE (.int 1)) (nilE))))))) (rnOwn 1))
def FN_runs_of : List SV → M (List D) := runN 3 gN_runs_of

abbrev s_runs : Stmt := top 61
abbrev n_runs : List Str := ["samples"]
abbrev c_runs : Scope := { kind := .function, names := [("samples", .local), ("need_samples", .globalImplicit), ("runs_of", .globalImplicit)], isGenerator := false, isCoroutine := false, more := [] }
theorem sc_runs : FnScope n_runs ["samples"] c_runs := ⟨rfl, rfl, rfl, by decide +kernel, rfl, by decide +kernel, by decide +kernel⟩
def g_runs : Sim.Env → M Fl := thenS (exprS (callF 1 F_need_samples (consA (varE 0) (nilE)))) (retS (callF 1 F_runs_of (consA (varE 0) (nilE))))
def F_runs : List SV → M D := runF 1 g_runs
def gN_runs : Sim.Env → M Fl := thenS (exprS (callF 1 F_need_samples (consA (varE 0) (nilE)))) (retN (callN 1 FN_runs_of (consA (varE 0) (nilE))))
def FN_runs : List SV → M (List D) := runN 1 gN_runs

abbrev s_is_whole : Stmt := top 17
abbrev n_is_whole : List Str := ["thing", "low", "most"]
abbrev c_is_whole : Scope := { kind := .function, names := [("thing", .local), ("low", .local), ("most", .local), ("isinstance", .globalImplicit), ("int", .globalImplicit), ("bool", .globalImplicit)], isGenerator := false, isCoroutine := false, more := [] }
theorem sc_is_whole : FnScope n_is_whole ["thing", "low", "most"] c_is_whole := ⟨rfl, rfl, rfl, by decide +kernel, rfl, by decide +kernel, by decide +kernel⟩
def g_is_whole : Sim.Env → M Fl := retS (andE (isiE PyData.isInt (varE 0)) (andE (notE (isiE PyData.isBool (varE 0))) (chainE leD leD (varE 1) (varE 0) (varE 2))))
def F_is_whole : List SV → M D := runF 3 g_is_whole

abbrev s_are_runs : Stmt := top 62
abbrev n_are_runs : List Str := ["thing", "one", "other"]
abbrev c_are_runs : Scope := { kind := .function, names := [("thing", .local), ("one", .local), ("isinstance", .globalImplicit), ("list", .globalImplicit), ("tuple", .globalImplicit), ("len", .globalImplicit), ("str", .globalImplicit), ("is_whole", .globalImplicit), ("LONG", .globalImplicit), ("all", .globalImplicit), ("zip", .globalImplicit)], isGenerator := false, isCoroutine := false, more := [("fast", .str "thing"), ("fast", .str "one"), ("fast", .str "other")] }
theorem sc_are_runs : FnScope n_are_runs ["thing"] c_are_runs := ⟨rfl, rfl, rfl, by decide +kernel, rfl, by decide +kernel, by decide +kernel⟩
def g_are_runs : Sim.Env → M Fl := thenS (ifS (orT (notT (testE (isiE PyData.isList (varE 0)))) (testE (opE eqD (varE 0) (listE (lstN (nilE)))))) (retS (cE (.bool false))) (nextS)) (thenS (forS (itemsE (varE 0)) (bndN 1) (thenS (ifS (orT (notT (testE (isiE PyData.isTuple (varE 1)))) (orT (testE (opE neD (callB lenD (consE (varE 1) (nilE))) (cE (.int 2)))) (orT (notT (testE (isiE PyData.isStr (opE ixD (varE 1) (cE (.int 0)))))) (testE (opE notInD (opE ixD (varE 1) (cE (.int 0))) (tupE (consE (cE (.str "0")) (consE (cE (.str "1")) (nilE))))))))) (retS (cE (.bool false))) (nextS)) (ifS (notT (testE (callF 3 F_is_whole (consA (opE ixD (varE 1) (cE (.int 1))) (consA (cE (.int 1)) (consA (cE (.int 200)) (nilE))))))) (retS (cE (.bool false))) (nextS)))) (retS (callB allD (consE (listE (lcE (rngE zipM (consE (varE 0) (consE (sliceE (varE 0) (someO (cE (.int 1))) noneO) (nilE)))) [1, 2] (bndT [1, 2]) (yesT) (opE neD (opE ixD (varE 1) (cE (.int 0))) (opE ixD (varE 2) (cE (.int 0)))))) (nilE)))))
def F_are_runs : List SV → M D := runF 3 g_are_runs

abbrev s_from_runs : Stmt := top 63
abbrev n_from_runs : List Str := ["some", "sign", "many"]
abbrev c_from_runs : Scope := { kind := .function, names := [("some", .local), ("are_runs", .globalImplicit), ("NoRuns", .globalImplicit), ("sum", .globalImplicit), ("LONG", .globalImplicit), ("TooLong", .globalImplicit)], isGenerator := false, isCoroutine := false, more := [("fast", .str "some"), ("fast", .str "sign"), ("fast", .str "many")] }
theorem sc_from_runs : FnScope n_from_runs ["some"] c_from_runs := ⟨rfl, rfl, rfl, by decide +kernel, rfl, by decide +kernel, by decide +kernel⟩
def g_from_runs : Sim.Env → M Fl := thenS (ifS (notT (testE (callF 1 F_are_runs (consA (varE 0) (nilE))))) (raiseS 10) (nextS)) (thenS (ifS (testE (opE gtD (callB sumD (consE (listE (lcE (itemsE (varE 0)) [1, 2] (bndT [1, 2]) (yesT) (varE 2))) (nilE))) (cE (.int 200)))) (raiseS 5) (nextS)) (retS (methE isStrD joinD (cE (.str "")) (consE (listE (lcE (itemsE (varE 0)) [1, 2] (bndT [1, 2]) (yesT) (opE mulD (varE 1) (varE 2)))) (nilE)))))
def F_from_runs : List SV → M D := runF 3 g_from_runs

abbrev s_top_of : Stmt := top 21
abbrev n_top_of : List Str := ["bits"]
abbrev c_top_of : Scope := { kind := .function, names := [("bits", .local), ("LEAST", .globalImplicit)], isGenerator := false, isCoroutine := false, more := [] }
theorem sc_top_of : FnScope n_top_of ["bits"] c_top_of := ⟨rfl, rfl, rfl, by decide +kernel, rfl, by decide +kernel, by decide +kernel⟩
def g_top_of : Sim.Env → M Fl := retS (opE ixD (tupE (consE (cE (.int 15)) (consE (cE (.int 31)) (consE (cE (.int 63)) (nilE))))) (opE subD (varE 0) (cE (.int 4))))
def F_top_of : List SV → M D := runF 1 g_top_of

abbrev s_are_packets : Stmt := top 40
abbrev n_are_packets : List Str := ["bits", "thing", "one", "word"]
abbrev c_are_packets : Scope := { kind := .function, names := [("bits", .cell), ("thing", .local), ("one", .local), ("isinstance", .globalImplicit), ("list", .globalImplicit), ("len", .globalImplicit), ("PACKETS", .globalImplicit), ("tuple", .globalImplicit), ("WORDS", .globalImplicit), ("all", .globalImplicit)], isGenerator := false, isCoroutine := false, more := [("fast", .str "bits"), ("fast", .str "thing"), ("fast", .str "one"), ("fast", .str "word")] }
theorem sc_are_packets : FnScope n_are_packets ["bits", "thing"] c_are_packets := ⟨rfl, rfl, rfl, by decide +kernel, rfl, by decide +kernel, by decide +kernel⟩
def g_are_packets : Sim.Env → M Fl := thenS (ifS (orT (notT (testE (isiE PyData.isList (varE 1)))) (notT (testE (chainE leD leD (cE (.int 1)) (callB lenD (consE (varE 1) (nilE))) (cE (.int 10)))))) (retS (cE (.bool false))) (nextS)) (thenS (forS (itemsE (varE 1)) (bndN 2) (thenS (ifS (orT (notT (testE (isiE PyData.isTuple (varE 2)))) (notT (testE (chainE leD leD (cE (.int 1)) (callB lenD (consE (varE 2) (nilE))) (cE (.int 40)))))) (retS (cE (.bool false))) (nextS)) (ifS (notT (testE (callB allD (consE (listE (lcE (itemsE (varE 2)) [3] (bndN 3) (yesT) (callF 3 F_is_whole (consA (varE 3) (consA (cE (.int 0)) (consA (callF 1 F_top_of (consA (varE 0) (nilE))) (nilE))))))) (nilE))))) (retS (cE (.bool false))) (nextS)))) (retS (cE (.bool true))))
def F_are_packets : List SV → M D := runF 4 g_are_packets

abbrev s_is_layer : Stmt := top 32
abbrev n_is_layer : List Str := ["bits", "thing"]
abbrev c_is_layer : Scope := { kind := .function, names := [("bits", .local), ("thing", .local), ("isinstance", .globalImplicit), ("tuple", .globalImplicit), ("str", .globalImplicit), ("len", .globalImplicit), ("is_whole", .globalImplicit), ("FIXED", .globalImplicit), ("top_of", .globalImplicit)], isGenerator := false, isCoroutine := false, more := [] }
theorem sc_is_layer : FnScope n_is_layer ["bits", "thing"] c_is_layer := ⟨rfl, rfl, rfl, by decide +kernel, rfl, by decide +kernel, by decide +kernel⟩
def g_is_layer : Sim.Env → M Fl := thenS (ifS (orT (notT (testE (isiE PyData.isTuple (varE 1)))) (orT (testE (opE eqD (varE 1) (tupE (nilE)))) (notT (testE (isiE PyData.isStr (opE ixD (varE 1) (cE (.int 0)))))))) (retS (cE (.bool false))) (nextS)) (thenS (ifS (testE (opE eqD (opE ixD (varE 1) (cE (.int 0))) (cE (.str "fixed")))) (retS (andE (opE eqD (callB lenD (consE (varE 1) (nilE))) (cE (.int 2))) (callF 3 F_is_whole (consA (opE ixD (varE 1) (cE (.int 1))) (consA (cE (.int 1)) (consA (cE (.int 9)) (nilE))))))) (nextS)) (thenS (ifS (testE (opE eqD (opE ixD (varE 1) (cE (.int 0))) (cE (.str "mark")))) (retS (andE (opE eqD (callB lenD (consE (varE 1) (nilE))) (cE (.int 2))) (callF 3 F_is_whole (consA (opE ixD (varE 1) (cE (.int 1))) (consA (cE (.int 0)) (consA (callF 1 F_top_of (consA (varE 0) (nilE))) (nilE))))))) (nextS)) (retS (andE (opE eqD (opE ixD (varE 1) (cE (.int 0))) (cE (.str "length"))) (opE eqD (callB lenD (consE (varE 1) (nilE))) (cE (.int 1)))))))
def F_is_layer : List SV → M D := runF 2 g_is_layer

abbrev s_is_one_of : Stmt := top 18
abbrev n_is_one_of : List Str := ["thing", "words"]
abbrev c_is_one_of : Scope := { kind := .function, names := [("thing", .local), ("words", .local), ("isinstance", .globalImplicit), ("str", .globalImplicit)], isGenerator := false, isCoroutine := false, more := [] }
theorem sc_is_one_of : FnScope n_is_one_of ["thing", "words"] c_is_one_of := ⟨rfl, rfl, rfl, by decide +kernel, rfl, by decide +kernel, by decide +kernel⟩
def g_is_one_of : Sim.Env → M Fl := retS (andE (isiE PyData.isStr (varE 0)) (opE inD (varE 0) (varE 1)))
def F_is_one_of : List SV → M D := runF 2 g_is_one_of

abbrev s_need_all : Stmt := top 41
abbrev n_need_all : List Str := ["bits", "packets", "layer", "check"]
abbrev c_need_all : Scope := { kind := .function, names := [("bits", .local), ("packets", .local), ("layer", .local), ("check", .local), ("is_whole", .globalImplicit), ("LEAST", .globalImplicit), ("MOST", .globalImplicit), ("NoForm", .globalImplicit), ("are_packets", .globalImplicit), ("NoPackets", .globalImplicit), ("is_layer", .globalImplicit), ("is_one_of", .globalImplicit), ("CHECKS", .globalImplicit), ("NoLayer", .globalImplicit)], isGenerator := false, isCoroutine := false, more := [] }
theorem sc_need_all : FnScope n_need_all ["bits", "packets", "layer", "check"] c_need_all := ⟨rfl, rfl, rfl, by decide +kernel, rfl, by decide +kernel, by decide +kernel⟩
def g_need_all : Sim.Env → M Fl := thenS (ifS (notT (testE (callF 3 F_is_whole (consA (varE 0) (consA (cE (.int 4)) (consA (cE (.int 6)) (nilE))))))) (raiseS 0) (nextS)) (thenS (ifS (notT (testE (callF 2 F_are_packets (consA (varE 0) (consA (varE 1) (nilE)))))) (raiseS 9) (nextS)) (ifS (orT (notT (testE (callF 2 F_is_layer (consA (varE 0) (consA (varE 2) (nilE)))))) (notT (testE (callF 2 F_is_one_of (consA (varE 3) (consA (cE (.tuple [.str "none", .str "sum", .str "xor"])) (nilE))))))) (raiseS 6) (nextS)))
def F_need_all : List SV → M D := runF 4 g_need_all

abbrev s_one_packed : Stmt := top 43
abbrev n_one_packed : List Str := ["layer", "own"]
abbrev c_one_packed : Scope := { kind := .function, names := [("layer", .local), ("own", .local), ("len", .globalImplicit)], isGenerator := false, isCoroutine := false, more := [] }
theorem sc_one_packed : FnScope n_one_packed ["layer", "own"] c_one_packed := ⟨rfl, rfl, rfl, by decide +kernel, rfl, by decide +kernel, by decide +kernel⟩
def g_one_packed : Sim.Env → M Fl := thenS (ifS (testE (opE eqD (opE ixD (varE 0) (cE (.int 0))) (cE (.str "mark")))) (retS (opE addD (varE 1) (tupE (consE (opE ixD (varE 0) (cE (.int 1))) (nilE))))) (nextS)) (retS (ifE (testE (opE eqD (opE ixD (varE 0) (cE (.int 0))) (cE (.str "fixed")))) (varE 1) (opE addD (tupE (consE (callB lenD (consE (varE 1) (nilE))) (nilE))) (varE 1))))
def F_one_packed : List SV → M D := runF 2 g_one_packed

abbrev s_first_of : Stmt := top 33
abbrev n_first_of : List Str := ["layer", "words", "at", "many", "begin"]
abbrev c_first_of : Scope := { kind := .function, names := [("layer", .local), ("words", .local), ("at", .local), ("many", .local), ("begin", .local), ("int", .globalImplicit), ("len", .globalImplicit)], isGenerator := false, isCoroutine := false, more := [] }
theorem sc_first_of : FnScope n_first_of ["layer", "words"] c_first_of := ⟨rfl, rfl, rfl, by decide +kernel, rfl, by decide +kernel, by decide +kernel⟩
def g_first_of : Sim.Env → M Fl := thenS (ifS (testE (opE eqD (opE ixD (varE 0) (cE (.int 0))) (cE (.str "mark")))) (thenS (ifS (testE (opE notInD (opE ixD (varE 0) (cE (.int 1))) (varE 1))) (retS (cE .none)) (nextS)) (thenS (setS 2 (methE isTupD tindexD (varE 1) (consE (opE ixD (varE 0) (cE (.int 1))) (nilE)))) (retS (tupE (consE (sliceE (varE 1) noneO (someO (varE 2))) (consE (sliceE (varE 1) (someO (opE addD (varE 2) (cE (.int 1)))) noneO) (nilE))))))) (nextS)) (thenS (setS 3 (ifE (testE (opE eqD (opE ixD (varE 0) (cE (.int 0))) (cE (.str "fixed")))) (opE ixD (varE 0) (cE (.int 1))) (opE ixD (varE 1) (cE (.int 0))))) (thenS (setS 4 (callB intD (consE (opE eqD (opE ixD (varE 0) (cE (.int 0))) (cE (.str "length"))) (nilE)))) (thenS (ifS (testE (opE ltD (callB lenD (consE (varE 1) (nilE))) (opE addD (varE 4) (varE 3)))) (retS (cE .none)) (nextS)) (retS (tupE (consE (sliceE (varE 1) (someO (varE 4)) (someO (opE addD (varE 4) (varE 3)))) (consE (sliceE (varE 1) (someO (opE addD (varE 4) (varE 3))) noneO) (nilE))))))))
def F_first_of : List SV → M D := runF 5 g_first_of

abbrev s_xor_of : Stmt := top 34
abbrev n_xor_of : List Str := ["one", "other", "total", "worth"]
abbrev c_xor_of : Scope := { kind := .function, names := [("one", .local), ("other", .local), ("total", .local), ("worth", .local), ("int", .globalImplicit)], isGenerator := false, isCoroutine := false, more := [] }
theorem sc_xor_of : FnScope n_xor_of ["one", "other"] c_xor_of := ⟨rfl, rfl, rfl, by decide +kernel, rfl, by decide +kernel, by decide +kernel⟩
def g_xor_of : Sim.Env → M Fl := thenS (setS 2 (cE (.int 0))) (thenS (setS 3 (cE (.int 1))) (thenS (whileF (orT (testE (opE gtD (varE 0) (cE (.int 0)))) (testE (opE gtD (varE 1) (cE (.int 0))))) (thenS (setS 2 (opE addD (varE 2) (opE mulD (varE 3) (callB intD (consE (opE neD (opE modD (varE 0) (cE (.int 2))) (opE modD (varE 1) (cE (.int 2)))) (nilE)))))) (parS [0, 1, 3] (consE (opE fdivD (varE 0) (cE (.int 2))) (consE (opE fdivD (varE 1) (cE (.int 2))) (consE (opE mulD (cE (.int 2)) (varE 3)) (nilE)))))) 1000) (retS (varE 2))))
def F_xor_of : List SV → M D := runF 4 g_xor_of

abbrev s_checked : Stmt := top 35
abbrev n_checked : List Str := ["bits", "own", "check", "total", "word"]
abbrev c_checked : Scope := { kind := .function, names := [("bits", .local), ("own", .local), ("check", .local), ("total", .local), ("word", .local), ("len", .globalImplicit), ("top_of", .globalImplicit), ("xor_of", .globalImplicit)], isGenerator := false, isCoroutine := false, more := [] }
theorem sc_checked : FnScope n_checked ["bits", "own", "check"] c_checked := ⟨rfl, rfl, rfl, by decide +kernel, rfl, by decide +kernel, by decide +kernel⟩
def g_checked : Sim.Env → M Fl := thenS (ifS (testE (opE eqD (varE 2) (cE (.str "none")))) (retS (ifE (testE (opE neD (varE 1) (tupE (nilE)))) (varE 1) (cE .none))) (nextS)) (thenS (ifS (testE (opE ltD (callB lenD (consE (varE 1) (nilE))) (cE (.int 2)))) (retS (cE .none)) (nextS)) (thenS (setS 3 (cE (.int 0))) (thenS (forS (itemsE (sliceE (varE 1) noneO (someO (negE (cE (.int 1)))))) (bndN 4) (setS 3 (ifE (testE (opE eqD (varE 2) (cE (.str "sum")))) (opE modD (opE addD (varE 3) (varE 4)) (opE addD (callF 1 F_top_of (consA (varE 0) (nilE))) (cE (.int 1)))) (callF 2 F_xor_of (consA (varE 3) (consA (varE 4) (nilE))))))) (retS (ifE (testE (opE eqD (varE 3) (opE ixD (varE 1) (negE (cE (.int 1)))))) (sliceE (varE 1) noneO (someO (negE (cE (.int 1))))) (cE .none))))))
def F_checked : List SV → M D := runF 5 g_checked

abbrev s_packets_in : Stmt := top 36
abbrev n_packets_in : List Str := ["bits", "words", "layer", "check", "made", "found", "own"]
abbrev c_packets_in : Scope := { kind := .function, names := [("bits", .local), ("words", .local), ("layer", .local), ("check", .local), ("made", .local), ("found", .local), ("own", .local), ("first_of", .globalImplicit), ("checked", .globalImplicit)], isGenerator := false, isCoroutine := false, more := [] }
theorem sc_packets_in : FnScope n_packets_in ["bits", "words", "layer", "check"] c_packets_in := ⟨rfl, rfl, rfl, by decide +kernel, rfl, by decide +kernel, by decide +kernel⟩
def g_packets_in : Sim.Env → M Fl := thenS (setN 4 (lstN (nilE))) (thenS (whileF (testE (opE neD (varE 1) (tupE (nilE)))) (thenS (setS 5 (callF 2 F_first_of (consA (varE 2) (consA (varE 1) (nilE))))) (thenS (ifS (testE (isNE (varE 5))) (retS (cE .none)) (nextS)) (thenS (setS 6 (callF 3 F_checked (consA (varE 0) (consA (opE ixD (varE 5) (cE (.int 0))) (consA (varE 3) (nilE)))))) (thenS (ifS (testE (isNE (varE 6))) (retS (cE .none)) (nextS)) (thenS (appS 4 (varE 6)) (setS 1 (opE ixD (varE 5) (cE (.int 1))))))))) 1000) (freezeS 4 (retS (varE 4))))
def F_packets_in : List SV → M D := runF 7 g_packets_in

abbrev s_check_of : Stmt := top 42
abbrev n_check_of : List Str := ["bits", "own", "check", "total", "word"]
abbrev c_check_of : Scope := { kind := .function, names := [("bits", .local), ("own", .local), ("check", .local), ("total", .local), ("word", .local), ("top_of", .globalImplicit), ("xor_of", .globalImplicit)], isGenerator := false, isCoroutine := false, more := [] }
theorem sc_check_of : FnScope n_check_of ["bits", "own", "check"] c_check_of := ⟨rfl, rfl, rfl, by decide +kernel, rfl, by decide +kernel, by decide +kernel⟩
def g_check_of : Sim.Env → M Fl := thenS (setS 3 (cE (.int 0))) (thenS (forS (itemsE (varE 1)) (bndN 4) (setS 3 (ifE (testE (opE eqD (varE 2) (cE (.str "sum")))) (opE modD (opE addD (varE 3) (varE 4)) (opE addD (callF 1 F_top_of (consA (varE 0) (nilE))) (cE (.int 1)))) (callF 2 F_xor_of (consA (varE 3) (consA (varE 4) (nilE))))))) (retS (ifE (testE (opE eqD (varE 2) (cE (.str "none")))) (tupE (nilE)) (tupE (consE (varE 3) (nilE))))))
def F_check_of : List SV → M D := runF 5 g_check_of

abbrev s_packed : Stmt := top 44
abbrev n_packed : List Str := ["bits", "packets", "layer", "check", "words", "own", "word"]
abbrev c_packed : Scope := { kind := .function, names := [("bits", .cell), ("packets", .local), ("layer", .local), ("check", .local), ("words", .local), ("own", .local), ("need_all", .globalImplicit), ("one_packed", .globalImplicit), ("check_of", .globalImplicit), ("all", .globalImplicit), ("packets_in", .globalImplicit), ("NoPackets", .globalImplicit), ("len", .globalImplicit), ("WORDS", .globalImplicit), ("TooLong", .globalImplicit)], isGenerator := false, isCoroutine := false, more := [("fast", .str "bits"), ("fast", .str "packets"), ("fast", .str "layer"), ("fast", .str "check"), ("fast", .str "words"), ("fast", .str "own"), ("fast", .str "word")] }
theorem sc_packed : FnScope n_packed ["bits", "packets", "layer", "check"] c_packed := ⟨rfl, rfl, rfl, by decide +kernel, rfl, by decide +kernel, by decide +kernel⟩
def g_packed : Sim.Env → M Fl := thenS (exprS (callF 4 F_need_all (consA (varE 0) (consA (varE 1) (consA (varE 2) (consA (varE 3) (nilE))))))) (thenS (setS 4 (tupE (nilE))) (thenS (forS (itemsE (varE 1)) (bndN 5) (setS 4 (opE addD (varE 4) (callF 2 F_one_packed (consA (varE 2) (consA (opE addD (varE 5) (callF 3 F_check_of (consA (varE 0) (consA (varE 5) (consA (varE 3) (nilE)))))) (nilE))))))) (thenS (ifS (orT (notT (testE (callB allD (consE (listE (lcE (itemsE (varE 4)) [6] (bndN 6) (yesT) (opE leD (varE 6) (callF 1 F_top_of (consA (varE 0) (nilE)))))) (nilE))))) (testE (opE neD (callF 4 F_packets_in (consA (varE 0) (consA (varE 4) (consA (varE 2) (consA (varE 3) (nilE)))))) (varE 1)))) (raiseS 9) (nextS)) (thenS (ifS (testE (opE gtD (callB lenD (consE (varE 4) (nilE))) (cE (.int 40)))) (raiseS 5) (nextS)) (retS (varE 4))))))
def F_packed : List SV → M D := runF 7 g_packed

abbrev s_is_packed : Stmt := top 46
abbrev n_is_packed : List Str := ["bits", "packets", "layer", "check"]
abbrev c_is_packed : Scope := { kind := .function, names := [("bits", .local), ("packets", .local), ("layer", .local), ("check", .local), ("packed", .globalImplicit), ("NoPackets", .globalImplicit), ("TooLong", .globalImplicit)], isGenerator := false, isCoroutine := false, more := [] }
theorem sc_is_packed : FnScope n_is_packed ["bits", "packets", "layer", "check"] c_is_packed := ⟨rfl, rfl, rfl, by decide +kernel, rfl, by decide +kernel, by decide +kernel⟩
def g_is_packed : Sim.Env → M Fl := try2S 9 5 false (retS (opE neD (callF 4 F_packed (consA (varE 0) (consA (varE 1) (consA (varE 2) (consA (varE 3) (nilE)))))) (tupE (nilE))))
def F_is_packed : List SV → M D := runF 4 g_is_packed

abbrev s_layers_of : Stmt := top 45
abbrev n_layers_of : List Str := ["bits", "packets", "some", "made", "layer", "many", "word", "check"]
abbrev c_layers_of : Scope := { kind := .function, names := [("bits", .cell), ("packets", .cell), ("some", .local), ("made", .local), ("layer", .cell), ("need_all", .globalImplicit), ("range", .globalImplicit), ("top_of", .globalImplicit), ("CHECKS", .globalImplicit), ("sorted", .globalImplicit)], isGenerator := false, isCoroutine := false, more := [("fast", .str "bits"), ("fast", .str "packets"), ("fast", .str "many"), ("fast", .str "some"), ("fast", .str "word"), ("fast", .str "made"), ("fast", .str "layer"), ("fast", .str "check")] }
theorem sc_layers_of : FnScope n_layers_of ["bits", "packets"] c_layers_of := ⟨rfl, rfl, rfl, by decide +kernel, rfl, by decide +kernel, by decide +kernel⟩
def g_layers_of : Sim.Env → M Fl := thenS (exprS (callF 4 F_need_all (consA (varE 0) (consA (varE 1) (consA (tupE (consE (cE (.str "length")) (nilE))) (consA (cE (.str "none")) (nilE))))))) (thenS (setN 2 (catN (listE (lcE (rngE rng2M (consE (cE (.int 1)) (consE (cE (.int 10)) (nilE)))) [5] (bndN 5) (yesT) (tupE (consE (cE (.str "fixed")) (consE (varE 5) (nilE)))))) (listE (lstN (consE (tupE (consE (cE (.str "length")) (nilE))) (nilE)))))) (thenS (extS 2 (listE (lcE (rngE rng1M (consE (opE addD (callF 1 F_top_of (consA (varE 0) (nilE))) (cE (.int 1))) (nilE))) [6] (bndN 6) (yesT) (tupE (consE (cE (.str "mark")) (consE (varE 6) (nilE))))))) (thenS (setN 3 (lstN (nilE))) (freezeS 2 (thenS (forS (itemsE (varE 2)) (bndN 4) (extS 3 (listE (lcE (itemsE (cE (.tuple [.str "none", .str "sum", .str "xor"]))) [7] (bndN 7) (testE (callF 4 F_is_packed (consA (varE 0) (consA (varE 1) (consA (varE 4) (consA (varE 7) (nilE))))))) (tupE (consE (varE 4) (consE (varE 7) (nilE)))))))) (retS (callB sortedD (consE (borE 3) (nilE)))))))))
def F_layers_of : List SV → M D := runF 8 g_layers_of
def gN_layers_of : Sim.Env → M Fl := thenS (exprS (callF 4 F_need_all (consA (varE 0) (consA (varE 1) (consA (tupE (consE (cE (.str "length")) (nilE))) (consA (cE (.str "none")) (nilE))))))) (thenS (setN 2 (catN (listE (lcE (rngE rng2M (consE (cE (.int 1)) (consE (cE (.int 10)) (nilE)))) [5] (bndN 5) (yesT) (tupE (consE (cE (.str "fixed")) (consE (varE 5) (nilE)))))) (listE (lstN (consE (tupE (consE (cE (.str "length")) (nilE))) (nilE)))))) (thenS (extS 2 (listE (lcE (rngE rng1M (consE (opE addD (callF 1 F_top_of (consA (varE 0) (nilE))) (cE (.int 1))) (nilE))) [6] (bndN 6) (yesT) (tupE (consE (cE (.str "mark")) (consE (varE 6) (nilE))))))) (thenS (setN 3 (lstN (nilE))) (freezeS 2 (thenS (forS (itemsE (varE 2)) (bndN 4) (extS 3 (listE (lcE (itemsE (cE (.tuple [.str "none", .str "sum", .str "xor"]))) [7] (bndN 7) (testE (callF 4 F_is_packed (consA (varE 0) (consA (varE 1) (consA (varE 4) (consA (varE 7) (nilE))))))) (tupE (consE (varE 4) (consE (varE 7) (nilE)))))))) (retN (callBN sortedDL (consE (borE 3) (nilE)))))))))
def FN_layers_of : List SV → M (List D) := runN 8 gN_layers_of

abbrev s__law_samples : Stmt := top 74
abbrev n__law_samples : List Str := ["script", "town", "form", "most", "made", "rows", "k", "gap", "word", "part", "rest"]
abbrev c__law_samples : Scope := { kind := .function, names := [("script", .local), ("town", .local), ("form", .local), ("most", .local), ("made", .local), ("rows", .local), ("k", .local), ("gap", .local), ("word", .local), ("part", .local), ("rest", .local), ("range", .globalImplicit), ("_law_draw", .globalImplicit), ("_law_pick", .globalImplicit), ("_law_frame", .globalImplicit), ("len", .globalImplicit)], isGenerator := false, isCoroutine := false, more := [] }
theorem sc__law_samples : FnScope n__law_samples ["script", "town", "form", "most"] c__law_samples := ⟨rfl, rfl, rfl, by decide +kernel, rfl, by decide +kernel, by decide +kernel⟩
def g__law_samples : Sim.Env → M Fl := thenS (setT (bndT [4, 5]) (tupE (consE (cE (.str "")) (consE (tupE (nilE)) (nilE))))) (thenS (forS (rngE rng1M (consE (opE addD (cE (.int 1)) (callF 3 F__law_draw (scrA 0 (townA 1 (consA (cE (.int 4)) (nilE)))))) (nilE))) (bndN 6) (thenS (setS 7 (callF 3 F__law_draw (scrA 0 (townA 1 (consA (callF 3 F__law_pick (scrA 0 (townA 1 (consA (listE (lstN (consE (cE (.int 1)) (consE (cE (.int 4)) (consE (cE (.int 12)) (nilE)))))) (nilE))))) (nilE)))))) (thenS (setS 8 (callF 3 F__law_draw (scrA 0 (townA 1 (consA (opE ixD (listE (lstN (consE (cE (.int 16)) (consE (cE (.int 32)) (consE (cE (.int 64)) (nilE)))))) (opE subD (opE ixD (varE 2) (cE (.int 1))) (cE (.int 4)))) (nilE)))))) (thenS (setS 9 (opE addD (opE mulD (cE (.str "1")) (varE 7)) (callF 2 F__law_frame (consA (varE 2) (consA (varE 8) (nilE)))))) (ifS (testE (opE leD (callB lenD (consE (opE addD (varE 4) (varE 9)) (nilE))) (varE 3))) (parS [4, 5] (consE (opE addD (varE 4) (varE 9)) (consE (opE addD (varE 5) (tupE (consE (tupE (consE (varE 7) (consE (varE 8) (nilE)))) (nilE)))) (nilE)))) (nextS)))))) (thenS (ifS (testE (opE eqD (varE 5) (tupE (nilE)))) (parS [4, 5] (consE (callF 2 F__law_frame (consA (varE 2) (consA (cE (.int 1)) (nilE)))) (consE (tupE (consE (tupE (consE (cE (.int 0)) (consE (cE (.int 1)) (nilE)))) (nilE))) (nilE)))) (nextS)) (thenS (setS 10 (callF 3 F__law_draw (scrA 0 (townA 1 (consA (cE (.int 9)) (nilE)))))) (retS (tupE (consE (opE addD (varE 4) (opE mulD (cE (.str "1")) (varE 10))) (consE (varE 5) (consE (varE 10) (nilE)))))))))
def F__law_samples : List SV → M D := runF 11 g__law_samples

abbrev s_all_forms : Stmt := top 26
abbrev n_all_forms : List Str := ["made", "pace", "bits", "order", "parity", "stops"]
abbrev c_all_forms : Scope := { kind := .function, names := [("made", .local), ("pace", .cell), ("bits", .cell), ("order", .cell), ("parity", .cell), ("range", .globalImplicit), ("PACE", .globalImplicit), ("LEAST", .globalImplicit), ("MOST", .globalImplicit), ("ORDERS", .globalImplicit), ("PARITIES", .globalImplicit), ("sorted", .globalImplicit)], isGenerator := false, isCoroutine := false, more := [("fast", .str "made"), ("fast", .str "pace"), ("fast", .str "bits"), ("fast", .str "order"), ("fast", .str "parity"), ("fast", .str "stops")] }
theorem sc_all_forms : FnScope n_all_forms [] c_all_forms := ⟨rfl, rfl, rfl, by decide +kernel, rfl, by decide +kernel, by decide +kernel⟩
def g_all_forms : Sim.Env → M Fl := thenS (setN 0 (lstN (nilE))) (thenS (forS (rngE rng2M (consE (cE (.int 1)) (consE (opE addD (cE (.int 6)) (cE (.int 1))) (nilE)))) (bndN 1) (forS (rngE rng2M (consE (cE (.int 4)) (consE (opE addD (cE (.int 6)) (cE (.int 1))) (nilE)))) (bndN 2) (forS (itemsE (cE (.tuple [.str "low", .str "high"]))) (bndN 3) (forS (itemsE (cE (.tuple [.str "none", .str "even", .str "odd"]))) (bndN 4) (extS 0 (listE (lcE (itemsE (tupE (consE (cE (.int 1)) (consE (cE (.int 2)) (nilE))))) [5] (bndN 5) (yesT) (tupE (consE (varE 1) (consE (varE 2) (consE (varE 3) (consE (varE 4) (consE (varE 5) (nilE)))))))))))))) (retS (callB sortedD (consE (borE 0) (nilE)))))
def F_all_forms : List SV → M D := runF 6 g_all_forms

abbrev s_long_of : Stmt := top 24
abbrev n_long_of : List Str := ["form"]
abbrev c_long_of : Scope := { kind := .function, names := [("form", .local), ("int", .globalImplicit)], isGenerator := false, isCoroutine := false, more := [] }
theorem sc_long_of : FnScope n_long_of ["form"] c_long_of := ⟨rfl, rfl, rfl, by decide +kernel, rfl, by decide +kernel, by decide +kernel⟩
def g_long_of : Sim.Env → M Fl := retS (opE mulD (opE ixD (varE 0) (cE (.int 0))) (opE addD (opE addD (opE addD (cE (.int 1)) (opE ixD (varE 0) (cE (.int 1)))) (callB intD (consE (opE neD (opE ixD (varE 0) (cE (.int 3))) (cE (.str "none"))) (nilE)))) (opE ixD (varE 0) (cE (.int 4)))))
def F_long_of : List SV → M D := runF 1 g_long_of

abbrev s_word_of : Stmt := top 22
abbrev n_word_of : List Str := ["form", "bits", "word", "bit"]
abbrev c_word_of : Scope := { kind := .function, names := [("form", .local), ("bits", .local), ("word", .local), ("bit", .local)], isGenerator := false, isCoroutine := false, more := [] }
theorem sc_word_of : FnScope n_word_of ["form", "bits"] c_word_of := ⟨rfl, rfl, rfl, by decide +kernel, rfl, by decide +kernel, by decide +kernel⟩
def g_word_of : Sim.Env → M Fl := thenS (setS 2 (cE (.int 0))) (thenS (forS (itemsE (ifE (testE (opE eqD (opE ixD (varE 0) (cE (.int 2))) (cE (.str "low")))) (revE (varE 1)) (varE 1))) (bndN 3) (setS 2 (opE addD (opE mulD (cE (.int 2)) (varE 2)) (varE 3)))) (retS (varE 2)))
def F_word_of : List SV → M D := runF 4 g_word_of

abbrev s_bit_of : Stmt := top 55
abbrev n_bit_of : List Str := ["samples"]
abbrev c_bit_of : Scope := { kind := .function, names := [("samples", .local), ("len", .globalImplicit), ("int", .globalImplicit)], isGenerator := false, isCoroutine := false, more := [] }
theorem sc_bit_of : FnScope n_bit_of ["samples"] c_bit_of := ⟨rfl, rfl, rfl, by decide +kernel, rfl, by decide +kernel, by decide +kernel⟩
def g_bit_of : Sim.Env → M Fl := thenS (ifS (orT (testE (opE eqD (varE 0) (cE (.str "")))) (testE (opE neD (varE 0) (opE mulD (opE ixD (varE 0) (cE (.int 0))) (callB lenD (consE (varE 0) (nilE))))))) (retS (cE .none)) (nextS)) (retS (callB intD (consE (opE ixD (varE 0) (cE (.int 0))) (nilE))))
def F_bit_of : List SV → M D := runF 1 g_bit_of

abbrev s_parity_of : Stmt := top 23
abbrev n_parity_of : List Str := ["form", "bits"]
abbrev c_parity_of : Scope := { kind := .function, names := [("form", .local), ("bits", .local), ("sum", .globalImplicit)], isGenerator := false, isCoroutine := false, more := [] }
theorem sc_parity_of : FnScope n_parity_of ["form", "bits"] c_parity_of := ⟨rfl, rfl, rfl, by decide +kernel, rfl, by decide +kernel, by decide +kernel⟩
def g_parity_of : Sim.Env → M Fl := retS (dict3E "none" "even" "odd" (listE (lstN (nilE))) (listE (lstN (consE (opE modD (callB sumD (consE (varE 1) (nilE))) (cE (.int 2))) (nilE)))) (listE (lstN (consE (opE subD (cE (.int 1)) (opE modD (callB sumD (consE (varE 1) (nilE))) (cE (.int 2)))) (nilE)))) (opE ixD (varE 0) (cE (.int 3))))
def F_parity_of : List SV → M D := runF 2 g_parity_of

abbrev s_word_at : Stmt := top 56
abbrev n_word_at : List Str := ["form", "samples", "at", "long", "part", "row", "bits", "tick"]
abbrev c_word_at : Scope := { kind := .function, names := [("form", .cell), ("samples", .local), ("at", .local), ("long", .local), ("part", .cell), ("row", .local), ("bits", .local), ("long_of", .globalImplicit), ("len", .globalImplicit), ("range", .globalImplicit), ("parity_of", .globalImplicit), ("word_of", .globalImplicit)], isGenerator := false, isCoroutine := false, more := [("fast", .str "form"), ("fast", .str "samples"), ("fast", .str "at"), ("fast", .str "long"), ("fast", .str "part"), ("fast", .str "tick"), ("fast", .str "row"), ("fast", .str "bits")] }
theorem sc_word_at : FnScope n_word_at ["form", "samples", "at"] c_word_at := ⟨rfl, rfl, rfl, by decide +kernel, rfl, by decide +kernel, by decide +kernel⟩
def g_word_at : Sim.Env → M Fl := thenS (setS 3 (callF 1 F_long_of (consA (varE 0) (nilE)))) (thenS (setS 4 (sliceE (varE 1) (someO (varE 2)) (someO (opE addD (varE 2) (varE 3))))) (thenS (ifS (testE (opE ltD (callB lenD (consE (varE 4) (nilE))) (varE 3))) (retS (cE .none)) (nextS)) (thenS (setS 5 (listE (lcE (rngE rng3M (consE (cE (.int 0)) (consE (varE 3) (consE (opE ixD (varE 0) (cE (.int 0))) (nilE))))) [7] (bndN 7) (yesT) (callF 1 F_bit_of (consA (sliceE (varE 4) (someO (varE 7)) (someO (opE addD (varE 7) (opE ixD (varE 0) (cE (.int 0)))))) (nilE)))))) (thenS (ifS (orT (testE (opE inD (cE .none) (varE 5))) (testE (opE neD (opE ixD (varE 5) (cE (.int 0))) (cE (.int 0))))) (retS (cE .none)) (nextS)) (thenS (setS 6 (sliceE (varE 5) (someO (cE (.int 1))) (someO (opE addD (cE (.int 1)) (opE ixD (varE 0) (cE (.int 1))))))) (thenS (ifS (testE (opE neD (sliceE (varE 5) (someO (opE addD (cE (.int 1)) (opE ixD (varE 0) (cE (.int 1))))) noneO) (opE addD (callF 2 F_parity_of (consA (varE 0) (consA (varE 6) (nilE)))) (opE mulD (listE (lstN (consE (cE (.int 1)) (nilE)))) (opE ixD (varE 0) (cE (.int 4))))))) (retS (cE .none)) (nextS)) (retS (callF 2 F_word_of (consA (varE 0) (consA (varE 6) (nilE)))))))))))
def F_word_at : List SV → M D := runF 8 g_word_at

abbrev s_rows_in : Stmt := top 57
abbrev n_rows_in : List Str := ["form", "samples", "rows", "at", "gap", "word"]
abbrev c_rows_in : Scope := { kind := .function, names := [("form", .local), ("samples", .local), ("rows", .local), ("at", .local), ("gap", .local), ("word", .local), ("len", .globalImplicit), ("word_at", .globalImplicit), ("long_of", .globalImplicit)], isGenerator := false, isCoroutine := false, more := [] }
theorem sc_rows_in : FnScope n_rows_in ["form", "samples"] c_rows_in := ⟨rfl, rfl, rfl, by decide +kernel, rfl, by decide +kernel, by decide +kernel⟩
def g_rows_in : Sim.Env → M Fl := thenS (setS 2 (tupE (nilE))) (thenS (setS 3 (cE (.int 0))) (thenS (setS 4 (cE (.int 0))) (thenS (whileF (testE (opE ltD (varE 3) (callB lenD (consE (varE 1) (nilE))))) (ifS (testE (opE eqD (opE ixD (varE 1) (varE 3)) (cE (.str "1")))) (thenS (setS 4 (opE addD (varE 4) (cE (.int 1)))) (setS 3 (opE addD (varE 3) (cE (.int 1))))) (thenS (setS 5 (callF 3 F_word_at (consA (varE 0) (consA (varE 1) (consA (varE 3) (nilE)))))) (thenS (ifS (testE (isNE (varE 5))) (retS (cE .none)) (nextS)) (thenS (setS 2 (opE addD (varE 2) (tupE (consE (tupE (consE (varE 4) (consE (varE 5) (nilE)))) (nilE))))) (thenS (setS 4 (cE (.int 0))) (setS 3 (opE addD (varE 3) (callF 1 F_long_of (consA (varE 0) (nilE)))))))))) 1000) (retS (ifE (testE (opE neD (varE 2) (tupE (nilE)))) (tupE (consE (varE 2) (consE (varE 4) (nilE)))) (cE .none))))))
def F_rows_in : List SV → M D := runF 6 g_rows_in

abbrev s_forms_for : Stmt := top 58
abbrev n_forms_for : List Str := ["samples", "form"]
abbrev c_forms_for : Scope := { kind := .function, names := [("samples", .cell), ("need_samples", .globalImplicit), ("all_forms", .globalImplicit)], isGenerator := false, isCoroutine := false, more := [("fast", .str "samples"), ("fast", .str "form")] }
theorem sc_forms_for : FnScope n_forms_for ["samples"] c_forms_for := ⟨rfl, rfl, rfl, by decide +kernel, rfl, by decide +kernel, by decide +kernel⟩
def g_forms_for : Sim.Env → M Fl := thenS (exprS (callF 1 F_need_samples (consA (varE 0) (nilE)))) (retS (listE (lcE (itemsE (callF 0 F_all_forms nilE)) [1] (bndN 1) (testE (notNE (callF 2 F_rows_in (consA (varE 1) (consA (varE 0) (nilE)))))) (varE 1))))
def F_forms_for : List SV → M D := runF 2 g_forms_for
def gN_forms_for : Sim.Env → M Fl := thenS (exprS (callF 1 F_need_samples (consA (varE 0) (nilE)))) (retN (lcE (itemsE (callF 0 F_all_forms nilE)) [1] (bndN 1) (testE (notNE (callF 2 F_rows_in (consA (varE 1) (consA (varE 0) (nilE)))))) (varE 1)))
def FN_forms_for : List SV → M (List D) := runN 2 gN_forms_for

abbrev s_paces : Stmt := top 64
abbrev n_paces : List Str := ["samples", "form"]
abbrev c_paces : Scope := { kind := .function, names := [("samples", .local), ("sorted", .globalImplicit), ("set", .globalImplicit), ("forms_for", .globalImplicit)], isGenerator := false, isCoroutine := false, more := [("fast", .str "samples"), ("fast", .str "form")] }
theorem sc_paces : FnScope n_paces ["samples"] c_paces := ⟨rfl, rfl, rfl, by decide +kernel, rfl, by decide +kernel, by decide +kernel⟩
def g_paces : Sim.Env → M Fl := retS (sortSetE (listE (lcE (itemsE (callF 1 F_forms_for (consA (varE 0) (nilE)))) [1] (bndN 1) (yesT) (opE ixD (varE 1) (cE (.int 0))))))
def F_paces : List SV → M D := runF 2 g_paces
def gN_paces : Sim.Env → M Fl := retN (sortSetN (listE (lcE (itemsE (callF 1 F_forms_for (consA (varE 0) (nilE)))) [1] (bndN 1) (yesT) (opE ixD (varE 1) (cE (.int 0))))))
def FN_paces : List SV → M (List D) := runN 2 gN_paces

abbrev s_falls : Stmt := top 65
abbrev n_falls : List Str := ["samples", "at"]
abbrev c_falls : Scope := { kind := .function, names := [("samples", .cell), ("need_samples", .globalImplicit), ("range", .globalImplicit), ("len", .globalImplicit)], isGenerator := false, isCoroutine := false, more := [("fast", .str "samples"), ("fast", .str "at")] }
theorem sc_falls : FnScope n_falls ["samples"] c_falls := ⟨rfl, rfl, rfl, by decide +kernel, rfl, by decide +kernel, by decide +kernel⟩
def g_falls : Sim.Env → M Fl := thenS (exprS (callF 1 F_need_samples (consA (varE 0) (nilE)))) (retS (listE (lcE (rngE rng1M (consE (callB lenD (consE (varE 0) (nilE))) (nilE))) [1] (bndN 1) (andT (testE (opE eqD (opE ixD (varE 0) (varE 1)) (cE (.str "0")))) (orT (testE (opE eqD (varE 1) (cE (.int 0)))) (testE (opE eqD (opE ixD (varE 0) (opE subD (varE 1) (cE (.int 1)))) (cE (.str "1")))))) (varE 1))))
def F_falls : List SV → M D := runF 2 g_falls
def gN_falls : Sim.Env → M Fl := thenS (exprS (callF 1 F_need_samples (consA (varE 0) (nilE)))) (retN (lcE (rngE rng1M (consE (callB lenD (consE (varE 0) (nilE))) (nilE))) [1] (bndN 1) (andT (testE (opE eqD (opE ixD (varE 0) (varE 1)) (cE (.str "0")))) (orT (testE (opE eqD (varE 1) (cE (.int 0)))) (testE (opE eqD (opE ixD (varE 0) (opE subD (varE 1) (cE (.int 1)))) (cE (.str "1")))))) (varE 1)))
def FN_falls : List SV → M (List D) := runN 2 gN_falls

abbrev s_is_form : Stmt := top 19
abbrev n_is_form : List Str := ["thing"]
abbrev c_is_form : Scope := { kind := .function, names := [("thing", .local), ("isinstance", .globalImplicit), ("tuple", .globalImplicit), ("len", .globalImplicit), ("is_whole", .globalImplicit), ("PACE", .globalImplicit), ("LEAST", .globalImplicit), ("MOST", .globalImplicit), ("is_one_of", .globalImplicit), ("ORDERS", .globalImplicit), ("PARITIES", .globalImplicit)], isGenerator := false, isCoroutine := false, more := [] }
theorem sc_is_form : FnScope n_is_form ["thing"] c_is_form := ⟨rfl, rfl, rfl, by decide +kernel, rfl, by decide +kernel, by decide +kernel⟩
def g_is_form : Sim.Env → M Fl := thenS (ifS (orT (notT (testE (isiE PyData.isTuple (varE 0)))) (orT (testE (opE neD (callB lenD (consE (varE 0) (nilE))) (cE (.int 5)))) (notT (testE (callF 3 F_is_whole (consA (opE ixD (varE 0) (cE (.int 0))) (consA (cE (.int 1)) (consA (cE (.int 6)) (nilE))))))))) (retS (cE (.bool false))) (nextS)) (thenS (ifS (orT (notT (testE (callF 3 F_is_whole (consA (opE ixD (varE 0) (cE (.int 1))) (consA (cE (.int 4)) (consA (cE (.int 6)) (nilE))))))) (notT (testE (callF 2 F_is_one_of (consA (opE ixD (varE 0) (cE (.int 2))) (consA (cE (.tuple [.str "low", .str "high"])) (nilE))))))) (retS (cE (.bool false))) (nextS)) (retS (andE (callF 2 F_is_one_of (consA (opE ixD (varE 0) (cE (.int 3))) (consA (cE (.tuple [.str "none", .str "even", .str "odd"])) (nilE)))) (callF 3 F_is_whole (consA (opE ixD (varE 0) (cE (.int 4))) (consA (cE (.int 1)) (consA (cE (.int 2)) (nilE))))))))
def F_is_form : List SV → M D := runF 1 g_is_form

abbrev s_need_form : Stmt := top 20
abbrev n_need_form : List Str := ["thing"]
abbrev c_need_form : Scope := { kind := .function, names := [("thing", .local), ("is_form", .globalImplicit), ("NoForm", .globalImplicit)], isGenerator := false, isCoroutine := false, more := [] }
theorem sc_need_form : FnScope n_need_form ["thing"] c_need_form := ⟨rfl, rfl, rfl, by decide +kernel, rfl, by decide +kernel, by decide +kernel⟩
def g_need_form : Sim.Env → M Fl := ifS (notT (testE (callF 1 F_is_form (consA (varE 0) (nilE))))) (raiseS 0) (nextS)
def F_need_form : List SV → M D := runF 1 g_need_form

abbrev s_L___init__ : Stmt := inClass (top 48) 0
abbrev n_L___init__ : List Str := ["self", "form"]
abbrev c_L___init__ : Scope := { kind := .function, names := [("self", .local), ("form", .local), ("need_form", .globalImplicit)], isGenerator := false, isCoroutine := false, more := [] }
theorem sc_L___init__ : FnScope n_L___init__ ["self", "form"] c_L___init__ := ⟨rfl, rfl, rfl, by decide +kernel, rfl, by decide +kernel, by decide +kernel⟩

abbrev s_L_ended : Stmt := inClass (top 48) 2
abbrev n_L_ended : List Str := ["self", "pace", "bits", "order", "parity", "stops", "own", "good", "word"]
abbrev c_L_ended : Scope := { kind := .function, names := [("self", .local), ("pace", .local), ("bits", .local), ("order", .local), ("parity", .local), ("stops", .local), ("own", .local), ("good", .local), ("word", .local), ("len", .globalImplicit), ("int", .globalImplicit), ("list", .globalImplicit), ("parity_of", .globalImplicit), ("word_of", .globalImplicit)], isGenerator := false, isCoroutine := false, more := [] }
theorem sc_L_ended : FnScope n_L_ended ["self"] c_L_ended := ⟨rfl, rfl, rfl, by decide +kernel, rfl, by decide +kernel, by decide +kernel⟩
def g_L_ended : Sim.Env → M Fl := thenS (setT (bndT [1, 2, 3, 4, 5]) (fldE 0 .form)) (thenS (ifS (testE (opE ltD (callB lenD (consE (fldE 0 .bits) (nilE))) (opE addD (opE addD (opE addD (cE (.int 1)) (varE 2)) (callB intD (consE (opE neD (varE 4) (cE (.str "none"))) (nilE)))) (varE 5)))) (retS (cE .none)) (nextS)) (thenS (setS 6 (callB listD (consE (sliceE (fldE 0 .bits) (someO (cE (.int 1))) (someO (opE addD (cE (.int 1)) (varE 2)))) (nilE)))) (thenS (setS 7 (andE (opE eqD (opE ixD (fldE 0 .bits) (cE (.int 0))) (cE (.int 0))) (opE eqD (callB listD (consE (sliceE (fldE 0 .bits) (someO (opE addD (cE (.int 1)) (varE 2))) noneO) (nilE))) (opE addD (callF 2 F_parity_of (consA (fldE 0 .form) (consA (varE 6) (nilE)))) (opE mulD (listE (lstN (consE (cE (.int 1)) (nilE)))) (varE 5)))))) (thenS (setS 8 (ifE (testE (varE 7)) (callF 2 F_word_of (consA (fldE 0 .form) (consA (varE 6) (nilE)))) (cE .none))) (thenS (setF 0 .told (opE addD (fldE 0 .told) (tupE (consE (varE 8) (nilE))))) (thenS (setF 0 .tick (cE .none)) (thenS (setF 0 .bits (tupE (nilE))) (retS (ifE (testE (varE 7)) (tupE (consE (cE (.str "word")) (consE (varE 8) (nilE)))) (tupE (consE (cE (.str "fault")) (nilE))))))))))))
def F_L_ended : List SV → M D := runF 9 g_L_ended

abbrev s_L_hear : Stmt := inClass (top 48) 1
abbrev n_L_hear : List Str := ["self", "sample", "pace"]
abbrev c_L_hear : Scope := { kind := .function, names := [("self", .local), ("sample", .local), ("pace", .local), ("isinstance", .globalImplicit), ("str", .globalImplicit), ("NoSamples", .globalImplicit), ("int", .globalImplicit)], isGenerator := false, isCoroutine := false, more := [] }
theorem sc_L_hear : FnScope n_L_hear ["self", "sample"] c_L_hear := ⟨rfl, rfl, rfl, by decide +kernel, rfl, by decide +kernel, by decide +kernel⟩
def g_L_hear : Sim.Env → M Fl := thenS (ifS (orT (notT (testE (isiE PyData.isStr (varE 1)))) (testE (opE notInD (varE 1) (tupE (consE (cE (.str "0")) (consE (cE (.str "1")) (nilE))))))) (raiseS 1) (nextS)) (thenS (pastS 0 (tupE (consE (fldE 0 .tick) (consE (fldE 0 .bits) (consE (fldE 0 .told) (consE (varE 1) (nilE))))))) (thenS (ifS (andT (testE (isNE (fldE 0 .tick))) (testE (opE eqD (varE 1) (cE (.str "1"))))) (retS (cE .none)) (nextS)) (thenS (ifS (testE (isNE (fldE 0 .tick))) (setF 0 .tick (cE (.int 0))) (nextS)) (thenS (setS 2 (opE ixD (fldE 0 .form) (cE (.int 0)))) (thenS (ifS (testE (opE eqD (opE modD (fldE 0 .tick) (varE 2)) (opE fdivD (varE 2) (cE (.int 2))))) (setF 0 .bits (opE addD (fldE 0 .bits) (tupE (consE (callB intD (consE (varE 1) (nilE))) (nilE))))) (nextS)) (thenS (setF 0 .tick (opE addD (fldE 0 .tick) (cE (.int 1)))) (retS (methL 0 1 F_L_ended nilE))))))))
def F_L_hear : List SV → M D := runF 3 g_L_hear

abbrev s_heard_of : Stmt := top 50
abbrev n_heard_of : List Str := ["form", "samples", "listener", "made", "tick", "sign", "told"]
abbrev c_heard_of : Scope := { kind := .function, names := [("form", .local), ("samples", .local), ("listener", .local), ("made", .local), ("tick", .local), ("sign", .local), ("told", .local), ("Listener", .globalImplicit), ("enumerate", .globalImplicit)], isGenerator := false, isCoroutine := false, more := [] }
theorem sc_heard_of : FnScope n_heard_of ["form", "samples"] c_heard_of := ⟨rfl, rfl, rfl, by decide +kernel, rfl, by decide +kernel, by decide +kernel⟩
def g_heard_of : Sim.Env → M Fl := newS 2 F_need_form (varE 0) (thenS (setN 3 (lstN (nilE))) (thenS (forS (rngE enumSM (consE (varE 1) (nilE))) (bndT [4, 5]) (thenS (setS 6 (methL 2 2 F_L_hear (consA (varE 5) (nilE)))) (ifS (testE (notNE (varE 6))) (appS 3 (tupE (consE (varE 4) (consE (ifE (testE (opE eqD (opE ixD (varE 6) (cE (.int 0))) (cE (.str "word")))) (opE ixD (varE 6) (cE (.int 1))) (cE .none)) (nilE))))) (nextS)))) (freezeS 3 (retS (varE 3)))))
def F_heard_of : List SV → M D := runF 7 g_heard_of
def gN_heard_of : Sim.Env → M Fl := newS 2 F_need_form (varE 0) (thenS (setN 3 (lstN (nilE))) (thenS (forS (rngE enumSM (consE (varE 1) (nilE))) (bndT [4, 5]) (thenS (setS 6 (methL 2 2 F_L_hear (consA (varE 5) (nilE)))) (ifS (testE (notNE (varE 6))) (appS 3 (tupE (consE (varE 4) (consE (ifE (testE (opE eqD (opE ixD (varE 6) (cE (.int 0))) (cE (.str "word")))) (opE ixD (varE 6) (cE (.int 1))) (cE .none)) (nilE))))) (nextS)))) (rnOwn 3)))
def FN_heard_of : List SV → M (List D) := runN 7 gN_heard_of

abbrev s_heard : Stmt := top 51
abbrev n_heard : List Str := ["form", "samples"]
abbrev c_heard : Scope := { kind := .function, names := [("form", .local), ("samples", .local), ("need_form", .globalImplicit), ("need_samples", .globalImplicit), ("heard_of", .globalImplicit)], isGenerator := false, isCoroutine := false, more := [] }
theorem sc_heard : FnScope n_heard ["form", "samples"] c_heard := ⟨rfl, rfl, rfl, by decide +kernel, rfl, by decide +kernel, by decide +kernel⟩
def g_heard : Sim.Env → M Fl := thenS (exprS (callF 1 F_need_form (consA (varE 0) (nilE)))) (thenS (exprS (callF 1 F_need_samples (consA (varE 1) (nilE)))) (retS (callF 2 F_heard_of (consA (varE 0) (consA (varE 1) (nilE))))))
def F_heard : List SV → M D := runF 2 g_heard
def gN_heard : Sim.Env → M Fl := thenS (exprS (callF 1 F_need_form (consA (varE 0) (nilE)))) (thenS (exprS (callF 1 F_need_samples (consA (varE 1) (nilE)))) (retN (callN 2 FN_heard_of (consA (varE 0) (consA (varE 1) (nilE))))))
def FN_heard : List SV → M (List D) := runN 2 gN_heard

abbrev s_heard_again : Stmt := top 52
abbrev n_heard_again : List Str := ["form", "rows", "spoilt", "samples", "at"]
abbrev c_heard_again : Scope := { kind := .function, names := [("form", .local), ("rows", .cell), ("spoilt", .cell), ("samples", .local), ("range", .globalImplicit), ("len", .globalImplicit), ("heard_of", .globalImplicit)], isGenerator := false, isCoroutine := false, more := [("fast", .str "form"), ("fast", .str "rows"), ("fast", .str "spoilt"), ("fast", .str "at"), ("fast", .str "samples")] }
theorem sc_heard_again : FnScope n_heard_again ["form", "rows", "spoilt"] c_heard_again := ⟨rfl, rfl, rfl, by decide +kernel, rfl, by decide +kernel, by decide +kernel⟩
def g_heard_again : Sim.Env → M Fl := thenS (setS 3 (methE isStrD joinD (cE (.str "")) (consE (listE (lcE (rngE rng1M (consE (callB lenD (consE (varE 1) (nilE))) (nilE))) [4] (bndN 4) (yesT) (ifE (testE (opE notInD (varE 4) (varE 2))) (opE ixD (varE 1) (varE 4)) (opE ixD (cE (.str "10")) (callB intD (consE (opE ixD (varE 1) (varE 4)) (nilE))))))) (nilE)))) (retS (callF 2 F_heard_of (consA (varE 0) (consA (varE 3) (nilE)))))
def F_heard_again : List SV → M D := runF 5 g_heard_again

abbrev s_faulty_ticks : Stmt := top 53
abbrev n_faulty_ticks : List Str := ["form", "samples", "plain", "at"]
abbrev c_faulty_ticks : Scope := { kind := .function, names := [("form", .cell), ("samples", .cell), ("plain", .cell), ("need_form", .globalImplicit), ("need_samples", .globalImplicit), ("heard_of", .globalImplicit), ("range", .globalImplicit), ("len", .globalImplicit)], isGenerator := false, isCoroutine := false, more := [("fast", .str "form"), ("fast", .str "samples"), ("fast", .str "plain"), ("fast", .str "at")] }
theorem sc_faulty_ticks : FnScope n_faulty_ticks ["form", "samples"] c_faulty_ticks := ⟨rfl, rfl, rfl, by decide +kernel, rfl, by decide +kernel, by decide +kernel⟩
def g_faulty_ticks : Sim.Env → M Fl := thenS (exprS (callF 1 F_need_form (consA (varE 0) (nilE)))) (thenS (exprS (callF 1 F_need_samples (consA (varE 1) (nilE)))) (thenS (setS 2 (callF 2 F_heard_of (consA (varE 0) (consA (varE 1) (nilE))))) (retS (listE (lcE (rngE rng1M (consE (callB lenD (consE (varE 1) (nilE))) (nilE))) [3] (bndN 3) (testE (opE neD (callF 3 F_heard_again (consA (varE 0) (consA (varE 1) (consA (listE (lstN (consE (varE 3) (nilE)))) (nilE))))) (varE 2))) (varE 3))))))
def F_faulty_ticks : List SV → M D := runF 4 g_faulty_ticks
def gN_faulty_ticks : Sim.Env → M Fl := thenS (exprS (callF 1 F_need_form (consA (varE 0) (nilE)))) (thenS (exprS (callF 1 F_need_samples (consA (varE 1) (nilE)))) (thenS (setS 2 (callF 2 F_heard_of (consA (varE 0) (consA (varE 1) (nilE))))) (retN (lcE (rngE rng1M (consE (callB lenD (consE (varE 1) (nilE))) (nilE))) [3] (bndN 3) (testE (opE neD (callF 3 F_heard_again (consA (varE 0) (consA (varE 1) (consA (listE (lstN (consE (varE 3) (nilE)))) (nilE))))) (varE 2))) (varE 3)))))
def FN_faulty_ticks : List SV → M (List D) := runN 4 gN_faulty_ticks

abbrev s__law_ask : Stmt := top 79
abbrev n__law_ask : List Str := ["what", "form", "samples", "packets"]
abbrev c__law_ask : Scope := { kind := .function, names := [("what", .local), ("form", .local), ("samples", .local), ("packets", .local), ("runs", .globalImplicit), ("paces", .globalImplicit), ("falls", .globalImplicit), ("heard", .globalImplicit), ("layers_of", .globalImplicit), ("faulty_ticks", .globalImplicit), ("forms_for", .globalImplicit)], isGenerator := false, isCoroutine := false, more := [] }
theorem sc__law_ask : FnScope n__law_ask ["what", "form", "samples", "packets"] c__law_ask := ⟨rfl, rfl, rfl, by decide +kernel, rfl, by decide +kernel, by decide +kernel⟩
def g__law_ask : Sim.Env → M Fl := thenS (ifS (testE (opE eqD (varE 0) (cE (.int 0)))) (retS (callF 1 F_runs (consA (varE 2) (nilE)))) (nextS)) (thenS (ifS (testE (opE eqD (varE 0) (cE (.int 1)))) (retS (callF 1 F_paces (consA (varE 2) (nilE)))) (nextS)) (thenS (ifS (testE (opE eqD (varE 0) (cE (.int 2)))) (retS (callF 1 F_falls (consA (varE 2) (nilE)))) (nextS)) (thenS (ifS (testE (opE eqD (varE 0) (cE (.int 3)))) (retS (callF 2 F_heard (consA (varE 1) (consA (opE addD (varE 2) (opE mulD (cE (.str "1")) (cE (.int 9)))) (nilE))))) (nextS)) (thenS (ifS (testE (opE eqD (varE 0) (cE (.int 4)))) (retS (callF 2 F_layers_of (consA (opE ixD (varE 1) (cE (.int 1))) (consA (varE 3) (nilE))))) (nextS)) (retS (ifE (testE (opE eqD (varE 0) (cE (.int 5)))) (callF 2 F_faulty_ticks (consA (varE 1) (consA (varE 2) (nilE)))) (callF 1 F_forms_for (consA (varE 2) (nilE)))))))))
def F__law_ask : List SV → M D := runF 4 g__law_ask
def gN__law_ask : Sim.Env → M Fl := thenS (ifS (testE (opE eqD (varE 0) (cE (.int 0)))) (retN (callN 1 FN_runs (consA (varE 2) (nilE)))) (nextS)) (thenS (ifS (testE (opE eqD (varE 0) (cE (.int 1)))) (retN (callN 1 FN_paces (consA (varE 2) (nilE)))) (nextS)) (thenS (ifS (testE (opE eqD (varE 0) (cE (.int 2)))) (retN (callN 1 FN_falls (consA (varE 2) (nilE)))) (nextS)) (thenS (ifS (testE (opE eqD (varE 0) (cE (.int 3)))) (retN (callN 2 FN_heard (consA (varE 1) (consA (opE addD (varE 2) (opE mulD (cE (.str "1")) (cE (.int 9)))) (nilE))))) (nextS)) (thenS (ifS (testE (opE eqD (varE 0) (cE (.int 4)))) (retN (callN 2 FN_layers_of (consA (opE ixD (varE 1) (cE (.int 1))) (consA (varE 3) (nilE))))) (nextS)) (retN (ifE (testE (opE eqD (varE 0) (cE (.int 5)))) (callN 2 FN_faulty_ticks (consA (varE 1) (consA (varE 2) (nilE)))) (callN 1 FN_forms_for (consA (varE 2) (nilE)))))))))
def FN__law_ask : List SV → M (List D) := runN 4 gN__law_ask

abbrev s_need_words : Stmt := top 31
abbrev n_need_words : List Str := ["bits", "thing", "word"]
abbrev c_need_words : Scope := { kind := .function, names := [("bits", .cell), ("thing", .local), ("is_whole", .globalImplicit), ("LEAST", .globalImplicit), ("MOST", .globalImplicit), ("NoForm", .globalImplicit), ("isinstance", .globalImplicit), ("tuple", .globalImplicit), ("len", .globalImplicit), ("WORDS", .globalImplicit), ("NoWords", .globalImplicit), ("all", .globalImplicit)], isGenerator := false, isCoroutine := false, more := [("fast", .str "bits"), ("fast", .str "thing"), ("fast", .str "word")] }
theorem sc_need_words : FnScope n_need_words ["bits", "thing"] c_need_words := ⟨rfl, rfl, rfl, by decide +kernel, rfl, by decide +kernel, by decide +kernel⟩
def g_need_words : Sim.Env → M Fl := thenS (ifS (notT (testE (callF 3 F_is_whole (consA (varE 0) (consA (cE (.int 4)) (consA (cE (.int 6)) (nilE))))))) (raiseS 0) (nextS)) (thenS (ifS (orT (notT (testE (isiE PyData.isTuple (varE 1)))) (notT (testE (chainE leD leD (cE (.int 1)) (callB lenD (consE (varE 1) (nilE))) (cE (.int 40)))))) (raiseS 3) (nextS)) (ifS (notT (testE (callB allD (consE (listE (lcE (itemsE (varE 1)) [2] (bndN 2) (yesT) (callF 3 F_is_whole (consA (varE 2) (consA (cE (.int 0)) (consA (callF 1 F_top_of (consA (varE 0) (nilE))) (nilE))))))) (nilE))))) (raiseS 3) (nextS)))
def F_need_words : List SV → M D := runF 3 g_need_words

abbrev s_layers_for : Stmt := top 37
abbrev n_layers_for : List Str := ["bits", "words", "some", "made", "layer", "many", "word", "check"]
abbrev c_layers_for : Scope := { kind := .function, names := [("bits", .cell), ("words", .cell), ("some", .local), ("made", .local), ("layer", .cell), ("need_words", .globalImplicit), ("range", .globalImplicit), ("FIXED", .globalImplicit), ("top_of", .globalImplicit), ("CHECKS", .globalImplicit), ("sorted", .globalImplicit)], isGenerator := false, isCoroutine := false, more := [("fast", .str "bits"), ("fast", .str "words"), ("fast", .str "many"), ("fast", .str "some"), ("fast", .str "word"), ("fast", .str "made"), ("fast", .str "layer"), ("fast", .str "check")] }
theorem sc_layers_for : FnScope n_layers_for ["bits", "words"] c_layers_for := ⟨rfl, rfl, rfl, by decide +kernel, rfl, by decide +kernel, by decide +kernel⟩
def g_layers_for : Sim.Env → M Fl := thenS (exprS (callF 2 F_need_words (consA (varE 0) (consA (varE 1) (nilE))))) (thenS (setN 2 (catN (listE (lcE (rngE rng2M (consE (cE (.int 1)) (consE (opE addD (cE (.int 9)) (cE (.int 1))) (nilE)))) [5] (bndN 5) (yesT) (tupE (consE (cE (.str "fixed")) (consE (varE 5) (nilE)))))) (listE (lstN (consE (tupE (consE (cE (.str "length")) (nilE))) (nilE)))))) (thenS (extS 2 (listE (lcE (rngE rng1M (consE (opE addD (callF 1 F_top_of (consA (varE 0) (nilE))) (cE (.int 1))) (nilE))) [6] (bndN 6) (yesT) (tupE (consE (cE (.str "mark")) (consE (varE 6) (nilE))))))) (thenS (setN 3 (lstN (nilE))) (freezeS 2 (thenS (forS (itemsE (varE 2)) (bndN 4) (extS 3 (listE (lcE (itemsE (cE (.tuple [.str "none", .str "sum", .str "xor"]))) [7] (bndN 7) (testE (notNE (callF 4 F_packets_in (consA (varE 0) (consA (varE 1) (consA (varE 4) (consA (varE 7) (nilE)))))))) (tupE (consE (varE 4) (consE (varE 7) (nilE)))))))) (retS (callB sortedD (consE (borE 3) (nilE)))))))))
def F_layers_for : List SV → M D := runF 8 g_layers_for

abbrev s_law : Stmt := top 80
abbrev n_law : List Str := ["script", "town", "begin", "form", "samples", "packets", "stored", "k", "what", "made", "copy", "anew", "some", "kept", "layer", "check"]
abbrev c_law : Scope := { kind := .function, names := [("script", .local), ("town", .local), ("begin", .local), ("form", .local), ("samples", .local), ("packets", .local), ("stored", .local), ("k", .local), ("what", .local), ("made", .local), ("copy", .local), ("anew", .local), ("some", .local), ("kept", .local), ("layer", .local), ("check", .local), ("_law_draw", .globalImplicit), ("_law_form", .globalImplicit), ("_law_samples", .globalImplicit), ("_law_packets", .globalImplicit), ("_law_frame", .globalImplicit), ("list", .globalImplicit), ("range", .globalImplicit), ("_law_ask", .globalImplicit), ("isinstance", .globalImplicit), ("runs", .globalImplicit), ("from_runs", .globalImplicit), ("layers_of", .globalImplicit), ("packed", .globalImplicit), ("layers_for", .globalImplicit)], isGenerator := false, isCoroutine := false, more := [] }
theorem sc_law : FnScope n_law ["script"] c_law := ⟨rfl, rfl, rfl, by decide +kernel, rfl, by decide +kernel, by decide +kernel⟩
def g_law_1 : Sim.Env → M Fl := thenS (forS (rngE rng1M (consE (cE (.int 7)) (nilE))) (bndN 7) (thenS (setS 8 (opE modD (opE addD (varE 2) (opE mulD (cE (.int 3)) (varE 7))) (cE (.int 7)))) (thenS (setN 9 (callN 4 FN__law_ask (consA (varE 8) (consA (varE 3) (consA (varE 4) (consA (varE 5) (nilE))))))) (thenS (setS 10 (callB listD (consE (borE 9) (nilE)))) (thenS (appS 9 (cE (.str "changed"))) (thenS (putS 9 0 (cE .none)) (thenS (setS 11 (callF 4 F__law_ask (consA (varE 8) (consA (varE 3) (consA (varE 4) (consA (varE 5) (nilE))))))) (ifS (orT (testE (opE neD (varE 11) (varE 10))) (notT (testE (isiE PyData.isList (varE 11))))) (retS (cE (.bool false))) (nextS))))))))) (thenS (setS 12 (callF 1 F_runs (consA (varE 4) (nilE)))) (thenS (setS 13 (callB listD (consE (varE 12) (nilE)))) (thenS (exprS (callF 1 F_from_runs (consA (varE 12) (nilE)))) (thenS (forS (itemsE (callF 2 F_layers_of (consA (cE (.int 4)) (consA (varE 5) (nilE))))) (bndT [14, 15]) (thenS (exprS (callF 4 F_packed (consA (cE (.int 4)) (consA (varE 5) (consA (varE 14) (consA (varE 15) (nilE))))))) (exprS (callF 2 F_layers_for (consA (cE (.int 4)) (consA (callF 4 F_packed (consA (cE (.int 4)) (consA (varE 5) (consA (varE 14) (consA (varE 15) (nilE)))))) (nilE))))))) (retS (andE (opE eqD (varE 5) (varE 6)) (opE eqD (varE 12) (varE 13))))))))
def g_law : Sim.Env → M Fl := thenS (setS 2 (callF 3 F__law_draw (scrA 0 (townA 1 (consA (cE (.int 7)) (nilE)))))) (thenS (setS 3 (callF 2 F__law_form (scrA 0 (townA 1 (nilE))))) (thenS (setS 4 (opE ixD (callF 4 F__law_samples (scrA 0 (townA 1 (consA (varE 3) (consA (cE (.int 40)) (nilE)))))) (cE (.int 0)))) (thenS (setS 5 (callF 4 F__law_packets (scrA 0 (townA 1 (consA (cE (.int 4)) (consA (cE (.int 3)) (nilE))))))) (thenS (setS 3 (opE addD (opE addD (sliceE (varE 3) noneO (someO (cE (.int 1)))) (tupE (consE (cE (.int 4)) (nilE)))) (sliceE (varE 3) (someO (cE (.int 2))) noneO))) (thenS (setS 4 (callF 2 F__law_frame (consA (varE 3) (consA (cE (.int 5)) (nilE))))) (thenS (setS 6 (callB listD (consE (varE 5) (nilE)))) (g_law_1)))))))

structure Tx (K : PySem.W.Frag) (mg : Str → Option Value) where
  a__law_cell_at : Addr
  d__law_cell_at : FuncData
  f__law_cell_at : Fun K "_law_cell_at" "_law_cell_at" s__law_cell_at a__law_cell_at d__law_cell_at
  m__law_cell_at : mg "_law_cell_at" = some (.ref a__law_cell_at)
  b__law_cell_at : Binds K d__law_cell_at ["script", "k"] []
  a__law_mixed : Addr
  d__law_mixed : FuncData
  f__law_mixed : Fun K "_law_mixed" "_law_mixed" s__law_mixed a__law_mixed d__law_mixed
  m__law_mixed : mg "_law_mixed" = some (.ref a__law_mixed)
  b__law_mixed : Binds K d__law_mixed ["script", "k", "many"] []
  a__law_draw : Addr
  d__law_draw : FuncData
  f__law_draw : Fun K "_law_draw" "_law_draw" s__law_draw a__law_draw d__law_draw
  m__law_draw : mg "_law_draw" = some (.ref a__law_draw)
  b__law_draw : Binds K d__law_draw ["script", "town", "many"] []
  a__law_pick : Addr
  d__law_pick : FuncData
  f__law_pick : Fun K "_law_pick" "_law_pick" s__law_pick a__law_pick d__law_pick
  m__law_pick : mg "_law_pick" = some (.ref a__law_pick)
  b__law_pick : Binds K d__law_pick ["script", "town", "some"] []
  a__law_form : Addr
  d__law_form : FuncData
  f__law_form : Fun K "_law_form" "_law_form" s__law_form a__law_form d__law_form
  m__law_form : mg "_law_form" = some (.ref a__law_form)
  b__law_form : Binds K d__law_form ["script", "town"] []
  a__law_packets : Addr
  d__law_packets : FuncData
  f__law_packets : Fun K "_law_packets" "_law_packets" s__law_packets a__law_packets d__law_packets
  m__law_packets : mg "_law_packets" = some (.ref a__law_packets)
  b__law_packets : Binds K d__law_packets ["script", "town", "bits", "most"] []
  a__law_frame : Addr
  d__law_frame : FuncData
  f__law_frame : Fun K "_law_frame" "_law_frame" s__law_frame a__law_frame d__law_frame
  m__law_frame : mg "_law_frame" = some (.ref a__law_frame)
  b__law_frame : Binds K d__law_frame ["form", "word"] []
  a_need_samples : Addr
  d_need_samples : FuncData
  f_need_samples : Fun K "need_samples" "need_samples" s_need_samples a_need_samples d_need_samples
  m_need_samples : mg "need_samples" = some (.ref a_need_samples)
  b_need_samples : Binds K d_need_samples ["thing"] []
  a_runs_of : Addr
  d_runs_of : FuncData
  f_runs_of : Fun K "runs_of" "runs_of" s_runs_of a_runs_of d_runs_of
  m_runs_of : mg "runs_of" = some (.ref a_runs_of)
  b_runs_of : Binds K d_runs_of ["samples"] []
  a_runs : Addr
  d_runs : FuncData
  f_runs : Fun K "runs" "runs" s_runs a_runs d_runs
  m_runs : mg "runs" = some (.ref a_runs)
  b_runs : Binds K d_runs ["samples"] []
  a_is_whole : Addr
  d_is_whole : FuncData
  f_is_whole : Fun K "is_whole" "is_whole" s_is_whole a_is_whole d_is_whole
  m_is_whole : mg "is_whole" = some (.ref a_is_whole)
  b_is_whole : Binds K d_is_whole ["thing", "low", "most"] []
  a_are_runs : Addr
  d_are_runs : FuncData
  f_are_runs : Fun K "are_runs" "are_runs" s_are_runs a_are_runs d_are_runs
  m_are_runs : mg "are_runs" = some (.ref a_are_runs)
  b_are_runs : Binds K d_are_runs ["thing"] []
  a_from_runs : Addr
  d_from_runs : FuncData
  f_from_runs : Fun K "from_runs" "from_runs" s_from_runs a_from_runs d_from_runs
  m_from_runs : mg "from_runs" = some (.ref a_from_runs)
  b_from_runs : Binds K d_from_runs ["some"] []
  a_top_of : Addr
  d_top_of : FuncData
  f_top_of : Fun K "top_of" "top_of" s_top_of a_top_of d_top_of
  m_top_of : mg "top_of" = some (.ref a_top_of)
  b_top_of : Binds K d_top_of ["bits"] []
  a_are_packets : Addr
  d_are_packets : FuncData
  f_are_packets : Fun K "are_packets" "are_packets" s_are_packets a_are_packets d_are_packets
  m_are_packets : mg "are_packets" = some (.ref a_are_packets)
  b_are_packets : Binds K d_are_packets ["bits", "thing"] []
  a_is_layer : Addr
  d_is_layer : FuncData
  f_is_layer : Fun K "is_layer" "is_layer" s_is_layer a_is_layer d_is_layer
  m_is_layer : mg "is_layer" = some (.ref a_is_layer)
  b_is_layer : Binds K d_is_layer ["bits", "thing"] []
  a_is_one_of : Addr
  d_is_one_of : FuncData
  f_is_one_of : Fun K "is_one_of" "is_one_of" s_is_one_of a_is_one_of d_is_one_of
  m_is_one_of : mg "is_one_of" = some (.ref a_is_one_of)
  b_is_one_of : Binds K d_is_one_of ["thing", "words"] []
  a_need_all : Addr
  d_need_all : FuncData
  f_need_all : Fun K "need_all" "need_all" s_need_all a_need_all d_need_all
  m_need_all : mg "need_all" = some (.ref a_need_all)
  b_need_all : Binds K d_need_all ["bits", "packets", "layer", "check"] []
  a_one_packed : Addr
  d_one_packed : FuncData
  f_one_packed : Fun K "one_packed" "one_packed" s_one_packed a_one_packed d_one_packed
  m_one_packed : mg "one_packed" = some (.ref a_one_packed)
  b_one_packed : Binds K d_one_packed ["layer", "own"] []
  a_first_of : Addr
  d_first_of : FuncData
  f_first_of : Fun K "first_of" "first_of" s_first_of a_first_of d_first_of
  m_first_of : mg "first_of" = some (.ref a_first_of)
  b_first_of : Binds K d_first_of ["layer", "words"] []
  a_xor_of : Addr
  d_xor_of : FuncData
  f_xor_of : Fun K "xor_of" "xor_of" s_xor_of a_xor_of d_xor_of
  m_xor_of : mg "xor_of" = some (.ref a_xor_of)
  b_xor_of : Binds K d_xor_of ["one", "other"] []
  a_checked : Addr
  d_checked : FuncData
  f_checked : Fun K "checked" "checked" s_checked a_checked d_checked
  m_checked : mg "checked" = some (.ref a_checked)
  b_checked : Binds K d_checked ["bits", "own", "check"] []
  a_packets_in : Addr
  d_packets_in : FuncData
  f_packets_in : Fun K "packets_in" "packets_in" s_packets_in a_packets_in d_packets_in
  m_packets_in : mg "packets_in" = some (.ref a_packets_in)
  b_packets_in : Binds K d_packets_in ["bits", "words", "layer", "check"] []
  a_check_of : Addr
  d_check_of : FuncData
  f_check_of : Fun K "check_of" "check_of" s_check_of a_check_of d_check_of
  m_check_of : mg "check_of" = some (.ref a_check_of)
  b_check_of : Binds K d_check_of ["bits", "own", "check"] []
  a_packed : Addr
  d_packed : FuncData
  f_packed : Fun K "packed" "packed" s_packed a_packed d_packed
  m_packed : mg "packed" = some (.ref a_packed)
  b_packed : Binds K d_packed ["bits", "packets", "layer", "check"] []
  a_is_packed : Addr
  d_is_packed : FuncData
  f_is_packed : Fun K "is_packed" "is_packed" s_is_packed a_is_packed d_is_packed
  m_is_packed : mg "is_packed" = some (.ref a_is_packed)
  b_is_packed : Binds K d_is_packed ["bits", "packets", "layer", "check"] []
  a_layers_of : Addr
  d_layers_of : FuncData
  f_layers_of : Fun K "layers_of" "layers_of" s_layers_of a_layers_of d_layers_of
  m_layers_of : mg "layers_of" = some (.ref a_layers_of)
  b_layers_of : Binds K d_layers_of ["bits", "packets"] []
  a__law_samples : Addr
  d__law_samples : FuncData
  f__law_samples : Fun K "_law_samples" "_law_samples" s__law_samples a__law_samples d__law_samples
  m__law_samples : mg "_law_samples" = some (.ref a__law_samples)
  b__law_samples : Binds K d__law_samples ["script", "town", "form", "most"] []
  a_all_forms : Addr
  d_all_forms : FuncData
  f_all_forms : Fun K "all_forms" "all_forms" s_all_forms a_all_forms d_all_forms
  m_all_forms : mg "all_forms" = some (.ref a_all_forms)
  b_all_forms : Binds K d_all_forms [] []
  a_long_of : Addr
  d_long_of : FuncData
  f_long_of : Fun K "long_of" "long_of" s_long_of a_long_of d_long_of
  m_long_of : mg "long_of" = some (.ref a_long_of)
  b_long_of : Binds K d_long_of ["form"] []
  a_word_of : Addr
  d_word_of : FuncData
  f_word_of : Fun K "word_of" "word_of" s_word_of a_word_of d_word_of
  m_word_of : mg "word_of" = some (.ref a_word_of)
  b_word_of : Binds K d_word_of ["form", "bits"] []
  a_bit_of : Addr
  d_bit_of : FuncData
  f_bit_of : Fun K "bit_of" "bit_of" s_bit_of a_bit_of d_bit_of
  m_bit_of : mg "bit_of" = some (.ref a_bit_of)
  b_bit_of : Binds K d_bit_of ["samples"] []
  a_parity_of : Addr
  d_parity_of : FuncData
  f_parity_of : Fun K "parity_of" "parity_of" s_parity_of a_parity_of d_parity_of
  m_parity_of : mg "parity_of" = some (.ref a_parity_of)
  b_parity_of : Binds K d_parity_of ["form", "bits"] []
  a_word_at : Addr
  d_word_at : FuncData
  f_word_at : Fun K "word_at" "word_at" s_word_at a_word_at d_word_at
  m_word_at : mg "word_at" = some (.ref a_word_at)
  b_word_at : Binds K d_word_at ["form", "samples", "at"] []
  a_rows_in : Addr
  d_rows_in : FuncData
  f_rows_in : Fun K "rows_in" "rows_in" s_rows_in a_rows_in d_rows_in
  m_rows_in : mg "rows_in" = some (.ref a_rows_in)
  b_rows_in : Binds K d_rows_in ["form", "samples"] []
  a_forms_for : Addr
  d_forms_for : FuncData
  f_forms_for : Fun K "forms_for" "forms_for" s_forms_for a_forms_for d_forms_for
  m_forms_for : mg "forms_for" = some (.ref a_forms_for)
  b_forms_for : Binds K d_forms_for ["samples"] []
  a_paces : Addr
  d_paces : FuncData
  f_paces : Fun K "paces" "paces" s_paces a_paces d_paces
  m_paces : mg "paces" = some (.ref a_paces)
  b_paces : Binds K d_paces ["samples"] []
  a_falls : Addr
  d_falls : FuncData
  f_falls : Fun K "falls" "falls" s_falls a_falls d_falls
  m_falls : mg "falls" = some (.ref a_falls)
  b_falls : Binds K d_falls ["samples"] []
  a_is_form : Addr
  d_is_form : FuncData
  f_is_form : Fun K "is_form" "is_form" s_is_form a_is_form d_is_form
  m_is_form : mg "is_form" = some (.ref a_is_form)
  b_is_form : Binds K d_is_form ["thing"] []
  a_need_form : Addr
  d_need_form : FuncData
  f_need_form : Fun K "need_form" "need_form" s_need_form a_need_form d_need_form
  m_need_form : mg "need_form" = some (.ref a_need_form)
  b_need_form : Binds K d_need_form ["thing"] []
  a_L___init__ : Addr
  d_L___init__ : FuncData
  f_L___init__ : Fun K "__init__" "Listener.__init__" s_L___init__ a_L___init__ d_L___init__
  b_L___init__ : Binds K d_L___init__ ["self", "form"] []
  a_L_ended : Addr
  d_L_ended : FuncData
  f_L_ended : Fun K "ended" "Listener.ended" s_L_ended a_L_ended d_L_ended
  b_L_ended : Binds K d_L_ended ["self"] []
  a_L_hear : Addr
  d_L_hear : FuncData
  f_L_hear : Fun K "hear" "Listener.hear" s_L_hear a_L_hear d_L_hear
  b_L_hear : Binds K d_L_hear ["self", "sample"] []
  a_heard_of : Addr
  d_heard_of : FuncData
  f_heard_of : Fun K "heard_of" "heard_of" s_heard_of a_heard_of d_heard_of
  m_heard_of : mg "heard_of" = some (.ref a_heard_of)
  b_heard_of : Binds K d_heard_of ["form", "samples"] []
  a_heard : Addr
  d_heard : FuncData
  f_heard : Fun K "heard" "heard" s_heard a_heard d_heard
  m_heard : mg "heard" = some (.ref a_heard)
  b_heard : Binds K d_heard ["form", "samples"] []
  a_heard_again : Addr
  d_heard_again : FuncData
  f_heard_again : Fun K "heard_again" "heard_again" s_heard_again a_heard_again d_heard_again
  m_heard_again : mg "heard_again" = some (.ref a_heard_again)
  b_heard_again : Binds K d_heard_again ["form", "rows", "spoilt"] []
  a_faulty_ticks : Addr
  d_faulty_ticks : FuncData
  f_faulty_ticks : Fun K "faulty_ticks" "faulty_ticks" s_faulty_ticks a_faulty_ticks d_faulty_ticks
  m_faulty_ticks : mg "faulty_ticks" = some (.ref a_faulty_ticks)
  b_faulty_ticks : Binds K d_faulty_ticks ["form", "samples"] []
  a__law_ask : Addr
  d__law_ask : FuncData
  f__law_ask : Fun K "_law_ask" "_law_ask" s__law_ask a__law_ask d__law_ask
  m__law_ask : mg "_law_ask" = some (.ref a__law_ask)
  b__law_ask : Binds K d__law_ask ["what", "form", "samples", "packets"] []
  a_need_words : Addr
  d_need_words : FuncData
  f_need_words : Fun K "need_words" "need_words" s_need_words a_need_words d_need_words
  m_need_words : mg "need_words" = some (.ref a_need_words)
  b_need_words : Binds K d_need_words ["bits", "thing"] []
  a_layers_for : Addr
  d_layers_for : FuncData
  f_layers_for : Fun K "layers_for" "layers_for" s_layers_for a_layers_for d_layers_for
  m_layers_for : mg "layers_for" = some (.ref a_layers_for)
  b_layers_for : Binds K d_layers_for ["bits", "words"] []
  a_law : Addr
  d_law : FuncData
  f_law : Fun K "law" "law" s_law a_law d_law
  m_law : mg "law" = some (.ref a_law)
  b_law : Binds K d_law ["script"] []
  c_Listener : Addr
  g_Listener : mg "Listener" = some (.ref c_Listener)
  cls : Cls K c_Listener
  na_form : NoAttr K c_Listener "form"
  na_tick : NoAttr K c_Listener "tick"
  na_bits : NoAttr K c_Listener "bits"
  na_told : NoAttr K c_Listener "told"
  na_past : NoAttr K c_Listener "past"
  me_L_ended : Meth K c_Listener "ended" a_L_ended
  me_L_hear : Meth K c_Listener "hear" a_L_hear
  mkL : Mk K c_Listener a_L___init__
  c_NoForm : Addr
  g_NoForm : mg "NoForm" = some (.ref c_NoForm)
  x_NoForm : PySem.W.excIn K c_NoForm [.type "ValueError", .type "Exception", .type "BaseException", .type "object"] "ValueError.__new__" = true
  k_NoForm : PySem.W.keepIn K (.ref c_NoForm) = true
  s_NoForm : PySem.W.subIn K (.ref c_NoForm) (.type "BaseException") = some true
  t_NoForm : PySem.W.typeIn K (.ref c_NoForm) = some (.type "type")
  c_NoLayer : Addr
  g_NoLayer : mg "NoLayer" = some (.ref c_NoLayer)
  x_NoLayer : PySem.W.excIn K c_NoLayer [.type "ValueError", .type "Exception", .type "BaseException", .type "object"] "ValueError.__new__" = true
  k_NoLayer : PySem.W.keepIn K (.ref c_NoLayer) = true
  s_NoLayer : PySem.W.subIn K (.ref c_NoLayer) (.type "BaseException") = some true
  t_NoLayer : PySem.W.typeIn K (.ref c_NoLayer) = some (.type "type")
  c_NoPackets : Addr
  g_NoPackets : mg "NoPackets" = some (.ref c_NoPackets)
  x_NoPackets : PySem.W.excIn K c_NoPackets [.type "ValueError", .type "Exception", .type "BaseException", .type "object"] "ValueError.__new__" = true
  k_NoPackets : PySem.W.keepIn K (.ref c_NoPackets) = true
  s_NoPackets : PySem.W.subIn K (.ref c_NoPackets) (.type "BaseException") = some true
  t_NoPackets : PySem.W.typeIn K (.ref c_NoPackets) = some (.type "type")
  c_NoRuns : Addr
  g_NoRuns : mg "NoRuns" = some (.ref c_NoRuns)
  x_NoRuns : PySem.W.excIn K c_NoRuns [.type "ValueError", .type "Exception", .type "BaseException", .type "object"] "ValueError.__new__" = true
  k_NoRuns : PySem.W.keepIn K (.ref c_NoRuns) = true
  s_NoRuns : PySem.W.subIn K (.ref c_NoRuns) (.type "BaseException") = some true
  t_NoRuns : PySem.W.typeIn K (.ref c_NoRuns) = some (.type "type")
  c_NoSamples : Addr
  g_NoSamples : mg "NoSamples" = some (.ref c_NoSamples)
  x_NoSamples : PySem.W.excIn K c_NoSamples [.type "ValueError", .type "Exception", .type "BaseException", .type "object"] "ValueError.__new__" = true
  k_NoSamples : PySem.W.keepIn K (.ref c_NoSamples) = true
  s_NoSamples : PySem.W.subIn K (.ref c_NoSamples) (.type "BaseException") = some true
  t_NoSamples : PySem.W.typeIn K (.ref c_NoSamples) = some (.type "type")
  c_NoWords : Addr
  g_NoWords : mg "NoWords" = some (.ref c_NoWords)
  x_NoWords : PySem.W.excIn K c_NoWords [.type "ValueError", .type "Exception", .type "BaseException", .type "object"] "ValueError.__new__" = true
  k_NoWords : PySem.W.keepIn K (.ref c_NoWords) = true
  s_NoWords : PySem.W.subIn K (.ref c_NoWords) (.type "BaseException") = some true
  t_NoWords : PySem.W.typeIn K (.ref c_NoWords) = some (.type "type")
  c_TooLong : Addr
  g_TooLong : mg "TooLong" = some (.ref c_TooLong)
  x_TooLong : PySem.W.excIn K c_TooLong [.type "ValueError", .type "Exception", .type "BaseException", .type "object"] "ValueError.__new__" = true
  k_TooLong : PySem.W.keepIn K (.ref c_TooLong) = true
  s_TooLong : PySem.W.subIn K (.ref c_TooLong) (.type "BaseException") = some true
  t_TooLong : PySem.W.typeIn K (.ref c_TooLong) = some (.type "type")
  n_all : mg "all" = none
  n_bool : mg "bool" = none
  n_enumerate : mg "enumerate" = none
  n_int : mg "int" = none
  n_isinstance : mg "isinstance" = none
  n_len : mg "len" = none
  n_list : mg "list" = none
  n_range : mg "range" = none
  n_set : mg "set" = none
  n_sorted : mg "sorted" = none
  n_str : mg "str" = none
  n_sum : mg "sum" = none
  n_tuple : mg "tuple" = none
  n_zip : mg "zip" = none
  a_CHECKS : Addr
  m_CHECKS : mg "CHECKS" = some (.ref a_CHECKS)
  k_CHECKS : KT K a_CHECKS [.str "none", .str "sum", .str "xor"]
  m_FIXED : ∃ t, mg "FIXED" = some (.int 9 t)
  m_LEAST : ∃ t, mg "LEAST" = some (.int 4 t)
  m_LONG : ∃ t, mg "LONG" = some (.int 200 t)
  m_MOST : ∃ t, mg "MOST" = some (.int 6 t)
  a_ORDERS : Addr
  m_ORDERS : mg "ORDERS" = some (.ref a_ORDERS)
  k_ORDERS : KT K a_ORDERS [.str "low", .str "high"]
  m_PACE : ∃ t, mg "PACE" = some (.int 6 t)
  m_PACKETS : ∃ t, mg "PACKETS" = some (.int 10 t)
  a_PARITIES : Addr
  m_PARITIES : mg "PARITIES" = some (.ref a_PARITIES)
  k_PARITIES : KT K a_PARITIES [.str "none", .str "even", .str "odd"]
  m_WORDS : ∃ t, mg "WORDS" = some (.int 40 t)
  p2 : Ex2 K c_NoPackets c_TooLong
def Tx.cv {K : PySem.W.Frag} {mg : Str → Option Value} (T : Tx K mg) : Nat → Value
  | 0 => .ref T.c_NoForm
  | 1 => .ref T.c_NoSamples
  | 3 => .ref T.c_NoWords
  | 5 => .ref T.c_TooLong
  | 6 => .ref T.c_NoLayer
  | 9 => .ref T.c_NoPackets
  | 10 => .ref T.c_NoRuns
  | 100 => .ref T.c_Listener
  | _ => .none
section
variable {P : Program} {w : World} {K : PySem.W.Frag} {mg : Str → Option Value} {base : Heap}
theorem ok__law_cell_at (T : Tx K mg) : FnOk P w K mg base (L2N.CX P w) 1 T.a__law_cell_at T.d__law_cell_at ["script", "k"] (SpF K T.cv 2 F__law_cell_at) :=
  fn_sim (N := n__law_cell_at) (g := g__law_cell_at) (sc := c__law_cell_at) T.f__law_cell_at rfl sc__law_cell_at (fun cdv A outer s H E B hK hcv hE hr => (ss_cons (ss_if (st_cmp (opd_lt hK hr.units) (sb_of (se_var (pv 1))) (sb_of (se_scrLen hK (pe_callB call_len_seq (by rfl) T.n_len (by decide +kernel) (pa_cons (pv 0) pa_nil)))) (nomark _)) (ss_one (ss_ret (se_scrIx hK (pe_ix ix_list (pv 0) (se_var (pv 1)) (fun _ _ => rfl))))) ss_nil) (ss_cons (ss_if (st_scrEmpty hK (pt_cmpR (op_eqP hr.units) (pv 0) (pe_lst pa_nil) (nomark _))) (ss_one (ss_ret se_int)) ss_nil) (ss_one (ss_ret (se_op (opd_add hK) (sb_of (se_op (opd_mul hK) (sb_of (se_scrIx hK (pe_ix ix_list (pv 0) (se_op opd_mod (sb_of (se_var (pv 1))) (sb_of (se_scrLen hK (pe_callB call_len_seq (by rfl) T.n_len (by decide +kernel) (pa_cons (pv 0) pa_nil))))) (fun _ _ => rfl)))) (sb_of se_int))) (sb_of (se_var (pv 1)))))))))

theorem ok__law_mixed (T : Tx K mg) : FnOk P w K mg base (L2N.CX P w) 2 T.a__law_mixed T.d__law_mixed ["script", "k", "many"] (SpF K T.cv 3 F__law_mixed) :=
  fn_sim (N := n__law_mixed) (g := g__law_mixed) (sc := c__law_mixed) T.f__law_mixed rfl sc__law_mixed (fun cdv A outer s H E B hK hcv hE hr => (ss_cons (ss_asg (ps_set (i := 3) sc__law_mixed.nd rfl (Or.inl rfl) (se_op opd_mod (sb_of (se_op (opd_add hK) (sb_of (se_op (opd_add hK) (sb_of (se_op (opd_mul hK) (sb_of (se_call hK hcv hE (pe_call (ok__law_cell_at T) (hr.mono (by decide)) rfl T.m__law_cell_at T.f__law_cell_at.kp T.b__law_cell_at .nil (L2N.passes_call (L2N.takes_of rfl rfl rfl rfl) fun _ _ _ _ h => h) (sa_scr (pv 0) (sa_cons (se_var (pv 1)) sa_nil))))) (sb_of se_int))) (sb_of (se_op (opd_mul hK) (sb_of se_int) (sb_of (se_var (pv 1))))))) (sb_of se_int))) (sb_of se_int)))) (ss_one (ss_ret (se_op opd_mod (sb_of (se_op opd_mod (sb_of (se_op opd_mod (sb_of (se_op opd_pow (sb_of (se_var (pv 3))) (sb_of se_int))) (sb_of se_int))) (sb_of se_int))) (sb_of (se_var (pv 2))))))))

theorem ok__law_draw (T : Tx K mg) : FnOk P w K mg base (L2N.CX P w) 3 T.a__law_draw T.d__law_draw ["script", "town", "many"] (SpF K T.cv 3 F__law_draw) :=
  fn_sim (N := n__law_draw) (g := g__law_draw) (sc := c__law_draw) T.f__law_draw rfl sc__law_draw (fun cdv A outer s H E B hK hcv hE hr => (ss_cons (ss_tick (ps_expr (pe_bm PySem.F.plainAttrs_list PySem.F.slot_list_append PySem.F.type_list_append mt_append (pv 1) (pa_cons pe_int pa_nil)))) (ss_one (ss_ret (se_call hK hcv hE (pe_call (ok__law_mixed T) (hr.mono (by decide)) rfl T.m__law_mixed T.f__law_mixed.kp T.b__law_mixed .nil (L2N.passes_call (L2N.takes_of rfl rfl rfl rfl) fun _ _ _ _ h => h) (sa_scr (pv 0) (sa_cons (se_townLen (pe_callB call_len_seq (by rfl) T.n_len (by decide +kernel) (pa_cons (pv 1) pa_nil))) (sa_cons (se_var (pv 2)) sa_nil)))))))))

theorem ok__law_pick (T : Tx K mg) : FnOk P w K mg base (L2N.CX P w) 4 T.a__law_pick T.d__law_pick ["script", "town", "some"] (SpF K T.cv 3 F__law_pick) :=
  fn_sim (N := n__law_pick) (g := g__law_pick) (sc := c__law_pick) T.f__law_pick rfl sc__law_pick (fun cdv A outer s H E B hK hcv hE hr => (ss_one (ss_ret (se_ix hK (sb_of (se_var (pv 2))) (sb_of (se_call hK hcv hE (pe_call (ok__law_draw T) (hr.mono (by decide)) rfl T.m__law_draw T.f__law_draw.kp T.b__law_draw .nil (L2N.passes_call (L2N.takes_of rfl rfl rfl rfl) fun _ _ _ _ h => h) (sa_scr (pv 0) (sa_town (pv 1) (sa_cons (se_callB (calld_len hK) (by rfl) T.n_len (by decide +kernel) (sbs_cons (sb_of (se_var (pv 2))) sbs_nil)) sa_nil)))))) (fun _ _ => rfl)))))

theorem ok__law_form (T : Tx K mg) : FnOk P w K mg base (L2N.CX P w) 5 T.a__law_form T.d__law_form ["script", "town"] (SpF K T.cv 2 F__law_form) :=
  fn_sim (N := n__law_form) (g := g__law_form) (sc := c__law_form) T.f__law_form rfl sc__law_form (fun cdv A outer s H E B hK hcv hE hr => (ss_cons (ss_asg (ps_set (i := 2) sc__law_form.nd rfl (Or.inl rfl) (se_call hK hcv hE (pe_call (ok__law_pick T) (hr.mono (by decide)) rfl T.m__law_pick T.f__law_pick.kp T.b__law_pick .nil (L2N.passes_call (L2N.takes_of rfl rfl rfl rfl) fun _ _ _ _ h => h) (sa_scr (pv 0) (sa_town (pv 1) (sa_cons (se_lst (sr_cons se_int (sr_cons se_int (sr_cons se_int (sr_cons se_int (sr_cons se_int (sr_cons se_int (sr_cons se_int (sr_cons se_int sr_nil))))))))) sa_nil))))))) (ss_cons (ss_asg (ps_set (i := 3) sc__law_form.nd rfl (Or.inl rfl) (se_call hK hcv hE (pe_call (ok__law_pick T) (hr.mono (by decide)) rfl T.m__law_pick T.f__law_pick.kp T.b__law_pick .nil (L2N.passes_call (L2N.takes_of rfl rfl rfl rfl) fun _ _ _ _ h => h) (sa_scr (pv 0) (sa_town (pv 1) (sa_cons (se_lst (sr_cons se_str (sr_cons se_str sr_nil))) sa_nil))))))) (ss_cons (ss_asg (ps_set (i := 4) sc__law_form.nd rfl (Or.inl rfl) (se_call hK hcv hE (pe_call (ok__law_pick T) (hr.mono (by decide)) rfl T.m__law_pick T.f__law_pick.kp T.b__law_pick .nil (L2N.passes_call (L2N.takes_of rfl rfl rfl rfl) fun _ _ _ _ h => h) (sa_scr (pv 0) (sa_town (pv 1) (sa_cons (se_lst (sr_cons se_str (sr_cons se_str (sr_cons se_str sr_nil)))) sa_nil))))))) (ss_one (ss_ret (se_tup (sr_cons (se_var (pv 2)) (sr_cons (se_op (opd_add hK) (sb_of se_int) (sb_of (se_call hK hcv hE (pe_call (ok__law_draw T) (hr.mono (by decide)) rfl T.m__law_draw T.f__law_draw.kp T.b__law_draw .nil (L2N.passes_call (L2N.takes_of rfl rfl rfl rfl) fun _ _ _ _ h => h) (sa_scr (pv 0) (sa_town (pv 1) (sa_cons se_int sa_nil))))))) (sr_cons (se_var (pv 3)) (sr_cons (se_var (pv 4)) (sr_cons (se_op (opd_add hK) (sb_of se_int) (sb_of (se_call hK hcv hE (pe_call (ok__law_draw T) (hr.mono (by decide)) rfl T.m__law_draw T.f__law_draw.kp T.b__law_draw .nil (L2N.passes_call (L2N.takes_of rfl rfl rfl rfl) fun _ _ _ _ h => h) (sa_scr (pv 0) (sa_town (pv 1) (sa_cons se_int sa_nil))))))) sr_nil))))))))))))

theorem ok__law_packets (T : Tx K mg) : FnOk P w K mg base (L2N.CX P w) 4 T.a__law_packets T.d__law_packets ["script", "town", "bits", "most"] (SpF K T.cv 4 F__law_packets) :=
  fn_sim (N := n__law_packets) (g := g__law_packets) (sc := c__law_packets) T.f__law_packets rfl sc__law_packets (fun cdv A outer s H E B hK hcv hE hr => (ss_cons (ss_asg (ps_set (i := 4) sc__law_packets.nd rfl (Or.inl rfl) (se_call hK hcv hE (pe_call (ok__law_draw T) (hr.mono (by decide)) rfl T.m__law_draw T.f__law_draw.kp T.b__law_draw .nil (L2N.passes_call (L2N.takes_of rfl rfl rfl rfl) fun _ _ _ _ h => h) (sa_scr (pv 0) (sa_town (pv 1) (sa_cons se_int sa_nil))))))) (ss_cons (ss_asg (ps_set (i := 5) sc__law_packets.nd rfl (Or.inl rfl) (se_op (opd_add hK) (sb_of se_int) (sb_of (se_call hK hcv hE (pe_call (ok__law_draw T) (hr.mono (by decide)) rfl T.m__law_draw T.f__law_draw.kp T.b__law_draw .nil (L2N.passes_call (L2N.takes_of rfl rfl rfl rfl) fun _ _ _ _ h => h) (sa_scr (pv 0) (sa_town (pv 1) (sa_cons se_int sa_nil))))))))) (ss_cons (ss_asgN (ps_set (i := 6) sc__law_packets.nd rfl (Or.inl rfl) (sn_lst sr_nil))) (ss_cons (ss_for (is := [7]) (passes_of rfl) rfl (si_range1 rfl T.n_range (sr_cons (se_op (opd_add hK) (sb_of se_int) (sb_of (se_call hK hcv hE (pe_call (ok__law_draw T) (hr.mono (by decide)) rfl T.m__law_draw T.f__law_draw.kp T.b__law_draw .nil (L2N.passes_call (L2N.takes_of rfl rfl rfl rfl) fun _ _ _ _ h => h) (sa_scr (pv 0) (sa_town (pv 1) (sa_cons (se_var (pv 3)) sa_nil))))))) sr_nil)) (sg_name (pg_name (i := 7) sc__law_packets.nd rfl (Or.inl rfl))) (ss_cons (ss_asg (ps_set (i := 8) sc__law_packets.nd rfl (Or.inl rfl) (se_if (st_cmp (opd_gt hK hr.units) (sb_of (se_var (pv 4))) (sb_of se_int) (nomark _)) (se_var (pv 5)) (se_op (opd_add hK) (sb_of se_int) (sb_of (se_call hK hcv hE (pe_call (ok__law_draw T) (hr.mono (by decide)) rfl T.m__law_draw T.f__law_draw.kp T.b__law_draw .nil (L2N.passes_call (L2N.takes_of rfl rfl rfl rfl) fun _ _ _ _ h => h) (sa_scr (pv 0) (sa_town (pv 1) (sa_cons se_int sa_nil)))))))))) (ss_one (ss_app (ps_expr (pe_bm PySem.F.plainAttrs_list PySem.F.slot_list_append PySem.F.type_list_append mt_append (pv 6) (pa_cons (se_callTy (calld_tuple hK) (by rfl) T.n_tuple (by decide +kernel) (sbs_cons (sb_of (se_of_sn (sn_lc (own := [("j", 9)]) (is := [9]) rfl sc__law_packets.nd (si_range1 rfl T.n_range (sr_cons (se_var (pv 8)) sr_nil)) (blkOk_by (own := [("j", 9)]) (N := n__law_packets) (sc := c__law_packets) (by decide +kernel)) (fun _ _ _ _ _ => (sg_name (pg_name (i := 9) sc__law_packets.nd rfl (Or.inl rfl)))) (fun _ _ _ _ _ => sts_nil) (fun _ _ _ _ _ => (se_call hK hcv rfl (pe_call (ok__law_draw T) (hr.mono (by decide)) rfl T.m__law_draw T.f__law_draw.kp T.b__law_draw .nil passN (sa_scr (pv 0) (sa_town (pv 1) (sa_cons (se_ix hK (sb_of (se_lst (sr_cons se_int (sr_cons se_int (sr_cons se_int sr_nil))))) (sb_of (se_op opd_sub (sb_of (se_var (pv 2))) (sb_of se_int))) (fun _ _ => rfl)) sa_nil)))))) (by decide)))) sbs_nil)) pa_nil))))))) (ss_freeze (i := 6) (ss_one (ss_ret (se_var (pv 6))))))))))

theorem ok__law_frame (T : Tx K mg) : FnOk P w K mg base (L2N.CX P w) 1 T.a__law_frame T.d__law_frame ["form", "word"] (SpF K T.cv 2 F__law_frame) :=
  fn_sim (N := n__law_frame) (g := g__law_frame) (sc := c__law_frame) T.f__law_frame rfl sc__law_frame (fun cdv A outer s H E B hK hcv hE hr => (ss_cons (ss_asgT (ps_asg (sb_of (se_var (pv 0))) (sgb_tup (is := [2, 3, 4, 5, 6]) hK (pg_tup rfl (pgs_cons (pg_name (i := 2) sc__law_frame.nd rfl (Or.inr rfl)) (pgs_cons (pg_name (i := 3) sc__law_frame.nd rfl (Or.inl rfl)) (pgs_cons (pg_name (i := 4) sc__law_frame.nd rfl (Or.inl rfl)) (pgs_cons (pg_name (i := 5) sc__law_frame.nd rfl (Or.inl rfl)) (pgs_cons (pg_name (i := 6) sc__law_frame.nd rfl (Or.inl rfl)) pgs_nil)))))) (pg_lst rfl (pgs_cons (pg_name (i := 2) sc__law_frame.nd rfl (Or.inr rfl)) (pgs_cons (pg_name (i := 3) sc__law_frame.nd rfl (Or.inl rfl)) (pgs_cons (pg_name (i := 4) sc__law_frame.nd rfl (Or.inl rfl)) (pgs_cons (pg_name (i := 5) sc__law_frame.nd rfl (Or.inl rfl)) (pgs_cons (pg_name (i := 6) sc__law_frame.nd rfl (Or.inl rfl)) pgs_nil))))))))) (ss_cons (ss_asgLcD (ps_lcN (is := [10]) (by decide) (ps_setLc (i := 7) (own := [("place", 10)]) rfl sc__law_frame.nd rfl rfl (sw_true rfl rfl rfl (by decide +kernel)) (si_range1 rfl T.n_range (sr_cons (se_var (pv 3)) sr_nil)) (blkOk_by (own := [("place", 10)]) (N := n__law_frame) (sc := c__law_frame) (by decide +kernel)) (fun _ _ _ _ _ => (sg_name (pg_name (i := 10) sc__law_frame.nd rfl (Or.inl rfl)))) (fun _ _ _ _ _ => sts_nil) (fun _ _ _ _ _ => (se_op opd_mod (sb_of (se_op opd_fdiv (sb_of (se_var (pv 1))) (sb_of (se_ix hK (sb_of (se_lst (sr_cons se_int (sr_cons se_int (sr_cons se_int (sr_cons se_int (sr_cons se_int (sr_cons se_int sr_nil)))))))) (sb_of (se_var (pv 10))) (fun _ _ => rfl))))) (sb_of se_int)))))) (ss_cons (ss_asg (ps_set (i := 7) sc__law_frame.nd rfl (Or.inl rfl) (se_if (st_cmp (opd_eq hK hr.units) (sb_of (se_var (pv 4))) (sb_of se_str) (nomark _)) (se_var (pv 7)) (se_revL hK (sb_of (se_var (pv 7))))))) (ss_cons (ss_asg (ps_set (i := 8) sc__law_frame.nd rfl (Or.inl rfl) (se_op opd_mod (sb_of (se_callB (calld_sum rfl) (by rfl) T.n_sum (by decide +kernel) (sbs_cons (sb_of (se_var (pv 7))) sbs_nil))) (sb_of se_int)))) (ss_cons (ss_asg (ps_set (i := 9) sc__law_frame.nd rfl (Or.inl rfl) (se_dict3 (by decide +kernel) (by decide +kernel) (by decide +kernel) (pe_dget (hu_of hr) (pe_disp (pps_cons pe_str (se_lst sr_nil) (pps_cons pe_str (se_lst (sr_cons (se_var (pv 8)) sr_nil)) (pps_cons pe_str (se_lst (sr_cons (se_op opd_sub (sb_of se_int) (sb_of (se_var (pv 8)))) sr_nil)) pps_nil))) (by rfl) (by rfl) (fun z => by cases z) (by decide)) (se_var (pv 5)) (fun _ _ => rfl))))) (ss_one (ss_ret (se_meth ty_str (pe_bm PySem.F.plainAttrs_str PySem.F.slot_str_join PySem.F.type_str_join mtd_join (sb_of se_str) (sbs_cons (sb_of (se_of_sn (sn_lc (own := [("bit", 11)]) (is := [11]) rfl sc__law_frame.nd (si_seq hK (se_op (opd_add hK) (sb_of (se_op (opd_add hK) (sb_of (se_op (opd_add hK) (sb_of (se_lst (sr_cons se_int sr_nil))) (sb_of (se_var (pv 7))))) (sb_of (se_var (pv 9))))) (sb_of (se_op (opd_mul hK) (sb_of (se_lst (sr_cons se_int sr_nil))) (sb_of (se_var (pv 6))))))) (blkOk_by (own := [("bit", 11)]) (N := n__law_frame) (sc := c__law_frame) (by decide +kernel)) (fun _ _ _ _ _ => (sg_name (pg_name (i := 11) sc__law_frame.nd rfl (Or.inl rfl)))) (fun _ _ _ _ _ => sts_nil) (fun _ _ _ _ _ => (se_op (opd_mul hK) (sb_of (se_callTy calld_str (by rfl) T.n_str (by decide +kernel) (sbs_cons (sb_of (se_var (pv 11))) sbs_nil))) (sb_of (se_var (pv 2))))) (by decide)))) sbs_nil)))))))))))

theorem ok_need_samples (T : Tx K mg) : FnOk P w K mg base (L2N.CX P w) 1 T.a_need_samples T.d_need_samples ["thing"] (SpF K T.cv 1 F_need_samples) :=
  fn_sim (N := n_need_samples) (g := g_need_samples) (sc := c_need_samples) T.f_need_samples rfl sc_need_samples (fun cdv A outer s H E B hK hcv hE hr => (ss_one (ss_if (st_of (sw_or (st_not (st_val (se_isi hK isi_str rfl T.n_isinstance rfl T.n_str (by decide +kernel) (sb_of (se_var (pv 0)))))) (sw_or (st_not (st_chain (opd_le hK hr.units) (opd_le hK hr.units) (sb_of se_int) (sb_of (se_callB (calld_len hK) (by rfl) T.n_len (by decide +kernel) (sbs_cons (sb_of (se_var (pv 0))) sbs_nil))) (sb_of (se_c (v := .int 200) (pe_glob (by rfl) T.m_LONG.choose_spec ⟨_, rfl⟩) fun _ _ => .int _)))) (sw_or1 (st_not (st_val (se_callB (calld_all rfl) (by rfl) T.n_all (by decide +kernel) (sbs_cons (sb_of (se_of_sn (sn_lc (own := [("sign", 1)]) (is := [1]) rfl sc_need_samples.nd (si_seq hK (se_var (pv 0))) (blkOk_by (own := [("sign", 1)]) (N := n_need_samples) (sc := c_need_samples) (by decide +kernel)) (fun _ _ _ _ _ => (sg_name (pg_name (i := 1) sc_need_samples.nd rfl (Or.inl rfl)))) (fun _ _ _ _ _ => sts_nil) (fun _ _ _ _ _ => (se_cmp (opd_in hK hr.units) (sb_of (se_var (pv 1))) (sb_of se_str) rfl)) (by decide)))) sbs_nil)))))))) (ss_one (ss_raiseC (C := T.c_NoSamples) (by rw [hcv]; rfl) rfl hE (L2N.takes_of rfl rfl rfl rfl) T.x_NoSamples T.g_NoSamples T.k_NoSamples T.s_NoSamples T.t_NoSamples (by rfl))) ss_nil)))

theorem ok_runs_of (T : Tx K mg) : FnOk P w K mg base (L2N.CX P w) 1 T.a_runs_of T.d_runs_of ["samples"] (SpF K T.cv 1 F_runs_of) :=
  fn_sim (N := n_runs_of) (g := g_runs_of) (sc := c_runs_of) T.f_runs_of rfl sc_runs_of (fun cdv A outer s H E B hK hcv hE hr => (ss_cons (ss_asgN (ps_set (i := 1) sc_runs_of.nd rfl (Or.inl rfl) (sn_lst sr_nil))) (ss_cons (ss_for (is := [2]) (passes_of rfl) rfl (si_seq hK (se_var (pv 0))) (sg_name (pg_name (i := 2) sc_runs_of.nd rfl (Or.inl rfl))) (ss_one (ss_if (st_of (sw_and (st_cmp (opd_ne hK hr.units) (sb_var (pv 1)) (sb_of (se_lst sr_nil)) (nomark _)) (sw_and1 (st_cmp (opd_eq hK hr.units) (sb_of (se_ix hK (sb_of (se_ix hK (sb_var (pv 1)) (sb_of (se_neg se_int)) (fun _ _ => rfl))) (sb_of se_int) (fun _ _ => rfl))) (sb_of (se_var (pv 2))) (nomark _))))) (ss_one (ss_put (k := -1) (ps_asg (se_tup (sr_cons (se_var (pv 2)) (sr_cons (se_op (opd_add hK) (sb_of (se_ix hK (sb_of (se_ix hK (sb_var (pv 1)) (sb_of (se_neg se_int)) (fun _ _ => rfl))) (sb_of se_int) (fun _ _ => rfl))) (sb_of se_int)) sr_nil))) (pg_sub (pv 1) pe_neg1 set_list)))) (ss_one (ss_app (ps_expr (pe_bm PySem.F.plainAttrs_list PySem.F.slot_list_append PySem.F.type_list_append mt_append (pv 1) (pa_cons (se_tup (sr_cons (se_var (pv 2)) (sr_cons se_int sr_nil))) pa_nil)))))))) (ss_freeze (i := 1) (ss_one (ss_ret (se_var (pv 1))))))))
theorem okN_runs_of (T : Tx K mg) : FnOk P w K mg base (L2N.CX P w) 1 T.a_runs_of T.d_runs_of ["samples"] (SpN K T.cv 1 FN_runs_of) :=
  fn_simN (N := n_runs_of) (g := gN_runs_of) (sc := c_runs_of) T.f_runs_of rfl sc_runs_of (fun cdv A outer s H E B hK hcv hE hr => (ss_cons (ss_asgN (ps_set (i := 1) sc_runs_of.nd rfl (Or.inl rfl) (sn_lst sr_nil))) (ss_cons (ss_for (is := [2]) (passes_of rfl) rfl (si_seq hK (se_var (pv 0))) (sg_name (pg_name (i := 2) sc_runs_of.nd rfl (Or.inl rfl))) (ss_one (ss_if (st_of (sw_and (st_cmp (opd_ne hK hr.units) (sb_var (pv 1)) (sb_of (se_lst sr_nil)) (nomark _)) (sw_and1 (st_cmp (opd_eq hK hr.units) (sb_of (se_ix hK (sb_of (se_ix hK (sb_var (pv 1)) (sb_of (se_neg se_int)) (fun _ _ => rfl))) (sb_of se_int) (fun _ _ => rfl))) (sb_of (se_var (pv 2))) (nomark _))))) (ss_one (ss_put (k := -1) (ps_asg (se_tup (sr_cons (se_var (pv 2)) (sr_cons (se_op (opd_add hK) (sb_of (se_ix hK (sb_of (se_ix hK (sb_var (pv 1)) (sb_of (se_neg se_int)) (fun _ _ => rfl))) (sb_of se_int) (fun _ _ => rfl))) (sb_of se_int)) sr_nil))) (pg_sub (pv 1) pe_neg1 set_list)))) (ss_one (ss_app (ps_expr (pe_bm PySem.F.plainAttrs_list PySem.F.slot_list_append PySem.F.type_list_append mt_append (pv 1) (pa_cons (se_tup (sr_cons (se_var (pv 2)) (sr_cons se_int sr_nil))) pa_nil)))))))) (ss_one (ss_rnOwn (pv 1))))))

theorem ok_runs (T : Tx K mg) : FnOk P w K mg base (L2N.CX P w) 2 T.a_runs T.d_runs ["samples"] (SpF K T.cv 1 F_runs) :=
  fn_sim (N := n_runs) (g := g_runs) (sc := c_runs) T.f_runs rfl sc_runs (fun cdv A outer s H E B hK hcv hE hr => (ss_cons (ss_expr (se_call hK hcv hE (pe_call (ok_need_samples T) (hr.mono (by decide)) rfl T.m_need_samples T.f_need_samples.kp T.b_need_samples .nil (L2N.passes_call (L2N.takes_of rfl rfl rfl rfl) fun _ _ _ _ h => h) (sa_cons (se_var (pv 0)) sa_nil)))) (ss_one (ss_ret (se_call hK hcv hE (pe_call (ok_runs_of T) (hr.mono (by decide)) rfl T.m_runs_of T.f_runs_of.kp T.b_runs_of .nil (L2N.passes_call (L2N.takes_of rfl rfl rfl rfl) fun _ _ _ _ h => h) (sa_cons (se_var (pv 0)) sa_nil)))))))
theorem okN_runs (T : Tx K mg) : FnOk P w K mg base (L2N.CX P w) 2 T.a_runs T.d_runs ["samples"] (SpN K T.cv 1 FN_runs) :=
  fn_simN (N := n_runs) (g := gN_runs) (sc := c_runs) T.f_runs rfl sc_runs (fun cdv A outer s H E B hK hcv hE hr => (ss_cons (ss_expr (se_call hK hcv hE (pe_call (ok_need_samples T) (hr.mono (by decide)) rfl T.m_need_samples T.f_need_samples.kp T.b_need_samples .nil (L2N.passes_call (L2N.takes_of rfl rfl rfl rfl) fun _ _ _ _ h => h) (sa_cons (se_var (pv 0)) sa_nil)))) (ss_one (ss_rn (sn_call hK hcv hE (pe_call (okN_runs_of T) (hr.mono (by decide)) rfl T.m_runs_of T.f_runs_of.kp T.b_runs_of .nil (L2N.passes_call (L2N.takes_of rfl rfl rfl rfl) fun _ _ _ _ h => h) (sa_cons (se_var (pv 0)) sa_nil)))))))

theorem ok_is_whole (T : Tx K mg) : FnOk P w K mg base (L2N.CX P w) 1 T.a_is_whole T.d_is_whole ["thing", "low", "most"] (SpF K T.cv 3 F_is_whole) :=
  fn_sim (N := n_is_whole) (g := g_is_whole) (sc := c_is_whole) T.f_is_whole rfl sc_is_whole (fun cdv A outer s H E B hK hcv hE hr => (ss_one (ss_ret (se_and (se_isi hK isi_int rfl T.n_isinstance rfl T.n_int (by decide +kernel) (sb_of (se_var (pv 0)))) (se_and (se_not (se_isi hK isi_bool rfl T.n_isinstance rfl T.n_bool (by decide +kernel) (sb_of (se_var (pv 0))))) (se_one (se_chain (opd_le hK hr.units) (opd_le hK hr.units) (sb_of (se_var (pv 1))) (sb_of (se_var (pv 0))) (sb_of (se_var (pv 2))))))))))

theorem ok_are_runs (T : Tx K mg) : FnOk P w K mg base (L2N.CX P w) 2 T.a_are_runs T.d_are_runs ["thing"] (SpF K T.cv 1 F_are_runs) :=
  fn_sim (N := n_are_runs) (g := g_are_runs) (sc := c_are_runs) T.f_are_runs rfl sc_are_runs (fun cdv A outer s H E B hK hcv hE hr => (ss_cons (ss_if (st_of (sw_or (st_not (st_val (se_isi hK isi_list rfl T.n_isinstance rfl T.n_list (by decide +kernel) (sb_of (se_var (pv 0)))))) (sw_or1 (st_cmp (opd_eq hK hr.units) (sb_of (se_var (pv 0))) (sb_of (se_lst sr_nil)) (nomark _))))) (ss_one (ss_ret se_bl)) ss_nil) (ss_cons (ss_for (is := [1]) (passes_of rfl) rfl (si_seq hK (se_var (pv 0))) (sg_name (pg_name (i := 1) sc_are_runs.nd rfl (Or.inl rfl))) (ss_cons (ss_if (st_of (sw_or (st_not (st_val (se_isi hK isi_tuple rfl T.n_isinstance rfl T.n_tuple (by decide +kernel) (sb_of (se_var (pv 1)))))) (sw_or (st_cmp (opd_ne hK hr.units) (sb_of (se_callB (calld_len hK) (by rfl) T.n_len (by decide +kernel) (sbs_cons (sb_of (se_var (pv 1))) sbs_nil))) (sb_of se_int) (nomark _)) (sw_or (st_not (st_val (se_isi hK isi_str rfl T.n_isinstance rfl T.n_str (by decide +kernel) (sb_of (se_ix hK (sb_of (se_var (pv 1))) (sb_of se_int) (fun _ _ => rfl)))))) (sw_or1 (st_cmp (opd_notIn hK hr.units) (sb_of (se_ix hK (sb_of (se_var (pv 1))) (sb_of se_int) (fun _ _ => rfl))) (sb_of (se_tup (sr_cons se_str (sr_cons se_str sr_nil)))) rfl)))))) (ss_one (ss_ret se_bl)) ss_nil) (ss_one (ss_if (st_not (st_val (se_call hK hcv hE (pe_call (ok_is_whole T) (hr.mono (by decide)) rfl T.m_is_whole T.f_is_whole.kp T.b_is_whole .nil (L2N.passes_call (L2N.takes_of rfl rfl rfl rfl) fun _ _ _ _ h => h) (sa_cons (se_ix hK (sb_of (se_var (pv 1))) (sb_of se_int) (fun _ _ => rfl)) (sa_cons se_int (sa_cons (se_c (v := .int 200) (pe_glob (by rfl) T.m_LONG.choose_spec ⟨_, rfl⟩) fun _ _ => .int _) sa_nil))))))) (ss_one (ss_ret se_bl)) ss_nil)))) (ss_one (ss_ret (se_callB (calld_all rfl) (by rfl) T.n_all (by decide +kernel) (sbs_cons (sb_of (se_of_sn (sn_lc (own := [("one", 1), ("other", 2)]) (is := [1, 2]) rfl sc_are_runs.nd (si_zip hK rfl T.n_zip (sr_cons (se_var (pv 0)) (sr_cons (se_slice hK (sb_of (se_var (pv 0))) (so_some se_int) so_none) sr_nil))) (blkOk_by (own := [("one", 1), ("other", 2)]) (N := n_are_runs) (sc := c_are_runs) (by decide +kernel)) (fun _ _ _ _ _ => (sgz_tup (is := [1, 2]) hK (pg_tup rfl (pgs_cons (pg_name (i := 1) sc_are_runs.nd rfl (Or.inl rfl)) (pgs_cons (pg_name (i := 2) sc_are_runs.nd rfl (Or.inl rfl)) pgs_nil))))) (fun _ _ _ _ _ => sts_nil) (fun _ _ _ _ _ => (se_cmp (opd_ne hK hr.units) (sb_of (se_ix hK (sb_of (se_var (pv 1))) (sb_of se_int) (fun _ _ => rfl))) (sb_of (se_ix hK (sb_of (se_var (pv 2))) (sb_of se_int) (fun _ _ => rfl))) (nomark _))) (by decide)))) sbs_nil)))))))

theorem ok_from_runs (T : Tx K mg) : FnOk P w K mg base (L2N.CX P w) 3 T.a_from_runs T.d_from_runs ["some"] (SpF K T.cv 1 F_from_runs) :=
  fn_sim (N := n_from_runs) (g := g_from_runs) (sc := c_from_runs) T.f_from_runs rfl sc_from_runs (fun cdv A outer s H E B hK hcv hE hr => (ss_cons (ss_if (st_not (st_val (se_call hK hcv hE (pe_call (ok_are_runs T) (hr.mono (by decide)) rfl T.m_are_runs T.f_are_runs.kp T.b_are_runs .nil (L2N.passes_call (L2N.takes_of rfl rfl rfl rfl) fun _ _ _ _ h => h) (sa_cons (se_var (pv 0)) sa_nil))))) (ss_one (ss_raiseC (C := T.c_NoRuns) (by rw [hcv]; rfl) rfl hE (L2N.takes_of rfl rfl rfl rfl) T.x_NoRuns T.g_NoRuns T.k_NoRuns T.s_NoRuns T.t_NoRuns (by rfl))) ss_nil) (ss_cons (ss_if (st_cmp (opd_gt hK hr.units) (sb_of (se_callB (calld_sum rfl) (by rfl) T.n_sum (by decide +kernel) (sbs_cons (sb_of (se_of_sn (sn_lc (own := [("sign", 1), ("many", 2)]) (is := [1, 2]) rfl sc_from_runs.nd (si_seq hK (se_var (pv 0))) (blkOk_by (own := [("sign", 1), ("many", 2)]) (N := n_from_runs) (sc := c_from_runs) (by decide +kernel)) (fun _ _ _ _ _ => (sg_of (sgb_tup (is := [1, 2]) hK (pg_tup rfl (pgs_cons (pg_name (i := 1) sc_from_runs.nd rfl (Or.inl rfl)) (pgs_cons (pg_name (i := 2) sc_from_runs.nd rfl (Or.inl rfl)) pgs_nil))) (pg_lst rfl (pgs_cons (pg_name (i := 1) sc_from_runs.nd rfl (Or.inl rfl)) (pgs_cons (pg_name (i := 2) sc_from_runs.nd rfl (Or.inl rfl)) pgs_nil)))))) (fun _ _ _ _ _ => sts_nil) (fun _ _ _ _ _ => (se_var (pv 2))) (by decide)))) sbs_nil))) (sb_of (se_c (v := .int 200) (pe_glob (by rfl) T.m_LONG.choose_spec ⟨_, rfl⟩) fun _ _ => .int _)) (nomark _)) (ss_one (ss_raiseC (C := T.c_TooLong) (by rw [hcv]; rfl) rfl hE (L2N.takes_of rfl rfl rfl rfl) T.x_TooLong T.g_TooLong T.k_TooLong T.s_TooLong T.t_TooLong (by rfl))) ss_nil) (ss_one (ss_ret (se_meth ty_str (pe_bm PySem.F.plainAttrs_str PySem.F.slot_str_join PySem.F.type_str_join mtd_join (sb_of se_str) (sbs_cons (sb_of (se_of_sn (sn_lc (own := [("sign", 1), ("many", 2)]) (is := [1, 2]) rfl sc_from_runs.nd (si_seq hK (se_var (pv 0))) (blkOk_by (own := [("sign", 1), ("many", 2)]) (N := n_from_runs) (sc := c_from_runs) (by decide +kernel)) (fun _ _ _ _ _ => (sg_of (sgb_tup (is := [1, 2]) hK (pg_tup rfl (pgs_cons (pg_name (i := 1) sc_from_runs.nd rfl (Or.inl rfl)) (pgs_cons (pg_name (i := 2) sc_from_runs.nd rfl (Or.inl rfl)) pgs_nil))) (pg_lst rfl (pgs_cons (pg_name (i := 1) sc_from_runs.nd rfl (Or.inl rfl)) (pgs_cons (pg_name (i := 2) sc_from_runs.nd rfl (Or.inl rfl)) pgs_nil)))))) (fun _ _ _ _ _ => sts_nil) (fun _ _ _ _ _ => (se_op (opd_mul hK) (sb_of (se_var (pv 1))) (sb_of (se_var (pv 2))))) (by decide)))) sbs_nil))))))))

theorem ok_top_of (T : Tx K mg) : FnOk P w K mg base (L2N.CX P w) 1 T.a_top_of T.d_top_of ["bits"] (SpF K T.cv 1 F_top_of) :=
  fn_sim (N := n_top_of) (g := g_top_of) (sc := c_top_of) T.f_top_of rfl sc_top_of (fun cdv A outer s H E B hK hcv hE hr => (ss_one (ss_ret (se_ix hK (sb_of (se_tup (sr_cons se_int (sr_cons se_int (sr_cons se_int sr_nil))))) (sb_of (se_op opd_sub (sb_of (se_var (pv 0))) (sb_of (se_c (v := .int 4) (pe_glob (by rfl) T.m_LEAST.choose_spec ⟨_, rfl⟩) fun _ _ => .int _)))) (fun _ _ => rfl)))))

theorem ok_are_packets (T : Tx K mg) : FnOk P w K mg base (L2N.CX P w) 2 T.a_are_packets T.d_are_packets ["bits", "thing"] (SpF K T.cv 2 F_are_packets) :=
  fn_sim (N := n_are_packets) (g := g_are_packets) (sc := c_are_packets) T.f_are_packets rfl sc_are_packets (fun cdv A outer s H E B hK hcv hE hr => (ss_cons (ss_if (st_of (sw_or (st_not (st_val (se_isi hK isi_list rfl T.n_isinstance rfl T.n_list (by decide +kernel) (sb_of (se_var (pv 1)))))) (sw_or1 (st_not (st_chain (opd_le hK hr.units) (opd_le hK hr.units) (sb_of se_int) (sb_of (se_callB (calld_len hK) (by rfl) T.n_len (by decide +kernel) (sbs_cons (sb_of (se_var (pv 1))) sbs_nil))) (sb_of (se_c (v := .int 10) (pe_glob (by rfl) T.m_PACKETS.choose_spec ⟨_, rfl⟩) fun _ _ => .int _))))))) (ss_one (ss_ret se_bl)) ss_nil) (ss_cons (ss_for (is := [2]) (passes_of rfl) rfl (si_seq hK (se_var (pv 1))) (sg_name (pg_name (i := 2) sc_are_packets.nd rfl (Or.inl rfl))) (ss_cons (ss_if (st_of (sw_or (st_not (st_val (se_isi hK isi_tuple rfl T.n_isinstance rfl T.n_tuple (by decide +kernel) (sb_of (se_var (pv 2)))))) (sw_or1 (st_not (st_chain (opd_le hK hr.units) (opd_le hK hr.units) (sb_of se_int) (sb_of (se_callB (calld_len hK) (by rfl) T.n_len (by decide +kernel) (sbs_cons (sb_of (se_var (pv 2))) sbs_nil))) (sb_of (se_c (v := .int 40) (pe_glob (by rfl) T.m_WORDS.choose_spec ⟨_, rfl⟩) fun _ _ => .int _))))))) (ss_one (ss_ret se_bl)) ss_nil) (ss_one (ss_if (st_not (st_val (se_callB (calld_all rfl) (by rfl) T.n_all (by decide +kernel) (sbs_cons (sb_of (se_of_sn (sn_lc (own := [("word", 3)]) (is := [3]) rfl sc_are_packets.nd (si_seq hK (se_var (pv 2))) (blkOk_by (own := [("word", 3)]) (N := n_are_packets) (sc := c_are_packets) (by decide +kernel)) (fun _ _ _ _ _ => (sg_name (pg_name (i := 3) sc_are_packets.nd rfl (Or.inl rfl)))) (fun _ _ _ _ _ => sts_nil) (fun _ _ _ _ _ => (se_call hK hcv rfl (pe_call (ok_is_whole T) (hr.mono (by decide)) rfl T.m_is_whole T.f_is_whole.kp T.b_is_whole .nil passN (sa_cons (se_var (pv 3)) (sa_cons se_int (sa_cons (se_call hK hcv rfl (pe_call (ok_top_of T) (hr.mono (by decide)) rfl T.m_top_of T.f_top_of.kp T.b_top_of .nil passN (sa_cons (se_var (pv 0)) sa_nil))) sa_nil)))))) (by decide)))) sbs_nil)))) (ss_one (ss_ret se_bl)) ss_nil)))) (ss_one (ss_ret se_bl)))))

theorem ok_is_layer (T : Tx K mg) : FnOk P w K mg base (L2N.CX P w) 2 T.a_is_layer T.d_is_layer ["bits", "thing"] (SpF K T.cv 2 F_is_layer) :=
  fn_sim (N := n_is_layer) (g := g_is_layer) (sc := c_is_layer) T.f_is_layer rfl sc_is_layer (fun cdv A outer s H E B hK hcv hE hr => (ss_cons (ss_if (st_of (sw_or (st_not (st_val (se_isi hK isi_tuple rfl T.n_isinstance rfl T.n_tuple (by decide +kernel) (sb_of (se_var (pv 1)))))) (sw_or (st_cmp (opd_eq hK hr.units) (sb_of (se_var (pv 1))) (sb_of (se_tup sr_nil)) (nomark _)) (sw_or1 (st_not (st_val (se_isi hK isi_str rfl T.n_isinstance rfl T.n_str (by decide +kernel) (sb_of (se_ix hK (sb_of (se_var (pv 1))) (sb_of se_int) (fun _ _ => rfl)))))))))) (ss_one (ss_ret se_bl)) ss_nil) (ss_cons (ss_if (st_cmp (opd_eq hK hr.units) (sb_of (se_ix hK (sb_of (se_var (pv 1))) (sb_of se_int) (fun _ _ => rfl))) (sb_of se_str) (nomark _)) (ss_one (ss_ret (se_and (se_cmp (opd_eq hK hr.units) (sb_of (se_callB (calld_len hK) (by rfl) T.n_len (by decide +kernel) (sbs_cons (sb_of (se_var (pv 1))) sbs_nil))) (sb_of se_int) (nomark _)) (se_one (se_call hK hcv hE (pe_call (ok_is_whole T) (hr.mono (by decide)) rfl T.m_is_whole T.f_is_whole.kp T.b_is_whole .nil (L2N.passes_call (L2N.takes_of rfl rfl rfl rfl) fun _ _ _ _ h => h) (sa_cons (se_ix hK (sb_of (se_var (pv 1))) (sb_of se_int) (fun _ _ => rfl)) (sa_cons se_int (sa_cons (se_c (v := .int 9) (pe_glob (by rfl) T.m_FIXED.choose_spec ⟨_, rfl⟩) fun _ _ => .int _) sa_nil))))))))) ss_nil) (ss_cons (ss_if (st_cmp (opd_eq hK hr.units) (sb_of (se_ix hK (sb_of (se_var (pv 1))) (sb_of se_int) (fun _ _ => rfl))) (sb_of se_str) (nomark _)) (ss_one (ss_ret (se_and (se_cmp (opd_eq hK hr.units) (sb_of (se_callB (calld_len hK) (by rfl) T.n_len (by decide +kernel) (sbs_cons (sb_of (se_var (pv 1))) sbs_nil))) (sb_of se_int) (nomark _)) (se_one (se_call hK hcv hE (pe_call (ok_is_whole T) (hr.mono (by decide)) rfl T.m_is_whole T.f_is_whole.kp T.b_is_whole .nil (L2N.passes_call (L2N.takes_of rfl rfl rfl rfl) fun _ _ _ _ h => h) (sa_cons (se_ix hK (sb_of (se_var (pv 1))) (sb_of se_int) (fun _ _ => rfl)) (sa_cons se_int (sa_cons (se_call hK hcv hE (pe_call (ok_top_of T) (hr.mono (by decide)) rfl T.m_top_of T.f_top_of.kp T.b_top_of .nil (L2N.passes_call (L2N.takes_of rfl rfl rfl rfl) fun _ _ _ _ h => h) (sa_cons (se_var (pv 0)) sa_nil))) sa_nil))))))))) ss_nil) (ss_one (ss_ret (se_and (se_cmp (opd_eq hK hr.units) (sb_of (se_ix hK (sb_of (se_var (pv 1))) (sb_of se_int) (fun _ _ => rfl))) (sb_of se_str) (nomark _)) (se_one (se_cmp (opd_eq hK hr.units) (sb_of (se_callB (calld_len hK) (by rfl) T.n_len (by decide +kernel) (sbs_cons (sb_of (se_var (pv 1))) sbs_nil))) (sb_of se_int) (nomark _))))))))))

theorem ok_is_one_of (T : Tx K mg) : FnOk P w K mg base (L2N.CX P w) 1 T.a_is_one_of T.d_is_one_of ["thing", "words"] (SpF K T.cv 2 F_is_one_of) :=
  fn_sim (N := n_is_one_of) (g := g_is_one_of) (sc := c_is_one_of) T.f_is_one_of rfl sc_is_one_of (fun cdv A outer s H E B hK hcv hE hr => (ss_one (ss_ret (se_and (se_isi hK isi_str rfl T.n_isinstance rfl T.n_str (by decide +kernel) (sb_of (se_var (pv 0)))) (se_one (se_cmp (opd_in hK hr.units) (sb_of (se_var (pv 0))) (sb_of (se_var (pv 1))) rfl))))))

theorem ok_need_all (T : Tx K mg) : FnOk P w K mg base (L2N.CX P w) 3 T.a_need_all T.d_need_all ["bits", "packets", "layer", "check"] (SpF K T.cv 4 F_need_all) :=
  fn_sim (N := n_need_all) (g := g_need_all) (sc := c_need_all) T.f_need_all rfl sc_need_all (fun cdv A outer s H E B hK hcv hE hr => (ss_cons (ss_if (st_not (st_val (se_call hK hcv hE (pe_call (ok_is_whole T) (hr.mono (by decide)) rfl T.m_is_whole T.f_is_whole.kp T.b_is_whole .nil (L2N.passes_call (L2N.takes_of rfl rfl rfl rfl) fun _ _ _ _ h => h) (sa_cons (se_var (pv 0)) (sa_cons (se_c (v := .int 4) (pe_glob (by rfl) T.m_LEAST.choose_spec ⟨_, rfl⟩) fun _ _ => .int _) (sa_cons (se_c (v := .int 6) (pe_glob (by rfl) T.m_MOST.choose_spec ⟨_, rfl⟩) fun _ _ => .int _) sa_nil))))))) (ss_one (ss_raiseC (C := T.c_NoForm) (by rw [hcv]; rfl) rfl hE (L2N.takes_of rfl rfl rfl rfl) T.x_NoForm T.g_NoForm T.k_NoForm T.s_NoForm T.t_NoForm (by rfl))) ss_nil) (ss_cons (ss_if (st_not (st_val (se_call hK hcv hE (pe_call (ok_are_packets T) (hr.mono (by decide)) rfl T.m_are_packets T.f_are_packets.kp T.b_are_packets .nil (L2N.passes_call (L2N.takes_of rfl rfl rfl rfl) fun _ _ _ _ h => h) (sa_cons (se_var (pv 0)) (sa_cons (se_var (pv 1)) sa_nil)))))) (ss_one (ss_raiseC (C := T.c_NoPackets) (by rw [hcv]; rfl) rfl hE (L2N.takes_of rfl rfl rfl rfl) T.x_NoPackets T.g_NoPackets T.k_NoPackets T.s_NoPackets T.t_NoPackets (by rfl))) ss_nil) (ss_one (ss_if (st_of (sw_or (st_not (st_val (se_call hK hcv hE (pe_call (ok_is_layer T) (hr.mono (by decide)) rfl T.m_is_layer T.f_is_layer.kp T.b_is_layer .nil (L2N.passes_call (L2N.takes_of rfl rfl rfl rfl) fun _ _ _ _ h => h) (sa_cons (se_var (pv 0)) (sa_cons (se_var (pv 2)) sa_nil)))))) (sw_or1 (st_not (st_val (se_call hK hcv hE (pe_call (ok_is_one_of T) (hr.mono (by decide)) rfl T.m_is_one_of T.f_is_one_of.kp T.b_is_one_of .nil (L2N.passes_call (L2N.takes_of rfl rfl rfl rfl) fun _ _ _ _ h => h) (sa_cons (se_var (pv 3)) (sa_cons (se_c (v := .ref T.a_CHECKS) (d := .tuple [.str "none", .str "sum", .str "xor"]) (pe_glob (by rfl) T.m_CHECKS rfl) fun _ _ => .tup (.inr (hK ▸ T.k_CHECKS)) (.cons (.str _) (.cons (.str _) (.cons (.str _) .nil)))) sa_nil))))))))) (ss_one (ss_raiseC (C := T.c_NoLayer) (by rw [hcv]; rfl) rfl hE (L2N.takes_of rfl rfl rfl rfl) T.x_NoLayer T.g_NoLayer T.k_NoLayer T.s_NoLayer T.t_NoLayer (by rfl))) ss_nil)))))

theorem ok_one_packed (T : Tx K mg) : FnOk P w K mg base (L2N.CX P w) 1 T.a_one_packed T.d_one_packed ["layer", "own"] (SpF K T.cv 2 F_one_packed) :=
  fn_sim (N := n_one_packed) (g := g_one_packed) (sc := c_one_packed) T.f_one_packed rfl sc_one_packed (fun cdv A outer s H E B hK hcv hE hr => (ss_cons (ss_if (st_cmp (opd_eq hK hr.units) (sb_of (se_ix hK (sb_of (se_var (pv 0))) (sb_of se_int) (fun _ _ => rfl))) (sb_of se_str) (nomark _)) (ss_one (ss_ret (se_op (opd_add hK) (sb_of (se_var (pv 1))) (sb_of (se_tup (sr_cons (se_ix hK (sb_of (se_var (pv 0))) (sb_of se_int) (fun _ _ => rfl)) sr_nil)))))) ss_nil) (ss_one (ss_ret (se_if (st_cmp (opd_eq hK hr.units) (sb_of (se_ix hK (sb_of (se_var (pv 0))) (sb_of se_int) (fun _ _ => rfl))) (sb_of se_str) (nomark _)) (se_var (pv 1)) (se_op (opd_add hK) (sb_of (se_tup (sr_cons (se_callB (calld_len hK) (by rfl) T.n_len (by decide +kernel) (sbs_cons (sb_of (se_var (pv 1))) sbs_nil)) sr_nil))) (sb_of (se_var (pv 1)))))))))

theorem ok_first_of (T : Tx K mg) : FnOk P w K mg base (L2N.CX P w) 1 T.a_first_of T.d_first_of ["layer", "words"] (SpF K T.cv 2 F_first_of) :=
  fn_sim (N := n_first_of) (g := g_first_of) (sc := c_first_of) T.f_first_of rfl sc_first_of (fun cdv A outer s H E B hK hcv hE hr => (ss_cons (ss_if (st_cmp (opd_eq hK hr.units) (sb_of (se_ix hK (sb_of (se_var (pv 0))) (sb_of se_int) (fun _ _ => rfl))) (sb_of se_str) (nomark _)) (ss_cons (ss_if (st_cmp (opd_notIn hK hr.units) (sb_of (se_ix hK (sb_of (se_var (pv 0))) (sb_of se_int) (fun _ _ => rfl))) (sb_of (se_var (pv 1))) rfl) (ss_one (ss_ret se_non)) ss_nil) (ss_cons (ss_asg (ps_set (i := 2) sc_first_of.nd rfl (Or.inl rfl) (se_methZ hK (pe_mZ PySem.F.plainAttrs_tuple PySem.F.slot_tuple_index PySem.F.type_tuple_index (mtd_tindex hK hr.units) (sb_of (se_var (pv 1))) (sbs_cons (sb_of (se_ix hK (sb_of (se_var (pv 0))) (sb_of se_int) (fun _ _ => rfl))) sbs_nil))))) (ss_one (ss_ret (se_tup (sr_cons (se_slice hK (sb_of (se_var (pv 1))) so_none (so_some (se_var (pv 2)))) (sr_cons (se_slice hK (sb_of (se_var (pv 1))) (so_some (se_op (opd_add hK) (sb_of (se_var (pv 2))) (sb_of se_int))) so_none) sr_nil))))))) ss_nil) (ss_cons (ss_asg (ps_set (i := 3) sc_first_of.nd rfl (Or.inl rfl) (se_if (st_cmp (opd_eq hK hr.units) (sb_of (se_ix hK (sb_of (se_var (pv 0))) (sb_of se_int) (fun _ _ => rfl))) (sb_of se_str) (nomark _)) (se_ix hK (sb_of (se_var (pv 0))) (sb_of se_int) (fun _ _ => rfl)) (se_ix hK (sb_of (se_var (pv 1))) (sb_of se_int) (fun _ _ => rfl))))) (ss_cons (ss_asg (ps_set (i := 4) sc_first_of.nd rfl (Or.inl rfl) (se_callTy calld_int (by rfl) T.n_int (by decide +kernel) (sbs_cons (sb_of (se_cmp (opd_eq hK hr.units) (sb_of (se_ix hK (sb_of (se_var (pv 0))) (sb_of se_int) (fun _ _ => rfl))) (sb_of se_str) (nomark _))) sbs_nil)))) (ss_cons (ss_if (st_cmp (opd_lt hK hr.units) (sb_of (se_callB (calld_len hK) (by rfl) T.n_len (by decide +kernel) (sbs_cons (sb_of (se_var (pv 1))) sbs_nil))) (sb_of (se_op (opd_add hK) (sb_of (se_var (pv 4))) (sb_of (se_var (pv 3))))) (nomark _)) (ss_one (ss_ret se_non)) ss_nil) (ss_one (ss_ret (se_tup (sr_cons (se_slice hK (sb_of (se_var (pv 1))) (so_some (se_var (pv 4))) (so_some (se_op (opd_add hK) (sb_of (se_var (pv 4))) (sb_of (se_var (pv 3)))))) (sr_cons (se_slice hK (sb_of (se_var (pv 1))) (so_some (se_op (opd_add hK) (sb_of (se_var (pv 4))) (sb_of (se_var (pv 3))))) so_none) sr_nil))))))))))

theorem ok_xor_of (T : Tx K mg) : FnOk P w K mg base (L2N.CX P w) 1 T.a_xor_of T.d_xor_of ["one", "other"] (SpF K T.cv 2 F_xor_of) :=
  fn_sim (N := n_xor_of) (g := g_xor_of) (sc := c_xor_of) T.f_xor_of rfl sc_xor_of (fun cdv A outer s H E B hK hcv hE hr => (ss_cons (ss_asg (ps_set (i := 2) sc_xor_of.nd rfl (Or.inl rfl) se_int)) (ss_cons (ss_asg (ps_set (i := 3) sc_xor_of.nd rfl (Or.inl rfl) se_int)) (ss_cons (ss_while 1000 (passes_of rfl) (st_of (sw_or (st_cmp (opd_gt hK hr.units) (sb_of (se_var (pv 0))) (sb_of se_int) (nomark _)) (sw_or1 (st_cmp (opd_gt hK hr.units) (sb_of (se_var (pv 1))) (sb_of se_int) (nomark _))))) (ss_cons (ss_asg (ps_set (i := 2) sc_xor_of.nd rfl (Or.inl rfl) (se_op (opd_add hK) (sb_of (se_var (pv 2))) (sb_of (se_op (opd_mul hK) (sb_of (se_var (pv 3))) (sb_of (se_callTy calld_int (by rfl) T.n_int (by decide +kernel) (sbs_cons (sb_of (se_cmp (opd_ne hK hr.units) (sb_of (se_op opd_mod (sb_of (se_var (pv 0))) (sb_of se_int))) (sb_of (se_op opd_mod (sb_of (se_var (pv 1))) (sb_of se_int))) (nomark _))) sbs_nil)))))))) (ss_one (ss_par3 (consE_len (consE_len (consE_len nilE_len))) (ps_par3 (i := 0) (j := 1) (l := 3) rfl sc_xor_of.nd rfl rfl rfl (by decide) (by decide) (by decide) rfl rfl rfl (sr_cons (se_op opd_fdiv (sb_of (se_var (pv 0))) (sb_of se_int)) (sr_cons (se_op opd_fdiv (sb_of (se_var (pv 1))) (sb_of se_int)) (sr_cons (se_op (opd_mul hK) (sb_of se_int) (sb_of (se_var (pv 3)))) sr_nil))) rfl))))) (ss_one (ss_ret (se_var (pv 2))))))))

theorem ok_checked (T : Tx K mg) : FnOk P w K mg base (L2N.CX P w) 2 T.a_checked T.d_checked ["bits", "own", "check"] (SpF K T.cv 3 F_checked) :=
  fn_sim (N := n_checked) (g := g_checked) (sc := c_checked) T.f_checked rfl sc_checked (fun cdv A outer s H E B hK hcv hE hr => (ss_cons (ss_if (st_cmp (opd_eq hK hr.units) (sb_of (se_var (pv 2))) (sb_of se_str) (nomark _)) (ss_one (ss_ret (se_if (st_cmp (opd_ne hK hr.units) (sb_of (se_var (pv 1))) (sb_of (se_tup sr_nil)) (nomark _)) (se_var (pv 1)) se_non))) ss_nil) (ss_cons (ss_if (st_cmp (opd_lt hK hr.units) (sb_of (se_callB (calld_len hK) (by rfl) T.n_len (by decide +kernel) (sbs_cons (sb_of (se_var (pv 1))) sbs_nil))) (sb_of se_int) (nomark _)) (ss_one (ss_ret se_non)) ss_nil) (ss_cons (ss_asg (ps_set (i := 3) sc_checked.nd rfl (Or.inl rfl) se_int)) (ss_cons (ss_for (is := [4]) (passes_of rfl) rfl (si_seq hK (se_slice hK (sb_of (se_var (pv 1))) so_none (so_some (se_neg se_int)))) (sg_name (pg_name (i := 4) sc_checked.nd rfl (Or.inl rfl))) (ss_one (ss_asg (ps_set (i := 3) sc_checked.nd rfl (Or.inl rfl) (se_if (st_cmp (opd_eq hK hr.units) (sb_of (se_var (pv 2))) (sb_of se_str) (nomark _)) (se_op opd_mod (sb_of (se_op (opd_add hK) (sb_of (se_var (pv 3))) (sb_of (se_var (pv 4))))) (sb_of (se_op (opd_add hK) (sb_of (se_call hK hcv hE (pe_call (ok_top_of T) (hr.mono (by decide)) rfl T.m_top_of T.f_top_of.kp T.b_top_of .nil (L2N.passes_call (L2N.takes_of rfl rfl rfl rfl) fun _ _ _ _ h => h) (sa_cons (se_var (pv 0)) sa_nil)))) (sb_of se_int)))) (se_call hK hcv hE (pe_call (ok_xor_of T) (hr.mono (by decide)) rfl T.m_xor_of T.f_xor_of.kp T.b_xor_of .nil (L2N.passes_call (L2N.takes_of rfl rfl rfl rfl) fun _ _ _ _ h => h) (sa_cons (se_var (pv 3)) (sa_cons (se_var (pv 4)) sa_nil))))))))) (ss_one (ss_ret (se_if (st_cmp (opd_eq hK hr.units) (sb_of (se_var (pv 3))) (sb_of (se_ix hK (sb_of (se_var (pv 1))) (sb_of (se_neg se_int)) (fun _ _ => rfl))) (nomark _)) (se_slice hK (sb_of (se_var (pv 1))) so_none (so_some (se_neg se_int))) se_non))))))))

theorem ok_packets_in (T : Tx K mg) : FnOk P w K mg base (L2N.CX P w) 3 T.a_packets_in T.d_packets_in ["bits", "words", "layer", "check"] (SpF K T.cv 4 F_packets_in) :=
  fn_sim (N := n_packets_in) (g := g_packets_in) (sc := c_packets_in) T.f_packets_in rfl sc_packets_in (fun cdv A outer s H E B hK hcv hE hr => (ss_cons (ss_asgN (ps_set (i := 4) sc_packets_in.nd rfl (Or.inl rfl) (sn_lst sr_nil))) (ss_cons (ss_while 1000 (passes_of rfl) (st_cmp (opd_ne hK hr.units) (sb_of (se_var (pv 1))) (sb_of (se_tup sr_nil)) (nomark _)) (ss_cons (ss_asg (ps_set (i := 5) sc_packets_in.nd rfl (Or.inl rfl) (se_call hK hcv hE (pe_call (ok_first_of T) (hr.mono (by decide)) rfl T.m_first_of T.f_first_of.kp T.b_first_of .nil (L2N.passes_call (L2N.takes_of rfl rfl rfl rfl) fun _ _ _ _ h => h) (sa_cons (se_var (pv 2)) (sa_cons (se_var (pv 1)) sa_nil)))))) (ss_cons (ss_if (st_isN (se_var (pv 5))) (ss_one (ss_ret se_non)) ss_nil) (ss_cons (ss_asg (ps_set (i := 6) sc_packets_in.nd rfl (Or.inl rfl) (se_call hK hcv hE (pe_call (ok_checked T) (hr.mono (by decide)) rfl T.m_checked T.f_checked.kp T.b_checked .nil (L2N.passes_call (L2N.takes_of rfl rfl rfl rfl) fun _ _ _ _ h => h) (sa_cons (se_var (pv 0)) (sa_cons (se_ix hK (sb_of (se_var (pv 5))) (sb_of se_int) (fun _ _ => rfl)) (sa_cons (se_var (pv 3)) sa_nil))))))) (ss_cons (ss_if (st_isN (se_var (pv 6))) (ss_one (ss_ret se_non)) ss_nil) (ss_cons (ss_app (ps_expr (pe_bm PySem.F.plainAttrs_list PySem.F.slot_list_append PySem.F.type_list_append mt_append (pv 4) (pa_cons (se_var (pv 6)) pa_nil)))) (ss_one (ss_asg (ps_set (i := 1) sc_packets_in.nd rfl (Or.inl rfl) (se_ix hK (sb_of (se_var (pv 5))) (sb_of se_int) (fun _ _ => rfl))))))))))) (ss_freeze (i := 4) (ss_one (ss_ret (se_var (pv 4))))))))

theorem ok_check_of (T : Tx K mg) : FnOk P w K mg base (L2N.CX P w) 2 T.a_check_of T.d_check_of ["bits", "own", "check"] (SpF K T.cv 3 F_check_of) :=
  fn_sim (N := n_check_of) (g := g_check_of) (sc := c_check_of) T.f_check_of rfl sc_check_of (fun cdv A outer s H E B hK hcv hE hr => (ss_cons (ss_asg (ps_set (i := 3) sc_check_of.nd rfl (Or.inl rfl) se_int)) (ss_cons (ss_for (is := [4]) (passes_of rfl) rfl (si_seq hK (se_var (pv 1))) (sg_name (pg_name (i := 4) sc_check_of.nd rfl (Or.inl rfl))) (ss_one (ss_asg (ps_set (i := 3) sc_check_of.nd rfl (Or.inl rfl) (se_if (st_cmp (opd_eq hK hr.units) (sb_of (se_var (pv 2))) (sb_of se_str) (nomark _)) (se_op opd_mod (sb_of (se_op (opd_add hK) (sb_of (se_var (pv 3))) (sb_of (se_var (pv 4))))) (sb_of (se_op (opd_add hK) (sb_of (se_call hK hcv hE (pe_call (ok_top_of T) (hr.mono (by decide)) rfl T.m_top_of T.f_top_of.kp T.b_top_of .nil (L2N.passes_call (L2N.takes_of rfl rfl rfl rfl) fun _ _ _ _ h => h) (sa_cons (se_var (pv 0)) sa_nil)))) (sb_of se_int)))) (se_call hK hcv hE (pe_call (ok_xor_of T) (hr.mono (by decide)) rfl T.m_xor_of T.f_xor_of.kp T.b_xor_of .nil (L2N.passes_call (L2N.takes_of rfl rfl rfl rfl) fun _ _ _ _ h => h) (sa_cons (se_var (pv 3)) (sa_cons (se_var (pv 4)) sa_nil))))))))) (ss_one (ss_ret (se_if (st_cmp (opd_eq hK hr.units) (sb_of (se_var (pv 2))) (sb_of se_str) (nomark _)) (se_tup sr_nil) (se_tup (sr_cons (se_var (pv 3)) sr_nil))))))))

theorem ok_packed (T : Tx K mg) : FnOk P w K mg base (L2N.CX P w) 4 T.a_packed T.d_packed ["bits", "packets", "layer", "check"] (SpF K T.cv 4 F_packed) :=
  fn_sim (N := n_packed) (g := g_packed) (sc := c_packed) T.f_packed rfl sc_packed (fun cdv A outer s H E B hK hcv hE hr => (ss_cons (ss_expr (se_call hK hcv hE (pe_call (ok_need_all T) (hr.mono (by decide)) rfl T.m_need_all T.f_need_all.kp T.b_need_all .nil (L2N.passes_call (L2N.takes_of rfl rfl rfl rfl) fun _ _ _ _ h => h) (sa_cons (se_var (pv 0)) (sa_cons (se_var (pv 1)) (sa_cons (se_var (pv 2)) (sa_cons (se_var (pv 3)) sa_nil))))))) (ss_cons (ss_asg (ps_set (i := 4) sc_packed.nd rfl (Or.inl rfl) (se_tup sr_nil))) (ss_cons (ss_for (is := [5]) (passes_of rfl) rfl (si_seq hK (se_var (pv 1))) (sg_name (pg_name (i := 5) sc_packed.nd rfl (Or.inl rfl))) (ss_one (ss_asg (ps_set (i := 4) sc_packed.nd rfl (Or.inl rfl) (se_op (opd_add hK) (sb_of (se_var (pv 4))) (sb_of (se_call hK hcv hE (pe_call (ok_one_packed T) (hr.mono (by decide)) rfl T.m_one_packed T.f_one_packed.kp T.b_one_packed .nil (L2N.passes_call (L2N.takes_of rfl rfl rfl rfl) fun _ _ _ _ h => h) (sa_cons (se_var (pv 2)) (sa_cons (se_op (opd_add hK) (sb_of (se_var (pv 5))) (sb_of (se_call hK hcv hE (pe_call (ok_check_of T) (hr.mono (by decide)) rfl T.m_check_of T.f_check_of.kp T.b_check_of .nil (L2N.passes_call (L2N.takes_of rfl rfl rfl rfl) fun _ _ _ _ h => h) (sa_cons (se_var (pv 0)) (sa_cons (se_var (pv 5)) (sa_cons (se_var (pv 3)) sa_nil))))))) sa_nil)))))))))) (ss_cons (ss_if (st_of (sw_or (st_not (st_val (se_callB (calld_all rfl) (by rfl) T.n_all (by decide +kernel) (sbs_cons (sb_of (se_of_sn (sn_lc (own := [("word", 6)]) (is := [6]) rfl sc_packed.nd (si_seq hK (se_var (pv 4))) (blkOk_by (own := [("word", 6)]) (N := n_packed) (sc := c_packed) (by decide +kernel)) (fun _ _ _ _ _ => (sg_name (pg_name (i := 6) sc_packed.nd rfl (Or.inl rfl)))) (fun _ _ _ _ _ => sts_nil) (fun _ _ _ _ _ => (se_cmp (opd_le hK hr.units) (sb_of (se_var (pv 6))) (sb_of (se_call hK hcv rfl (pe_call (ok_top_of T) (hr.mono (by decide)) rfl T.m_top_of T.f_top_of.kp T.b_top_of .nil passN (sa_cons (se_var (pv 0)) sa_nil)))) (nomark _))) (by decide)))) sbs_nil)))) (sw_or1 (st_cmp (opd_ne hK hr.units) (sb_of (se_call hK hcv hE (pe_call (ok_packets_in T) (hr.mono (by decide)) rfl T.m_packets_in T.f_packets_in.kp T.b_packets_in .nil (L2N.passes_call (L2N.takes_of rfl rfl rfl rfl) fun _ _ _ _ h => h) (sa_cons (se_var (pv 0)) (sa_cons (se_var (pv 4)) (sa_cons (se_var (pv 2)) (sa_cons (se_var (pv 3)) sa_nil))))))) (sb_of (se_var (pv 1))) (nomark _))))) (ss_one (ss_raiseC (C := T.c_NoPackets) (by rw [hcv]; rfl) rfl hE (L2N.takes_of rfl rfl rfl rfl) T.x_NoPackets T.g_NoPackets T.k_NoPackets T.s_NoPackets T.t_NoPackets (by rfl))) ss_nil) (ss_cons (ss_if (st_cmp (opd_gt hK hr.units) (sb_of (se_callB (calld_len hK) (by rfl) T.n_len (by decide +kernel) (sbs_cons (sb_of (se_var (pv 4))) sbs_nil))) (sb_of (se_c (v := .int 40) (pe_glob (by rfl) T.m_WORDS.choose_spec ⟨_, rfl⟩) fun _ _ => .int _)) (nomark _)) (ss_one (ss_raiseC (C := T.c_TooLong) (by rw [hcv]; rfl) rfl hE (L2N.takes_of rfl rfl rfl rfl) T.x_TooLong T.g_TooLong T.k_TooLong T.s_TooLong T.t_TooLong (by rfl))) ss_nil) (ss_one (ss_ret (se_var (pv 4))))))))))

theorem ok_is_packed (T : Tx K mg) : FnOk P w K mg base (L2N.CX P w) 5 T.a_is_packed T.d_is_packed ["bits", "packets", "layer", "check"] (SpF K T.cv 4 F_is_packed) :=
  fn_sim (N := n_is_packed) (g := g_is_packed) (sc := c_is_packed) T.f_is_packed rfl sc_is_packed (fun cdv A outer s H E B hK hcv hE hr => (ss_one (ss_try2 (i1 := 9) (i2 := 5) rfl rfl ⟨by rfl, by decide, Or.inl T.g_NoPackets⟩ ⟨by rfl, by decide, Or.inl T.g_TooLong⟩ hK hcv T.p2 rfl rfl (fun _ _ => pe_bl) (fun W pn xe B hK hcv hE tk po => (ss_one (ss_ret (se_cmp (opd_ne hK hr.units) (sb_of (se_call hK hcv hE (pe_call (ok_packed T) (hr.mono (by decide)) rfl T.m_packed T.f_packed.kp T.b_packed .nil (L2N.passes_call tk fun _ _ σ _ h => h σ) (sa_cons (se_var (pv 0)) (sa_cons (se_var (pv 1)) (sa_cons (se_var (pv 2)) (sa_cons (se_var (pv 3)) sa_nil))))))) (sb_of (se_tup sr_nil)) (nomark _))))))))

theorem ok_layers_of (T : Tx K mg) : FnOk P w K mg base (L2N.CX P w) 6 T.a_layers_of T.d_layers_of ["bits", "packets"] (SpF K T.cv 2 F_layers_of) :=
  fn_sim (N := n_layers_of) (g := g_layers_of) (sc := c_layers_of) T.f_layers_of rfl sc_layers_of (fun cdv A outer s H E B hK hcv hE hr => (ss_cons (ss_expr (se_call hK hcv hE (pe_call (ok_need_all T) (hr.mono (by decide)) rfl T.m_need_all T.f_need_all.kp T.b_need_all .nil (L2N.passes_call (L2N.takes_of rfl rfl rfl rfl) fun _ _ _ _ h => h) (sa_cons (se_var (pv 0)) (sa_cons (se_var (pv 1)) (sa_cons (se_tup (sr_cons se_str sr_nil)) (sa_cons se_str sa_nil))))))) (ss_cons (ss_asgN (ps_set (i := 2) sc_layers_of.nd rfl (Or.inl rfl) (sn_cat (sb_of (se_of_sn (sn_lc (own := [("many", 5)]) (is := [5]) rfl sc_layers_of.nd (si_range2 rfl T.n_range (sr_cons se_int (sr_cons se_int sr_nil))) (blkOk_by (own := [("many", 5)]) (N := n_layers_of) (sc := c_layers_of) (by decide +kernel)) (fun _ _ _ _ _ => (sg_name (pg_name (i := 5) sc_layers_of.nd rfl (Or.inl rfl)))) (fun _ _ _ _ _ => sts_nil) (fun _ _ _ _ _ => (se_tup (sr_cons se_str (sr_cons (se_var (pv 5)) sr_nil)))) (by decide)))) (sb_of (se_lst (sr_cons (se_tup (sr_cons se_str sr_nil)) sr_nil)))))) (ss_cons (ss_ext (ps_expr (pe_bm PySem.F.plainAttrs_list PySem.F.slot_list_extend PySem.F.type_list_extend mt_extendR (pv 2) (pa_cons (sb_of (se_of_sn (sn_lc (own := [("word", 6)]) (is := [6]) rfl sc_layers_of.nd (si_range1 rfl T.n_range (sr_cons (se_op (opd_add hK) (sb_of (se_call hK hcv hE (pe_call (ok_top_of T) (hr.mono (by decide)) rfl T.m_top_of T.f_top_of.kp T.b_top_of .nil (L2N.passes_call (L2N.takes_of rfl rfl rfl rfl) fun _ _ _ _ h => h) (sa_cons (se_var (pv 0)) sa_nil)))) (sb_of se_int)) sr_nil)) (blkOk_by (own := [("word", 6)]) (N := n_layers_of) (sc := c_layers_of) (by decide +kernel)) (fun _ _ _ _ _ => (sg_name (pg_name (i := 6) sc_layers_of.nd rfl (Or.inl rfl)))) (fun _ _ _ _ _ => sts_nil) (fun _ _ _ _ _ => (se_tup (sr_cons se_str (sr_cons (se_var (pv 6)) sr_nil)))) (by decide)))) pa_nil)))) (ss_cons (ss_asgN (ps_set (i := 3) sc_layers_of.nd rfl (Or.inl rfl) (sn_lst sr_nil))) (ss_freeze (i := 2) (ss_cons (ss_for (is := [4]) (passes_of rfl) rfl (si_seq hK (se_var (pv 2))) (sg_name (pg_name (i := 4) sc_layers_of.nd rfl (Or.inr rfl))) (ss_one (ss_ext (ps_expr (pe_bm PySem.F.plainAttrs_list PySem.F.slot_list_extend PySem.F.type_list_extend mt_extendR (pv 3) (pa_cons (sb_of (se_of_sn (sn_lc (own := [("check", 7)]) (is := [7]) rfl sc_layers_of.nd (si_seq hK (se_c (v := .ref T.a_CHECKS) (d := .tuple [.str "none", .str "sum", .str "xor"]) (pe_glob (by rfl) T.m_CHECKS rfl) fun _ _ => .tup (.inr (hK ▸ T.k_CHECKS)) (.cons (.str _) (.cons (.str _) (.cons (.str _) .nil))))) (blkOk_by (own := [("check", 7)]) (N := n_layers_of) (sc := c_layers_of) (by decide +kernel)) (fun _ _ _ _ _ => (sg_name (pg_name (i := 7) sc_layers_of.nd rfl (Or.inl rfl)))) (fun _ _ _ _ _ => (sts_one (st_val (se_call hK hcv rfl (pe_call (ok_is_packed T) (hr.mono (by decide)) rfl T.m_is_packed T.f_is_packed.kp T.b_is_packed .nil passN (sa_cons (se_var (pv 0)) (sa_cons (se_var (pv 1)) (sa_cons (se_var (pv 4)) (sa_cons (se_var (pv 7)) sa_nil))))))))) (fun _ _ _ _ _ => (se_tup (sr_cons (se_var (pv 4)) (sr_cons (se_var (pv 7)) sr_nil)))) (by decide)))) pa_nil)))))) (ss_one (ss_ret (se_callB (calld_sorted hK hr.units) (by rfl) T.n_sorted (by decide +kernel) (sbs_cons (sb_var (pv 3)) sbs_nil)))))))))))
theorem okN_layers_of (T : Tx K mg) : FnOk P w K mg base (L2N.CX P w) 6 T.a_layers_of T.d_layers_of ["bits", "packets"] (SpN K T.cv 2 FN_layers_of) :=
  fn_simN (N := n_layers_of) (g := gN_layers_of) (sc := c_layers_of) T.f_layers_of rfl sc_layers_of (fun cdv A outer s H E B hK hcv hE hr => (ss_cons (ss_expr (se_call hK hcv hE (pe_call (ok_need_all T) (hr.mono (by decide)) rfl T.m_need_all T.f_need_all.kp T.b_need_all .nil (L2N.passes_call (L2N.takes_of rfl rfl rfl rfl) fun _ _ _ _ h => h) (sa_cons (se_var (pv 0)) (sa_cons (se_var (pv 1)) (sa_cons (se_tup (sr_cons se_str sr_nil)) (sa_cons se_str sa_nil))))))) (ss_cons (ss_asgN (ps_set (i := 2) sc_layers_of.nd rfl (Or.inl rfl) (sn_cat (sb_of (se_of_sn (sn_lc (own := [("many", 5)]) (is := [5]) rfl sc_layers_of.nd (si_range2 rfl T.n_range (sr_cons se_int (sr_cons se_int sr_nil))) (blkOk_by (own := [("many", 5)]) (N := n_layers_of) (sc := c_layers_of) (by decide +kernel)) (fun _ _ _ _ _ => (sg_name (pg_name (i := 5) sc_layers_of.nd rfl (Or.inl rfl)))) (fun _ _ _ _ _ => sts_nil) (fun _ _ _ _ _ => (se_tup (sr_cons se_str (sr_cons (se_var (pv 5)) sr_nil)))) (by decide)))) (sb_of (se_lst (sr_cons (se_tup (sr_cons se_str sr_nil)) sr_nil)))))) (ss_cons (ss_ext (ps_expr (pe_bm PySem.F.plainAttrs_list PySem.F.slot_list_extend PySem.F.type_list_extend mt_extendR (pv 2) (pa_cons (sb_of (se_of_sn (sn_lc (own := [("word", 6)]) (is := [6]) rfl sc_layers_of.nd (si_range1 rfl T.n_range (sr_cons (se_op (opd_add hK) (sb_of (se_call hK hcv hE (pe_call (ok_top_of T) (hr.mono (by decide)) rfl T.m_top_of T.f_top_of.kp T.b_top_of .nil (L2N.passes_call (L2N.takes_of rfl rfl rfl rfl) fun _ _ _ _ h => h) (sa_cons (se_var (pv 0)) sa_nil)))) (sb_of se_int)) sr_nil)) (blkOk_by (own := [("word", 6)]) (N := n_layers_of) (sc := c_layers_of) (by decide +kernel)) (fun _ _ _ _ _ => (sg_name (pg_name (i := 6) sc_layers_of.nd rfl (Or.inl rfl)))) (fun _ _ _ _ _ => sts_nil) (fun _ _ _ _ _ => (se_tup (sr_cons se_str (sr_cons (se_var (pv 6)) sr_nil)))) (by decide)))) pa_nil)))) (ss_cons (ss_asgN (ps_set (i := 3) sc_layers_of.nd rfl (Or.inl rfl) (sn_lst sr_nil))) (ss_freeze (i := 2) (ss_cons (ss_for (is := [4]) (passes_of rfl) rfl (si_seq hK (se_var (pv 2))) (sg_name (pg_name (i := 4) sc_layers_of.nd rfl (Or.inr rfl))) (ss_one (ss_ext (ps_expr (pe_bm PySem.F.plainAttrs_list PySem.F.slot_list_extend PySem.F.type_list_extend mt_extendR (pv 3) (pa_cons (sb_of (se_of_sn (sn_lc (own := [("check", 7)]) (is := [7]) rfl sc_layers_of.nd (si_seq hK (se_c (v := .ref T.a_CHECKS) (d := .tuple [.str "none", .str "sum", .str "xor"]) (pe_glob (by rfl) T.m_CHECKS rfl) fun _ _ => .tup (.inr (hK ▸ T.k_CHECKS)) (.cons (.str _) (.cons (.str _) (.cons (.str _) .nil))))) (blkOk_by (own := [("check", 7)]) (N := n_layers_of) (sc := c_layers_of) (by decide +kernel)) (fun _ _ _ _ _ => (sg_name (pg_name (i := 7) sc_layers_of.nd rfl (Or.inl rfl)))) (fun _ _ _ _ _ => (sts_one (st_val (se_call hK hcv rfl (pe_call (ok_is_packed T) (hr.mono (by decide)) rfl T.m_is_packed T.f_is_packed.kp T.b_is_packed .nil passN (sa_cons (se_var (pv 0)) (sa_cons (se_var (pv 1)) (sa_cons (se_var (pv 4)) (sa_cons (se_var (pv 7)) sa_nil))))))))) (fun _ _ _ _ _ => (se_tup (sr_cons (se_var (pv 4)) (sr_cons (se_var (pv 7)) sr_nil)))) (by decide)))) pa_nil)))))) (ss_one (ss_rn (sn_callB (callL_sorted hK hr.units) (by rfl) T.n_sorted (by decide +kernel) (sbs_cons (sb_var (pv 3)) sbs_nil)))))))))))

theorem ok__law_samples (T : Tx K mg) : FnOk P w K mg base (L2N.CX P w) 5 T.a__law_samples T.d__law_samples ["script", "town", "form", "most"] (SpF K T.cv 4 F__law_samples) :=
  fn_sim (N := n__law_samples) (g := g__law_samples) (sc := c__law_samples) T.f__law_samples rfl sc__law_samples (fun cdv A outer s H E B hK hcv hE hr => (ss_cons (ss_asgT (ps_asg (sb_of (se_tup (sr_cons se_str (sr_cons (se_tup sr_nil) sr_nil)))) (sgb_tup (is := [4, 5]) hK (pg_tup rfl (pgs_cons (pg_name (i := 4) sc__law_samples.nd rfl (Or.inl rfl)) (pgs_cons (pg_name (i := 5) sc__law_samples.nd rfl (Or.inl rfl)) pgs_nil))) (pg_lst rfl (pgs_cons (pg_name (i := 4) sc__law_samples.nd rfl (Or.inl rfl)) (pgs_cons (pg_name (i := 5) sc__law_samples.nd rfl (Or.inl rfl)) pgs_nil)))))) (ss_cons (ss_for (is := [6]) (passes_of rfl) rfl (si_range1 rfl T.n_range (sr_cons (se_op (opd_add hK) (sb_of se_int) (sb_of (se_call hK hcv hE (pe_call (ok__law_draw T) (hr.mono (by decide)) rfl T.m__law_draw T.f__law_draw.kp T.b__law_draw .nil (L2N.passes_call (L2N.takes_of rfl rfl rfl rfl) fun _ _ _ _ h => h) (sa_scr (pv 0) (sa_town (pv 1) (sa_cons se_int sa_nil))))))) sr_nil)) (sg_name (pg_name (i := 6) sc__law_samples.nd rfl (Or.inl rfl))) (ss_cons (ss_asg (ps_set (i := 7) sc__law_samples.nd rfl (Or.inl rfl) (se_call hK hcv hE (pe_call (ok__law_draw T) (hr.mono (by decide)) rfl T.m__law_draw T.f__law_draw.kp T.b__law_draw .nil (L2N.passes_call (L2N.takes_of rfl rfl rfl rfl) fun _ _ _ _ h => h) (sa_scr (pv 0) (sa_town (pv 1) (sa_cons (se_call hK hcv hE (pe_call (ok__law_pick T) (hr.mono (by decide)) rfl T.m__law_pick T.f__law_pick.kp T.b__law_pick .nil (L2N.passes_call (L2N.takes_of rfl rfl rfl rfl) fun _ _ _ _ h => h) (sa_scr (pv 0) (sa_town (pv 1) (sa_cons (se_lst (sr_cons se_int (sr_cons se_int (sr_cons se_int sr_nil)))) sa_nil))))) sa_nil))))))) (ss_cons (ss_asg (ps_set (i := 8) sc__law_samples.nd rfl (Or.inl rfl) (se_call hK hcv hE (pe_call (ok__law_draw T) (hr.mono (by decide)) rfl T.m__law_draw T.f__law_draw.kp T.b__law_draw .nil (L2N.passes_call (L2N.takes_of rfl rfl rfl rfl) fun _ _ _ _ h => h) (sa_scr (pv 0) (sa_town (pv 1) (sa_cons (se_ix hK (sb_of (se_lst (sr_cons se_int (sr_cons se_int (sr_cons se_int sr_nil))))) (sb_of (se_op opd_sub (sb_of (se_ix hK (sb_of (se_var (pv 2))) (sb_of se_int) (fun _ _ => rfl))) (sb_of se_int))) (fun _ _ => rfl)) sa_nil))))))) (ss_cons (ss_asg (ps_set (i := 9) sc__law_samples.nd rfl (Or.inl rfl) (se_op (opd_add hK) (sb_of (se_op (opd_mul hK) (sb_of se_str) (sb_of (se_var (pv 7))))) (sb_of (se_call hK hcv hE (pe_call (ok__law_frame T) (hr.mono (by decide)) rfl T.m__law_frame T.f__law_frame.kp T.b__law_frame .nil (L2N.passes_call (L2N.takes_of rfl rfl rfl rfl) fun _ _ _ _ h => h) (sa_cons (se_var (pv 2)) (sa_cons (se_var (pv 8)) sa_nil)))))))) (ss_one (ss_if (st_cmp (opd_le hK hr.units) (sb_of (se_callB (calld_len hK) (by rfl) T.n_len (by decide +kernel) (sbs_cons (sb_of (se_op (opd_add hK) (sb_of (se_var (pv 4))) (sb_of (se_var (pv 9))))) sbs_nil))) (sb_of (se_var (pv 3))) (nomark _)) (ss_one (ss_par (consE_len (consE_len nilE_len)) (ps_par (i := 4) (j := 5) rfl sc__law_samples.nd rfl rfl (by decide) rfl rfl (sr_cons (se_op (opd_add hK) (sb_of (se_var (pv 4))) (sb_of (se_var (pv 9)))) (sr_cons (se_op (opd_add hK) (sb_of (se_var (pv 5))) (sb_of (se_tup (sr_cons (se_tup (sr_cons (se_var (pv 7)) (sr_cons (se_var (pv 8)) sr_nil))) sr_nil)))) sr_nil)) rfl))) ss_nil)))))) (ss_cons (ss_if (st_cmp (opd_eq hK hr.units) (sb_of (se_var (pv 5))) (sb_of (se_tup sr_nil)) (nomark _)) (ss_one (ss_par (consE_len (consE_len nilE_len)) (ps_par (i := 4) (j := 5) rfl sc__law_samples.nd rfl rfl (by decide) rfl rfl (sr_cons (se_call hK hcv hE (pe_call (ok__law_frame T) (hr.mono (by decide)) rfl T.m__law_frame T.f__law_frame.kp T.b__law_frame .nil (L2N.passes_call (L2N.takes_of rfl rfl rfl rfl) fun _ _ _ _ h => h) (sa_cons (se_var (pv 2)) (sa_cons se_int sa_nil)))) (sr_cons (se_tup (sr_cons (se_tup (sr_cons se_int (sr_cons se_int sr_nil))) sr_nil)) sr_nil)) rfl))) ss_nil) (ss_cons (ss_asg (ps_set (i := 10) sc__law_samples.nd rfl (Or.inl rfl) (se_call hK hcv hE (pe_call (ok__law_draw T) (hr.mono (by decide)) rfl T.m__law_draw T.f__law_draw.kp T.b__law_draw .nil (L2N.passes_call (L2N.takes_of rfl rfl rfl rfl) fun _ _ _ _ h => h) (sa_scr (pv 0) (sa_town (pv 1) (sa_cons se_int sa_nil))))))) (ss_one (ss_ret (se_tup (sr_cons (se_op (opd_add hK) (sb_of (se_var (pv 4))) (sb_of (se_op (opd_mul hK) (sb_of se_str) (sb_of (se_var (pv 10)))))) (sr_cons (se_var (pv 5)) (sr_cons (se_var (pv 10)) sr_nil)))))))))))

theorem ok_all_forms (T : Tx K mg) : FnOk P w K mg base (L2N.CX P w) 1 T.a_all_forms T.d_all_forms [] (SpF K T.cv 0 F_all_forms) :=
  fn_sim (N := n_all_forms) (g := g_all_forms) (sc := c_all_forms) T.f_all_forms rfl sc_all_forms (fun cdv A outer s H E B hK hcv hE hr => (ss_cons (ss_asgN (ps_set (i := 0) sc_all_forms.nd rfl (Or.inl rfl) (sn_lst sr_nil))) (ss_cons (ss_for (is := [1]) (passes_of rfl) rfl (si_range2 rfl T.n_range (sr_cons se_int (sr_cons (se_op (opd_add hK) (sb_of (se_c (v := .int 6) (pe_glob (by rfl) T.m_PACE.choose_spec ⟨_, rfl⟩) fun _ _ => .int _)) (sb_of se_int)) sr_nil))) (sg_name (pg_name (i := 1) sc_all_forms.nd rfl (Or.inr rfl))) (ss_one (ss_for (is := [2]) (passes_of rfl) rfl (si_range2 rfl T.n_range (sr_cons (se_c (v := .int 4) (pe_glob (by rfl) T.m_LEAST.choose_spec ⟨_, rfl⟩) fun _ _ => .int _) (sr_cons (se_op (opd_add hK) (sb_of (se_c (v := .int 6) (pe_glob (by rfl) T.m_MOST.choose_spec ⟨_, rfl⟩) fun _ _ => .int _)) (sb_of se_int)) sr_nil))) (sg_name (pg_name (i := 2) sc_all_forms.nd rfl (Or.inr rfl))) (ss_one (ss_for (is := [3]) (passes_of rfl) rfl (si_seq hK (se_c (v := .ref T.a_ORDERS) (d := .tuple [.str "low", .str "high"]) (pe_glob (by rfl) T.m_ORDERS rfl) fun _ _ => .tup (.inr (hK ▸ T.k_ORDERS)) (.cons (.str _) (.cons (.str _) .nil)))) (sg_name (pg_name (i := 3) sc_all_forms.nd rfl (Or.inr rfl))) (ss_one (ss_for (is := [4]) (passes_of rfl) rfl (si_seq hK (se_c (v := .ref T.a_PARITIES) (d := .tuple [.str "none", .str "even", .str "odd"]) (pe_glob (by rfl) T.m_PARITIES rfl) fun _ _ => .tup (.inr (hK ▸ T.k_PARITIES)) (.cons (.str _) (.cons (.str _) (.cons (.str _) .nil))))) (sg_name (pg_name (i := 4) sc_all_forms.nd rfl (Or.inr rfl))) (ss_one (ss_ext (ps_expr (pe_bm PySem.F.plainAttrs_list PySem.F.slot_list_extend PySem.F.type_list_extend mt_extendR (pv 0) (pa_cons (sb_of (se_of_sn (sn_lc (own := [("stops", 5)]) (is := [5]) rfl sc_all_forms.nd (si_seq hK (se_tup (sr_cons se_int (sr_cons se_int sr_nil)))) (blkOk_by (own := [("stops", 5)]) (N := n_all_forms) (sc := c_all_forms) (by decide +kernel)) (fun _ _ _ _ _ => (sg_name (pg_name (i := 5) sc_all_forms.nd rfl (Or.inl rfl)))) (fun _ _ _ _ _ => sts_nil) (fun _ _ _ _ _ => (se_tup (sr_cons (se_var (pv 1)) (sr_cons (se_var (pv 2)) (sr_cons (se_var (pv 3)) (sr_cons (se_var (pv 4)) (sr_cons (se_var (pv 5)) sr_nil))))))) (by decide)))) pa_nil)))))))))))) (ss_one (ss_ret (se_callB (calld_sorted hK hr.units) (by rfl) T.n_sorted (by decide +kernel) (sbs_cons (sb_var (pv 0)) sbs_nil)))))))

theorem ok_long_of (T : Tx K mg) : FnOk P w K mg base (L2N.CX P w) 1 T.a_long_of T.d_long_of ["form"] (SpF K T.cv 1 F_long_of) :=
  fn_sim (N := n_long_of) (g := g_long_of) (sc := c_long_of) T.f_long_of rfl sc_long_of (fun cdv A outer s H E B hK hcv hE hr => (ss_one (ss_ret (se_op (opd_mul hK) (sb_of (se_ix hK (sb_of (se_var (pv 0))) (sb_of se_int) (fun _ _ => rfl))) (sb_of (se_op (opd_add hK) (sb_of (se_op (opd_add hK) (sb_of (se_op (opd_add hK) (sb_of se_int) (sb_of (se_ix hK (sb_of (se_var (pv 0))) (sb_of se_int) (fun _ _ => rfl))))) (sb_of (se_callTy calld_int (by rfl) T.n_int (by decide +kernel) (sbs_cons (sb_of (se_cmp (opd_ne hK hr.units) (sb_of (se_ix hK (sb_of (se_var (pv 0))) (sb_of se_int) (fun _ _ => rfl))) (sb_of se_str) (nomark _))) sbs_nil))))) (sb_of (se_ix hK (sb_of (se_var (pv 0))) (sb_of se_int) (fun _ _ => rfl)))))))))

theorem ok_word_of (T : Tx K mg) : FnOk P w K mg base (L2N.CX P w) 1 T.a_word_of T.d_word_of ["form", "bits"] (SpF K T.cv 2 F_word_of) :=
  fn_sim (N := n_word_of) (g := g_word_of) (sc := c_word_of) T.f_word_of rfl sc_word_of (fun cdv A outer s H E B hK hcv hE hr => (ss_cons (ss_asg (ps_set (i := 2) sc_word_of.nd rfl (Or.inl rfl) se_int)) (ss_cons (ss_for (is := [3]) (passes_of rfl) rfl (si_seq hK (se_if (st_cmp (opd_eq hK hr.units) (sb_of (se_ix hK (sb_of (se_var (pv 0))) (sb_of se_int) (fun _ _ => rfl))) (sb_of se_str) (nomark _)) (se_revL hK (sb_of (se_var (pv 1)))) (se_var (pv 1)))) (sg_name (pg_name (i := 3) sc_word_of.nd rfl (Or.inl rfl))) (ss_one (ss_asg (ps_set (i := 2) sc_word_of.nd rfl (Or.inl rfl) (se_op (opd_add hK) (sb_of (se_op (opd_mul hK) (sb_of se_int) (sb_of (se_var (pv 2))))) (sb_of (se_var (pv 3)))))))) (ss_one (ss_ret (se_var (pv 2)))))))

theorem ok_bit_of (T : Tx K mg) : FnOk P w K mg base (L2N.CX P w) 1 T.a_bit_of T.d_bit_of ["samples"] (SpF K T.cv 1 F_bit_of) :=
  fn_sim (N := n_bit_of) (g := g_bit_of) (sc := c_bit_of) T.f_bit_of rfl sc_bit_of (fun cdv A outer s H E B hK hcv hE hr => (ss_cons (ss_if (st_of (sw_or (st_cmp (opd_eq hK hr.units) (sb_of (se_var (pv 0))) (sb_of se_str) (nomark _)) (sw_or1 (st_cmp (opd_ne hK hr.units) (sb_of (se_var (pv 0))) (sb_of (se_op (opd_mul hK) (sb_of (se_ix hK (sb_of (se_var (pv 0))) (sb_of se_int) (fun _ _ => rfl))) (sb_of (se_callB (calld_len hK) (by rfl) T.n_len (by decide +kernel) (sbs_cons (sb_of (se_var (pv 0))) sbs_nil))))) (nomark _))))) (ss_one (ss_ret se_non)) ss_nil) (ss_one (ss_ret (se_callTy calld_int (by rfl) T.n_int (by decide +kernel) (sbs_cons (sb_of (se_ix hK (sb_of (se_var (pv 0))) (sb_of se_int) (fun _ _ => rfl))) sbs_nil))))))

theorem ok_parity_of (T : Tx K mg) : FnOk P w K mg base (L2N.CX P w) 1 T.a_parity_of T.d_parity_of ["form", "bits"] (SpF K T.cv 2 F_parity_of) :=
  fn_sim (N := n_parity_of) (g := g_parity_of) (sc := c_parity_of) T.f_parity_of rfl sc_parity_of (fun cdv A outer s H E B hK hcv hE hr => (ss_one (ss_ret (se_dict3 (by decide +kernel) (by decide +kernel) (by decide +kernel) (pe_dget (hu_of hr) (pe_disp (pps_cons pe_str (se_lst sr_nil) (pps_cons pe_str (se_lst (sr_cons (se_op opd_mod (sb_of (se_callB (calld_sum rfl) (by rfl) T.n_sum (by decide +kernel) (sbs_cons (sb_of (se_var (pv 1))) sbs_nil))) (sb_of se_int)) sr_nil)) (pps_cons pe_str (se_lst (sr_cons (se_op opd_sub (sb_of se_int) (sb_of (se_op opd_mod (sb_of (se_callB (calld_sum rfl) (by rfl) T.n_sum (by decide +kernel) (sbs_cons (sb_of (se_var (pv 1))) sbs_nil))) (sb_of se_int)))) sr_nil)) pps_nil))) (by rfl) (by rfl) (fun z => by cases z) (by decide)) (se_ix hK (sb_of (se_var (pv 0))) (sb_of se_int) (fun _ _ => rfl)) (fun _ _ => rfl))))))

theorem ok_word_at (T : Tx K mg) : FnOk P w K mg base (L2N.CX P w) 2 T.a_word_at T.d_word_at ["form", "samples", "at"] (SpF K T.cv 3 F_word_at) :=
  fn_sim (N := n_word_at) (g := g_word_at) (sc := c_word_at) T.f_word_at rfl sc_word_at (fun cdv A outer s H E B hK hcv hE hr => (ss_cons (ss_asg (ps_set (i := 3) sc_word_at.nd rfl (Or.inl rfl) (se_call hK hcv hE (pe_call (ok_long_of T) (hr.mono (by decide)) rfl T.m_long_of T.f_long_of.kp T.b_long_of .nil (L2N.passes_call (L2N.takes_of rfl rfl rfl rfl) fun _ _ _ _ h => h) (sa_cons (se_var (pv 0)) sa_nil))))) (ss_cons (ss_asg (ps_set (i := 4) sc_word_at.nd rfl (Or.inr rfl) (se_slice hK (sb_of (se_var (pv 1))) (so_some (se_var (pv 2))) (so_some (se_op (opd_add hK) (sb_of (se_var (pv 2))) (sb_of (se_var (pv 3)))))))) (ss_cons (ss_if (st_cmp (opd_lt hK hr.units) (sb_of (se_callB (calld_len hK) (by rfl) T.n_len (by decide +kernel) (sbs_cons (sb_of (se_var (pv 4))) sbs_nil))) (sb_of (se_var (pv 3))) (nomark _)) (ss_one (ss_ret se_non)) ss_nil) (ss_cons (ss_asgLcD (ps_lcN (is := [7]) (by decide) (ps_setLc (i := 5) (own := [("tick", 7)]) rfl sc_word_at.nd rfl rfl (sw_true rfl rfl rfl (by decide +kernel)) (si_range3 rfl T.n_range (sr_cons se_int (sr_cons (se_var (pv 3)) (sr_cons (se_ix hK (sb_of (se_var (pv 0))) (sb_of se_int) (fun _ _ => rfl)) sr_nil)))) (blkOk_by (own := [("tick", 7)]) (N := n_word_at) (sc := c_word_at) (by decide +kernel)) (fun _ _ _ _ _ => (sg_name (pg_name (i := 7) sc_word_at.nd rfl (Or.inl rfl)))) (fun _ _ _ _ _ => sts_nil) (fun _ _ _ _ _ => (se_call hK hcv rfl (pe_call (ok_bit_of T) (hr.mono (by decide)) rfl T.m_bit_of T.f_bit_of.kp T.b_bit_of .nil passN (sa_cons (se_slice hK (sb_of (se_var (pv 4))) (so_some (se_var (pv 7))) (so_some (se_op (opd_add hK) (sb_of (se_var (pv 7))) (sb_of (se_ix hK (sb_of (se_var (pv 0))) (sb_of se_int) (fun _ _ => rfl)))))) sa_nil))))))) (ss_cons (ss_if (st_of (sw_or (st_cmp (opd_in hK hr.units) (sb_of se_non) (sb_of (se_var (pv 5))) rfl) (sw_or1 (st_cmp (opd_ne hK hr.units) (sb_of (se_ix hK (sb_of (se_var (pv 5))) (sb_of se_int) (fun _ _ => rfl))) (sb_of se_int) (nomark _))))) (ss_one (ss_ret se_non)) ss_nil) (ss_cons (ss_asg (ps_set (i := 6) sc_word_at.nd rfl (Or.inl rfl) (se_slice hK (sb_of (se_var (pv 5))) (so_some se_int) (so_some (se_op (opd_add hK) (sb_of se_int) (sb_of (se_ix hK (sb_of (se_var (pv 0))) (sb_of se_int) (fun _ _ => rfl)))))))) (ss_cons (ss_if (st_cmp (opd_ne hK hr.units) (sb_of (se_slice hK (sb_of (se_var (pv 5))) (so_some (se_op (opd_add hK) (sb_of se_int) (sb_of (se_ix hK (sb_of (se_var (pv 0))) (sb_of se_int) (fun _ _ => rfl))))) so_none)) (sb_of (se_op (opd_add hK) (sb_of (se_call hK hcv hE (pe_call (ok_parity_of T) (hr.mono (by decide)) rfl T.m_parity_of T.f_parity_of.kp T.b_parity_of .nil (L2N.passes_call (L2N.takes_of rfl rfl rfl rfl) fun _ _ _ _ h => h) (sa_cons (se_var (pv 0)) (sa_cons (se_var (pv 6)) sa_nil))))) (sb_of (se_op (opd_mul hK) (sb_of (se_lst (sr_cons se_int sr_nil))) (sb_of (se_ix hK (sb_of (se_var (pv 0))) (sb_of se_int) (fun _ _ => rfl))))))) (nomark _)) (ss_one (ss_ret se_non)) ss_nil) (ss_one (ss_ret (se_call hK hcv hE (pe_call (ok_word_of T) (hr.mono (by decide)) rfl T.m_word_of T.f_word_of.kp T.b_word_of .nil (L2N.passes_call (L2N.takes_of rfl rfl rfl rfl) fun _ _ _ _ h => h) (sa_cons (se_var (pv 0)) (sa_cons (se_var (pv 6)) sa_nil))))))))))))))

theorem ok_rows_in (T : Tx K mg) : FnOk P w K mg base (L2N.CX P w) 3 T.a_rows_in T.d_rows_in ["form", "samples"] (SpF K T.cv 2 F_rows_in) :=
  fn_sim (N := n_rows_in) (g := g_rows_in) (sc := c_rows_in) T.f_rows_in rfl sc_rows_in (fun cdv A outer s H E B hK hcv hE hr => (ss_cons (ss_asg (ps_set (i := 2) sc_rows_in.nd rfl (Or.inl rfl) (se_tup sr_nil))) (ss_cons (ss_asg (ps_set (i := 3) sc_rows_in.nd rfl (Or.inl rfl) se_int)) (ss_cons (ss_asg (ps_set (i := 4) sc_rows_in.nd rfl (Or.inl rfl) se_int)) (ss_cons (ss_while 1000 (passes_of rfl) (st_cmp (opd_lt hK hr.units) (sb_of (se_var (pv 3))) (sb_of (se_callB (calld_len hK) (by rfl) T.n_len (by decide +kernel) (sbs_cons (sb_of (se_var (pv 1))) sbs_nil))) (nomark _)) (ss_one (ss_if (st_cmp (opd_eq hK hr.units) (sb_of (se_ix hK (sb_of (se_var (pv 1))) (sb_of (se_var (pv 3))) (fun _ _ => rfl))) (sb_of se_str) (nomark _)) (ss_cons (ss_asg (ps_set (i := 4) sc_rows_in.nd rfl (Or.inl rfl) (se_op (opd_add hK) (sb_of (se_var (pv 4))) (sb_of se_int)))) (ss_one (ss_asg (ps_set (i := 3) sc_rows_in.nd rfl (Or.inl rfl) (se_op (opd_add hK) (sb_of (se_var (pv 3))) (sb_of se_int)))))) (ss_cons (ss_asg (ps_set (i := 5) sc_rows_in.nd rfl (Or.inl rfl) (se_call hK hcv hE (pe_call (ok_word_at T) (hr.mono (by decide)) rfl T.m_word_at T.f_word_at.kp T.b_word_at .nil (L2N.passes_call (L2N.takes_of rfl rfl rfl rfl) fun _ _ _ _ h => h) (sa_cons (se_var (pv 0)) (sa_cons (se_var (pv 1)) (sa_cons (se_var (pv 3)) sa_nil))))))) (ss_cons (ss_if (st_isN (se_var (pv 5))) (ss_one (ss_ret se_non)) ss_nil) (ss_cons (ss_asg (ps_set (i := 2) sc_rows_in.nd rfl (Or.inl rfl) (se_op (opd_add hK) (sb_of (se_var (pv 2))) (sb_of (se_tup (sr_cons (se_tup (sr_cons (se_var (pv 4)) (sr_cons (se_var (pv 5)) sr_nil))) sr_nil)))))) (ss_cons (ss_asg (ps_set (i := 4) sc_rows_in.nd rfl (Or.inl rfl) se_int)) (ss_one (ss_asg (ps_set (i := 3) sc_rows_in.nd rfl (Or.inl rfl) (se_op (opd_add hK) (sb_of (se_var (pv 3))) (sb_of (se_call hK hcv hE (pe_call (ok_long_of T) (hr.mono (by decide)) rfl T.m_long_of T.f_long_of.kp T.b_long_of .nil (L2N.passes_call (L2N.takes_of rfl rfl rfl rfl) fun _ _ _ _ h => h) (sa_cons (se_var (pv 0)) sa_nil))))))))))))))) (ss_one (ss_ret (se_if (st_cmp (opd_ne hK hr.units) (sb_of (se_var (pv 2))) (sb_of (se_tup sr_nil)) (nomark _)) (se_tup (sr_cons (se_var (pv 2)) (sr_cons (se_var (pv 4)) sr_nil))) se_non))))))))

theorem ok_forms_for (T : Tx K mg) : FnOk P w K mg base (L2N.CX P w) 4 T.a_forms_for T.d_forms_for ["samples"] (SpF K T.cv 1 F_forms_for) :=
  fn_sim (N := n_forms_for) (g := g_forms_for) (sc := c_forms_for) T.f_forms_for rfl sc_forms_for (fun cdv A outer s H E B hK hcv hE hr => (ss_cons (ss_expr (se_call hK hcv hE (pe_call (ok_need_samples T) (hr.mono (by decide)) rfl T.m_need_samples T.f_need_samples.kp T.b_need_samples .nil (L2N.passes_call (L2N.takes_of rfl rfl rfl rfl) fun _ _ _ _ h => h) (sa_cons (se_var (pv 0)) sa_nil)))) (ss_one (ss_ret (se_of_sn (sn_lc (own := [("form", 1)]) (is := [1]) rfl sc_forms_for.nd (si_seq hK (se_call0 hK hcv hE (pe_call0 (ok_all_forms T) (hr.mono (by decide)) rfl T.m_all_forms T.f_all_forms.kp T.b_all_forms .nil (L2N.passes_call (L2N.takes_of rfl rfl rfl rfl) fun _ _ _ _ h => h)))) (blkOk_by (own := [("form", 1)]) (N := n_forms_for) (sc := c_forms_for) (by decide +kernel)) (fun _ _ _ _ _ => (sg_name (pg_name (i := 1) sc_forms_for.nd rfl (Or.inl rfl)))) (fun _ _ _ _ _ => (sts_one (st_notN (se_call hK hcv rfl (pe_call (ok_rows_in T) (hr.mono (by decide)) rfl T.m_rows_in T.f_rows_in.kp T.b_rows_in .nil passN (sa_cons (se_var (pv 1)) (sa_cons (se_var (pv 0)) sa_nil))))))) (fun _ _ _ _ _ => (se_var (pv 1))) (by decide)))))))
theorem okN_forms_for (T : Tx K mg) : FnOk P w K mg base (L2N.CX P w) 4 T.a_forms_for T.d_forms_for ["samples"] (SpN K T.cv 1 FN_forms_for) :=
  fn_simN (N := n_forms_for) (g := gN_forms_for) (sc := c_forms_for) T.f_forms_for rfl sc_forms_for (fun cdv A outer s H E B hK hcv hE hr => (ss_cons (ss_expr (se_call hK hcv hE (pe_call (ok_need_samples T) (hr.mono (by decide)) rfl T.m_need_samples T.f_need_samples.kp T.b_need_samples .nil (L2N.passes_call (L2N.takes_of rfl rfl rfl rfl) fun _ _ _ _ h => h) (sa_cons (se_var (pv 0)) sa_nil)))) (ss_one (ss_rn (sn_lc (own := [("form", 1)]) (is := [1]) rfl sc_forms_for.nd (si_seq hK (se_call0 hK hcv hE (pe_call0 (ok_all_forms T) (hr.mono (by decide)) rfl T.m_all_forms T.f_all_forms.kp T.b_all_forms .nil (L2N.passes_call (L2N.takes_of rfl rfl rfl rfl) fun _ _ _ _ h => h)))) (blkOk_by (own := [("form", 1)]) (N := n_forms_for) (sc := c_forms_for) (by decide +kernel)) (fun _ _ _ _ _ => (sg_name (pg_name (i := 1) sc_forms_for.nd rfl (Or.inl rfl)))) (fun _ _ _ _ _ => (sts_one (st_notN (se_call hK hcv rfl (pe_call (ok_rows_in T) (hr.mono (by decide)) rfl T.m_rows_in T.f_rows_in.kp T.b_rows_in .nil passN (sa_cons (se_var (pv 1)) (sa_cons (se_var (pv 0)) sa_nil))))))) (fun _ _ _ _ _ => (se_var (pv 1))) (by decide))))))

theorem ok_paces (T : Tx K mg) : FnOk P w K mg base (L2N.CX P w) 5 T.a_paces T.d_paces ["samples"] (SpF K T.cv 1 F_paces) :=
  fn_sim (N := n_paces) (g := g_paces) (sc := c_paces) T.f_paces rfl sc_paces (fun cdv A outer s H E B hK hcv hE hr => (ss_one (ss_ret (se_sortSet hK rfl (by rfl) T.n_sorted (by rfl) T.n_set (se_of_sn (sn_lc (own := [("form", 1)]) (is := [1]) rfl sc_paces.nd (si_seq hK (se_call hK hcv hE (pe_call (ok_forms_for T) (hr.mono (by decide)) rfl T.m_forms_for T.f_forms_for.kp T.b_forms_for .nil (L2N.passes_call (L2N.takes_of rfl rfl rfl rfl) fun _ _ _ _ h => h) (sa_cons (se_var (pv 0)) sa_nil)))) (blkOk_by (own := [("form", 1)]) (N := n_paces) (sc := c_paces) (by decide +kernel)) (fun _ _ _ _ _ => (sg_name (pg_name (i := 1) sc_paces.nd rfl (Or.inl rfl)))) (fun _ _ _ _ _ => sts_nil) (fun _ _ _ _ _ => (se_ix hK (sb_of (se_var (pv 1))) (sb_of se_int) (fun _ _ => rfl))) (by decide)))))))
theorem okN_paces (T : Tx K mg) : FnOk P w K mg base (L2N.CX P w) 5 T.a_paces T.d_paces ["samples"] (SpN K T.cv 1 FN_paces) :=
  fn_simN (N := n_paces) (g := gN_paces) (sc := c_paces) T.f_paces rfl sc_paces (fun cdv A outer s H E B hK hcv hE hr => (ss_one (ss_rn (sn_sortSet hK rfl (by rfl) T.n_sorted (by rfl) T.n_set (se_of_sn (sn_lc (own := [("form", 1)]) (is := [1]) rfl sc_paces.nd (si_seq hK (se_call hK hcv hE (pe_call (ok_forms_for T) (hr.mono (by decide)) rfl T.m_forms_for T.f_forms_for.kp T.b_forms_for .nil (L2N.passes_call (L2N.takes_of rfl rfl rfl rfl) fun _ _ _ _ h => h) (sa_cons (se_var (pv 0)) sa_nil)))) (blkOk_by (own := [("form", 1)]) (N := n_paces) (sc := c_paces) (by decide +kernel)) (fun _ _ _ _ _ => (sg_name (pg_name (i := 1) sc_paces.nd rfl (Or.inl rfl)))) (fun _ _ _ _ _ => sts_nil) (fun _ _ _ _ _ => (se_ix hK (sb_of (se_var (pv 1))) (sb_of se_int) (fun _ _ => rfl))) (by decide)))))))

theorem ok_falls (T : Tx K mg) : FnOk P w K mg base (L2N.CX P w) 2 T.a_falls T.d_falls ["samples"] (SpF K T.cv 1 F_falls) :=
  fn_sim (N := n_falls) (g := g_falls) (sc := c_falls) T.f_falls rfl sc_falls (fun cdv A outer s H E B hK hcv hE hr => (ss_cons (ss_expr (se_call hK hcv hE (pe_call (ok_need_samples T) (hr.mono (by decide)) rfl T.m_need_samples T.f_need_samples.kp T.b_need_samples .nil (L2N.passes_call (L2N.takes_of rfl rfl rfl rfl) fun _ _ _ _ h => h) (sa_cons (se_var (pv 0)) sa_nil)))) (ss_one (ss_ret (se_of_sn (sn_lc (own := [("at", 1)]) (is := [1]) rfl sc_falls.nd (si_range1 rfl T.n_range (sr_cons (se_callB (calld_len hK) (by rfl) T.n_len (by decide +kernel) (sbs_cons (sb_of (se_var (pv 0))) sbs_nil)) sr_nil)) (blkOk_by (own := [("at", 1)]) (N := n_falls) (sc := c_falls) (by decide +kernel)) (fun _ _ _ _ _ => (sg_name (pg_name (i := 1) sc_falls.nd rfl (Or.inl rfl)))) (fun _ _ _ _ _ => (sts_one (st_of (sw_and (st_cmp (opd_eq hK hr.units) (sb_of (se_ix hK (sb_of (se_var (pv 0))) (sb_of (se_var (pv 1))) (fun _ _ => rfl))) (sb_of se_str) (nomark _)) (sw_and1 (st_of (sw_or (st_cmp (opd_eq hK hr.units) (sb_of (se_var (pv 1))) (sb_of se_int) (nomark _)) (sw_or1 (st_cmp (opd_eq hK hr.units) (sb_of (se_ix hK (sb_of (se_var (pv 0))) (sb_of (se_op opd_sub (sb_of (se_var (pv 1))) (sb_of se_int))) (fun _ _ => rfl))) (sb_of se_str) (nomark _)))))))))) (fun _ _ _ _ _ => (se_var (pv 1))) (by decide)))))))
theorem okN_falls (T : Tx K mg) : FnOk P w K mg base (L2N.CX P w) 2 T.a_falls T.d_falls ["samples"] (SpN K T.cv 1 FN_falls) :=
  fn_simN (N := n_falls) (g := gN_falls) (sc := c_falls) T.f_falls rfl sc_falls (fun cdv A outer s H E B hK hcv hE hr => (ss_cons (ss_expr (se_call hK hcv hE (pe_call (ok_need_samples T) (hr.mono (by decide)) rfl T.m_need_samples T.f_need_samples.kp T.b_need_samples .nil (L2N.passes_call (L2N.takes_of rfl rfl rfl rfl) fun _ _ _ _ h => h) (sa_cons (se_var (pv 0)) sa_nil)))) (ss_one (ss_rn (sn_lc (own := [("at", 1)]) (is := [1]) rfl sc_falls.nd (si_range1 rfl T.n_range (sr_cons (se_callB (calld_len hK) (by rfl) T.n_len (by decide +kernel) (sbs_cons (sb_of (se_var (pv 0))) sbs_nil)) sr_nil)) (blkOk_by (own := [("at", 1)]) (N := n_falls) (sc := c_falls) (by decide +kernel)) (fun _ _ _ _ _ => (sg_name (pg_name (i := 1) sc_falls.nd rfl (Or.inl rfl)))) (fun _ _ _ _ _ => (sts_one (st_of (sw_and (st_cmp (opd_eq hK hr.units) (sb_of (se_ix hK (sb_of (se_var (pv 0))) (sb_of (se_var (pv 1))) (fun _ _ => rfl))) (sb_of se_str) (nomark _)) (sw_and1 (st_of (sw_or (st_cmp (opd_eq hK hr.units) (sb_of (se_var (pv 1))) (sb_of se_int) (nomark _)) (sw_or1 (st_cmp (opd_eq hK hr.units) (sb_of (se_ix hK (sb_of (se_var (pv 0))) (sb_of (se_op opd_sub (sb_of (se_var (pv 1))) (sb_of se_int))) (fun _ _ => rfl))) (sb_of se_str) (nomark _)))))))))) (fun _ _ _ _ _ => (se_var (pv 1))) (by decide))))))

theorem ok_is_form (T : Tx K mg) : FnOk P w K mg base (L2N.CX P w) 2 T.a_is_form T.d_is_form ["thing"] (SpF K T.cv 1 F_is_form) :=
  fn_sim (N := n_is_form) (g := g_is_form) (sc := c_is_form) T.f_is_form rfl sc_is_form (fun cdv A outer s H E B hK hcv hE hr => (ss_cons (ss_if (st_of (sw_or (st_not (st_val (se_isi hK isi_tuple rfl T.n_isinstance rfl T.n_tuple (by decide +kernel) (sb_of (se_var (pv 0)))))) (sw_or (st_cmp (opd_ne hK hr.units) (sb_of (se_callB (calld_len hK) (by rfl) T.n_len (by decide +kernel) (sbs_cons (sb_of (se_var (pv 0))) sbs_nil))) (sb_of se_int) (nomark _)) (sw_or1 (st_not (st_val (se_call hK hcv hE (pe_call (ok_is_whole T) (hr.mono (by decide)) rfl T.m_is_whole T.f_is_whole.kp T.b_is_whole .nil (L2N.passes_call (L2N.takes_of rfl rfl rfl rfl) fun _ _ _ _ h => h) (sa_cons (se_ix hK (sb_of (se_var (pv 0))) (sb_of se_int) (fun _ _ => rfl)) (sa_cons se_int (sa_cons (se_c (v := .int 6) (pe_glob (by rfl) T.m_PACE.choose_spec ⟨_, rfl⟩) fun _ _ => .int _) sa_nil))))))))))) (ss_one (ss_ret se_bl)) ss_nil) (ss_cons (ss_if (st_of (sw_or (st_not (st_val (se_call hK hcv hE (pe_call (ok_is_whole T) (hr.mono (by decide)) rfl T.m_is_whole T.f_is_whole.kp T.b_is_whole .nil (L2N.passes_call (L2N.takes_of rfl rfl rfl rfl) fun _ _ _ _ h => h) (sa_cons (se_ix hK (sb_of (se_var (pv 0))) (sb_of se_int) (fun _ _ => rfl)) (sa_cons (se_c (v := .int 4) (pe_glob (by rfl) T.m_LEAST.choose_spec ⟨_, rfl⟩) fun _ _ => .int _) (sa_cons (se_c (v := .int 6) (pe_glob (by rfl) T.m_MOST.choose_spec ⟨_, rfl⟩) fun _ _ => .int _) sa_nil))))))) (sw_or1 (st_not (st_val (se_call hK hcv hE (pe_call (ok_is_one_of T) (hr.mono (by decide)) rfl T.m_is_one_of T.f_is_one_of.kp T.b_is_one_of .nil (L2N.passes_call (L2N.takes_of rfl rfl rfl rfl) fun _ _ _ _ h => h) (sa_cons (se_ix hK (sb_of (se_var (pv 0))) (sb_of se_int) (fun _ _ => rfl)) (sa_cons (se_c (v := .ref T.a_ORDERS) (d := .tuple [.str "low", .str "high"]) (pe_glob (by rfl) T.m_ORDERS rfl) fun _ _ => .tup (.inr (hK ▸ T.k_ORDERS)) (.cons (.str _) (.cons (.str _) .nil))) sa_nil))))))))) (ss_one (ss_ret se_bl)) ss_nil) (ss_one (ss_ret (se_and (se_call hK hcv hE (pe_call (ok_is_one_of T) (hr.mono (by decide)) rfl T.m_is_one_of T.f_is_one_of.kp T.b_is_one_of .nil (L2N.passes_call (L2N.takes_of rfl rfl rfl rfl) fun _ _ _ _ h => h) (sa_cons (se_ix hK (sb_of (se_var (pv 0))) (sb_of se_int) (fun _ _ => rfl)) (sa_cons (se_c (v := .ref T.a_PARITIES) (d := .tuple [.str "none", .str "even", .str "odd"]) (pe_glob (by rfl) T.m_PARITIES rfl) fun _ _ => .tup (.inr (hK ▸ T.k_PARITIES)) (.cons (.str _) (.cons (.str _) (.cons (.str _) .nil)))) sa_nil)))) (se_one (se_call hK hcv hE (pe_call (ok_is_whole T) (hr.mono (by decide)) rfl T.m_is_whole T.f_is_whole.kp T.b_is_whole .nil (L2N.passes_call (L2N.takes_of rfl rfl rfl rfl) fun _ _ _ _ h => h) (sa_cons (se_ix hK (sb_of (se_var (pv 0))) (sb_of se_int) (fun _ _ => rfl)) (sa_cons se_int (sa_cons se_int sa_nil))))))))))))

theorem ok_need_form (T : Tx K mg) : FnOk P w K mg base (L2N.CX P w) 3 T.a_need_form T.d_need_form ["thing"] (SpF K T.cv 1 F_need_form) :=
  fn_sim (N := n_need_form) (g := g_need_form) (sc := c_need_form) T.f_need_form rfl sc_need_form (fun cdv A outer s H E B hK hcv hE hr => (ss_one (ss_if (st_not (st_val (se_call hK hcv hE (pe_call (ok_is_form T) (hr.mono (by decide)) rfl T.m_is_form T.f_is_form.kp T.b_is_form .nil (L2N.passes_call (L2N.takes_of rfl rfl rfl rfl) fun _ _ _ _ h => h) (sa_cons (se_var (pv 0)) sa_nil))))) (ss_one (ss_raiseC (C := T.c_NoForm) (by rw [hcv]; rfl) rfl hE (L2N.takes_of rfl rfl rfl rfl) T.x_NoForm T.g_NoForm T.k_NoForm T.s_NoForm T.t_NoForm (by rfl))) ss_nil)))

theorem ok_L___init__ (T : Tx K mg) : FnOk P w K mg base (L2N.CX P w) 4 T.a_L___init__ T.d_L___init__ ["self", "form"] (spNew K T.cv T.c_Listener F_need_form) :=
  init_sim (sc := c_L___init__) T.f_L___init__ rfl sc_L___init__ T.cls T.na_form T.na_tick T.na_bits T.na_told T.na_past (fun cdv A outer s H E hr => pss_cons (ps_expr (pe_call (ok_need_form T) (hr.mono (by decide)) rfl T.m_need_form T.f_need_form.kp T.b_need_form .nil (L2N.passes_call (L2N.takes_of rfl rfl rfl rfl) fun _ _ _ _ h => h) (pa_cons (pv 1) pa_nil))) (pss_cons (ps_fld (pv 0) (pv 1) rfl) (pss_cons (ps_fld (pv 0) pe_non rfl) (pss_cons (ps_fld (pv 0) (pe_tupZ pa_nil) rfl) (pss_cons (ps_fld (pv 0) (pe_tupZ pa_nil) rfl) (pss_one (ps_fld (pv 0) (pe_lst pa_nil) rfl)))))))

theorem ok_L_ended (T : Tx K mg) : FnOk P w K mg base (L2N.CX P w) 2 T.a_L_ended T.d_L_ended ["self"] (SpF K T.cv 1 F_L_ended) :=
  fn_sim (N := n_L_ended) (g := g_L_ended) (sc := c_L_ended) T.f_L_ended rfl sc_L_ended (fun cdv A outer s H E B hK hcv hE hr => (ss_cons (ss_asgT (ps_asg (sb_of (se_fld (f := .form) hK (cv100 hcv rfl) T.cls T.na_form rfl (pe_fld (pv 0) rfl))) (sgb_tup (is := [1, 2, 3, 4, 5]) hK (pg_tup rfl (pgs_cons (pg_name (i := 1) sc_L_ended.nd rfl (Or.inl rfl)) (pgs_cons (pg_name (i := 2) sc_L_ended.nd rfl (Or.inl rfl)) (pgs_cons (pg_name (i := 3) sc_L_ended.nd rfl (Or.inl rfl)) (pgs_cons (pg_name (i := 4) sc_L_ended.nd rfl (Or.inl rfl)) (pgs_cons (pg_name (i := 5) sc_L_ended.nd rfl (Or.inl rfl)) pgs_nil)))))) (pg_lst rfl (pgs_cons (pg_name (i := 1) sc_L_ended.nd rfl (Or.inl rfl)) (pgs_cons (pg_name (i := 2) sc_L_ended.nd rfl (Or.inl rfl)) (pgs_cons (pg_name (i := 3) sc_L_ended.nd rfl (Or.inl rfl)) (pgs_cons (pg_name (i := 4) sc_L_ended.nd rfl (Or.inl rfl)) (pgs_cons (pg_name (i := 5) sc_L_ended.nd rfl (Or.inl rfl)) pgs_nil))))))))) (ss_cons (ss_if (st_cmp (opd_lt hK hr.units) (sb_of (se_callB (calld_len hK) (by rfl) T.n_len (by decide +kernel) (sbs_cons (sb_of (se_fld (f := .bits) hK (cv100 hcv rfl) T.cls T.na_bits rfl (pe_fld (pv 0) rfl))) sbs_nil))) (sb_of (se_op (opd_add hK) (sb_of (se_op (opd_add hK) (sb_of (se_op (opd_add hK) (sb_of se_int) (sb_of (se_var (pv 2))))) (sb_of (se_callTy calld_int (by rfl) T.n_int (by decide +kernel) (sbs_cons (sb_of (se_cmp (opd_ne hK hr.units) (sb_of (se_var (pv 4))) (sb_of se_str) (nomark _))) sbs_nil))))) (sb_of (se_var (pv 5))))) (nomark _)) (ss_one (ss_ret se_non)) ss_nil) (ss_cons (ss_asg (ps_set (i := 6) sc_L_ended.nd rfl (Or.inl rfl) (se_callTy (calld_list hK) (by rfl) T.n_list (by decide +kernel) (sbs_cons (sb_of (se_slice hK (sb_of (se_fld (f := .bits) hK (cv100 hcv rfl) T.cls T.na_bits rfl (pe_fld (pv 0) rfl))) (so_some se_int) (so_some (se_op (opd_add hK) (sb_of se_int) (sb_of (se_var (pv 2))))))) sbs_nil)))) (ss_cons (ss_asg (ps_set (i := 7) sc_L_ended.nd rfl (Or.inl rfl) (se_and (se_cmp (opd_eq hK hr.units) (sb_of (se_ix hK (sb_of (se_fld (f := .bits) hK (cv100 hcv rfl) T.cls T.na_bits rfl (pe_fld (pv 0) rfl))) (sb_of se_int) (fun _ _ => rfl))) (sb_of se_int) (nomark _)) (se_one (se_cmp (opd_eq hK hr.units) (sb_of (se_callTy (calld_list hK) (by rfl) T.n_list (by decide +kernel) (sbs_cons (sb_of (se_slice hK (sb_of (se_fld (f := .bits) hK (cv100 hcv rfl) T.cls T.na_bits rfl (pe_fld (pv 0) rfl))) (so_some (se_op (opd_add hK) (sb_of se_int) (sb_of (se_var (pv 2))))) so_none)) sbs_nil))) (sb_of (se_op (opd_add hK) (sb_of (se_call hK hcv hE (pe_call (ok_parity_of T) (hr.mono (by decide)) rfl T.m_parity_of T.f_parity_of.kp T.b_parity_of .nil (L2N.passes_call (L2N.takes_of rfl rfl rfl rfl) fun _ _ _ _ h => h) (sa_cons (se_fld (f := .form) hK (cv100 hcv rfl) T.cls T.na_form rfl (pe_fld (pv 0) rfl)) (sa_cons (se_var (pv 6)) sa_nil))))) (sb_of (se_op (opd_mul hK) (sb_of (se_lst (sr_cons se_int sr_nil))) (sb_of (se_var (pv 5))))))) (nomark _)))))) (ss_cons (ss_asg (ps_set (i := 8) sc_L_ended.nd rfl (Or.inl rfl) (se_if (st_val (se_var (pv 7))) (se_call hK hcv hE (pe_call (ok_word_of T) (hr.mono (by decide)) rfl T.m_word_of T.f_word_of.kp T.b_word_of .nil (L2N.passes_call (L2N.takes_of rfl rfl rfl rfl) fun _ _ _ _ h => h) (sa_cons (se_fld (f := .form) hK (cv100 hcv rfl) T.cls T.na_form rfl (pe_fld (pv 0) rfl)) (sa_cons (se_var (pv 6)) sa_nil)))) se_non))) (ss_cons (ss_setF (f := .told) hK (cv100 hcv rfl) T.cls T.na_told rfl (ps_fld (pv 0) (se_op (opd_add hK) (sb_of (se_fld (f := .told) hK (cv100 hcv rfl) T.cls T.na_told rfl (pe_fld (pv 0) rfl))) (sb_of (se_tup (sr_cons (se_var (pv 8)) sr_nil)))) rfl)) (ss_cons (ss_setF (f := .tick) hK (cv100 hcv rfl) T.cls T.na_tick rfl (ps_fld (pv 0) se_non rfl)) (ss_cons (ss_setF (f := .bits) hK (cv100 hcv rfl) T.cls T.na_bits rfl (ps_fld (pv 0) (se_tup sr_nil) rfl)) (ss_one (ss_ret (se_if (st_val (se_var (pv 7))) (se_tup (sr_cons se_str (sr_cons (se_var (pv 8)) sr_nil))) (se_tup (sr_cons se_str sr_nil))))))))))))))

theorem ok_L_hear (T : Tx K mg) : FnOk P w K mg base (L2N.CX P w) 3 T.a_L_hear T.d_L_hear ["self", "sample"] (SpF K T.cv 2 F_L_hear) :=
  fn_sim (N := n_L_hear) (g := g_L_hear) (sc := c_L_hear) T.f_L_hear rfl sc_L_hear (fun cdv A outer s H E B hK hcv hE hr => (ss_cons (ss_if (st_of (sw_or (st_not (st_val (se_isi hK isi_str rfl T.n_isinstance rfl T.n_str (by decide +kernel) (sb_of (se_var (pv 1)))))) (sw_or1 (st_cmp (opd_notIn hK hr.units) (sb_of (se_var (pv 1))) (sb_of (se_tup (sr_cons se_str (sr_cons se_str sr_nil)))) rfl)))) (ss_one (ss_raiseC (C := T.c_NoSamples) (by rw [hcv]; rfl) rfl hE (L2N.takes_of rfl rfl rfl rfl) T.x_NoSamples T.g_NoSamples T.k_NoSamples T.s_NoSamples T.t_NoSamples (by rfl))) ss_nil) (ss_cons (ss_past hK (cv100 hcv rfl) T.cls T.na_past (ps_expr (pe_bm PySem.F.plainAttrs_list PySem.F.slot_list_append PySem.F.type_list_append mt_append (pe_fld (pv 0) rfl) (pa_cons (se_tup (sr_cons (se_fld (f := .tick) hK (cv100 hcv rfl) T.cls T.na_tick rfl (pe_fld (pv 0) rfl)) (sr_cons (se_fld (f := .bits) hK (cv100 hcv rfl) T.cls T.na_bits rfl (pe_fld (pv 0) rfl)) (sr_cons (se_fld (f := .told) hK (cv100 hcv rfl) T.cls T.na_told rfl (pe_fld (pv 0) rfl)) (sr_cons (se_var (pv 1)) sr_nil))))) pa_nil)))) (ss_cons (ss_if (st_of (sw_and (st_isN (se_fld (f := .tick) hK (cv100 hcv rfl) T.cls T.na_tick rfl (pe_fld (pv 0) rfl))) (sw_and1 (st_cmp (opd_eq hK hr.units) (sb_of (se_var (pv 1))) (sb_of se_str) (nomark _))))) (ss_one (ss_ret se_non)) ss_nil) (ss_cons (ss_if (st_isN (se_fld (f := .tick) hK (cv100 hcv rfl) T.cls T.na_tick rfl (pe_fld (pv 0) rfl))) (ss_one (ss_setF (f := .tick) hK (cv100 hcv rfl) T.cls T.na_tick rfl (ps_fld (pv 0) se_int rfl))) ss_nil) (ss_cons (ss_asg (ps_set (i := 2) sc_L_hear.nd rfl (Or.inl rfl) (se_ix hK (sb_of (se_fld (f := .form) hK (cv100 hcv rfl) T.cls T.na_form rfl (pe_fld (pv 0) rfl))) (sb_of se_int) (fun _ _ => rfl)))) (ss_cons (ss_if (st_cmp (opd_eq hK hr.units) (sb_of (se_op opd_mod (sb_of (se_fld (f := .tick) hK (cv100 hcv rfl) T.cls T.na_tick rfl (pe_fld (pv 0) rfl))) (sb_of (se_var (pv 2))))) (sb_of (se_op opd_fdiv (sb_of (se_var (pv 2))) (sb_of se_int))) (nomark _)) (ss_one (ss_setF (f := .bits) hK (cv100 hcv rfl) T.cls T.na_bits rfl (ps_fld (pv 0) (se_op (opd_add hK) (sb_of (se_fld (f := .bits) hK (cv100 hcv rfl) T.cls T.na_bits rfl (pe_fld (pv 0) rfl))) (sb_of (se_tup (sr_cons (se_callTy calld_int (by rfl) T.n_int (by decide +kernel) (sbs_cons (sb_of (se_var (pv 1))) sbs_nil)) sr_nil)))) rfl))) ss_nil) (ss_cons (ss_setF (f := .tick) hK (cv100 hcv rfl) T.cls T.na_tick rfl (ps_fld (pv 0) (se_op (opd_add hK) (sb_of (se_fld (f := .tick) hK (cv100 hcv rfl) T.cls T.na_tick rfl (pe_fld (pv 0) rfl))) (sb_of se_int)) rfl)) (ss_one (ss_ret (se_methL0 hK hcv hE rfl (fun _ _ _ _ _ => rfl) (pe_meth0 (pv 0) T.cls T.me_L_ended (ok_L_ended T) (hr.mono (by decide)) T.b_L_ended .nil (L2N.passes_call (L2N.takes_of rfl rfl rfl rfl) fun _ _ _ _ h => h)))))))))))))

theorem ok_heard_of (T : Tx K mg) : FnOk P w K mg base (L2N.CX P w) 6 T.a_heard_of T.d_heard_of ["form", "samples"] (SpF K T.cv 2 F_heard_of) :=
  fn_sim (N := n_heard_of) (g := g_heard_of) (sc := c_heard_of) T.f_heard_of rfl sc_heard_of (fun cdv A outer s H E B hK hcv hE hr => (ss_new (i := 2) hK hcv hE rfl (ps_set (i := 2) sc_heard_of.nd rfl (Or.inl rfl) (pe_make T.mkL (ok_L___init__ T) (hr.mono (by decide)) rfl T.g_Listener T.b_L___init__ .nil (L2N.passes_call (L2N.takes_of rfl rfl rfl rfl) fun _ _ _ _ h => h) (pa_cons (se_var (pv 0)) pa_nil))) (fun B hK hcv hE => (ss_cons (ss_asgN (ps_set (i := 3) sc_heard_of.nd rfl (Or.inl rfl) (sn_lst sr_nil))) (ss_cons (ss_for (is := [4, 5]) (passes_of rfl) rfl (si_enumS hK rfl T.n_enumerate (sr_cons (se_var (pv 1)) sr_nil)) (sgz_tup (is := [4, 5]) hK (pg_tup rfl (pgs_cons (pg_name (i := 4) sc_heard_of.nd rfl (Or.inl rfl)) (pgs_cons (pg_name (i := 5) sc_heard_of.nd rfl (Or.inl rfl)) pgs_nil)))) (ss_cons (ss_asg (ps_set (i := 6) sc_heard_of.nd rfl (Or.inl rfl) (se_methL hK hcv hE rfl (fun _ _ _ _ _ => rfl) (pe_meth (pv 2) T.cls T.me_L_hear (ok_L_hear T) (hr.mono (by decide)) T.b_L_hear .nil (L2N.passes_call (L2N.takes_of rfl rfl rfl rfl) fun _ _ _ _ h => h) (sa_cons (se_var (pv 5)) sa_nil))))) (ss_one (ss_if (st_notN (se_var (pv 6))) (ss_one (ss_app (ps_expr (pe_bm PySem.F.plainAttrs_list PySem.F.slot_list_append PySem.F.type_list_append mt_append (pv 3) (pa_cons (se_tup (sr_cons (se_var (pv 4)) (sr_cons (se_if (st_cmp (opd_eq hK hr.units) (sb_of (se_ix hK (sb_of (se_var (pv 6))) (sb_of se_int) (fun _ _ => rfl))) (sb_of se_str) (nomark _)) (se_ix hK (sb_of (se_var (pv 6))) (sb_of se_int) (fun _ _ => rfl)) se_non) sr_nil))) pa_nil))))) ss_nil)))) (ss_freeze (i := 3) (ss_one (ss_ret (se_var (pv 3))))))))))
theorem okN_heard_of (T : Tx K mg) : FnOk P w K mg base (L2N.CX P w) 6 T.a_heard_of T.d_heard_of ["form", "samples"] (SpN K T.cv 2 FN_heard_of) :=
  fn_simN (N := n_heard_of) (g := gN_heard_of) (sc := c_heard_of) T.f_heard_of rfl sc_heard_of (fun cdv A outer s H E B hK hcv hE hr => (ss_new (i := 2) hK hcv hE rfl (ps_set (i := 2) sc_heard_of.nd rfl (Or.inl rfl) (pe_make T.mkL (ok_L___init__ T) (hr.mono (by decide)) rfl T.g_Listener T.b_L___init__ .nil (L2N.passes_call (L2N.takes_of rfl rfl rfl rfl) fun _ _ _ _ h => h) (pa_cons (se_var (pv 0)) pa_nil))) (fun B hK hcv hE => (ss_cons (ss_asgN (ps_set (i := 3) sc_heard_of.nd rfl (Or.inl rfl) (sn_lst sr_nil))) (ss_cons (ss_for (is := [4, 5]) (passes_of rfl) rfl (si_enumS hK rfl T.n_enumerate (sr_cons (se_var (pv 1)) sr_nil)) (sgz_tup (is := [4, 5]) hK (pg_tup rfl (pgs_cons (pg_name (i := 4) sc_heard_of.nd rfl (Or.inl rfl)) (pgs_cons (pg_name (i := 5) sc_heard_of.nd rfl (Or.inl rfl)) pgs_nil)))) (ss_cons (ss_asg (ps_set (i := 6) sc_heard_of.nd rfl (Or.inl rfl) (se_methL hK hcv hE rfl (fun _ _ _ _ _ => rfl) (pe_meth (pv 2) T.cls T.me_L_hear (ok_L_hear T) (hr.mono (by decide)) T.b_L_hear .nil (L2N.passes_call (L2N.takes_of rfl rfl rfl rfl) fun _ _ _ _ h => h) (sa_cons (se_var (pv 5)) sa_nil))))) (ss_one (ss_if (st_notN (se_var (pv 6))) (ss_one (ss_app (ps_expr (pe_bm PySem.F.plainAttrs_list PySem.F.slot_list_append PySem.F.type_list_append mt_append (pv 3) (pa_cons (se_tup (sr_cons (se_var (pv 4)) (sr_cons (se_if (st_cmp (opd_eq hK hr.units) (sb_of (se_ix hK (sb_of (se_var (pv 6))) (sb_of se_int) (fun _ _ => rfl))) (sb_of se_str) (nomark _)) (se_ix hK (sb_of (se_var (pv 6))) (sb_of se_int) (fun _ _ => rfl)) se_non) sr_nil))) pa_nil))))) ss_nil)))) (ss_one (ss_rnOwn (pv 3))))))))

theorem ok_heard (T : Tx K mg) : FnOk P w K mg base (L2N.CX P w) 7 T.a_heard T.d_heard ["form", "samples"] (SpF K T.cv 2 F_heard) :=
  fn_sim (N := n_heard) (g := g_heard) (sc := c_heard) T.f_heard rfl sc_heard (fun cdv A outer s H E B hK hcv hE hr => (ss_cons (ss_expr (se_call hK hcv hE (pe_call (ok_need_form T) (hr.mono (by decide)) rfl T.m_need_form T.f_need_form.kp T.b_need_form .nil (L2N.passes_call (L2N.takes_of rfl rfl rfl rfl) fun _ _ _ _ h => h) (sa_cons (se_var (pv 0)) sa_nil)))) (ss_cons (ss_expr (se_call hK hcv hE (pe_call (ok_need_samples T) (hr.mono (by decide)) rfl T.m_need_samples T.f_need_samples.kp T.b_need_samples .nil (L2N.passes_call (L2N.takes_of rfl rfl rfl rfl) fun _ _ _ _ h => h) (sa_cons (se_var (pv 1)) sa_nil)))) (ss_one (ss_ret (se_call hK hcv hE (pe_call (ok_heard_of T) (hr.mono (by decide)) rfl T.m_heard_of T.f_heard_of.kp T.b_heard_of .nil (L2N.passes_call (L2N.takes_of rfl rfl rfl rfl) fun _ _ _ _ h => h) (sa_cons (se_var (pv 0)) (sa_cons (se_var (pv 1)) sa_nil)))))))))
theorem okN_heard (T : Tx K mg) : FnOk P w K mg base (L2N.CX P w) 7 T.a_heard T.d_heard ["form", "samples"] (SpN K T.cv 2 FN_heard) :=
  fn_simN (N := n_heard) (g := gN_heard) (sc := c_heard) T.f_heard rfl sc_heard (fun cdv A outer s H E B hK hcv hE hr => (ss_cons (ss_expr (se_call hK hcv hE (pe_call (ok_need_form T) (hr.mono (by decide)) rfl T.m_need_form T.f_need_form.kp T.b_need_form .nil (L2N.passes_call (L2N.takes_of rfl rfl rfl rfl) fun _ _ _ _ h => h) (sa_cons (se_var (pv 0)) sa_nil)))) (ss_cons (ss_expr (se_call hK hcv hE (pe_call (ok_need_samples T) (hr.mono (by decide)) rfl T.m_need_samples T.f_need_samples.kp T.b_need_samples .nil (L2N.passes_call (L2N.takes_of rfl rfl rfl rfl) fun _ _ _ _ h => h) (sa_cons (se_var (pv 1)) sa_nil)))) (ss_one (ss_rn (sn_call hK hcv hE (pe_call (okN_heard_of T) (hr.mono (by decide)) rfl T.m_heard_of T.f_heard_of.kp T.b_heard_of .nil (L2N.passes_call (L2N.takes_of rfl rfl rfl rfl) fun _ _ _ _ h => h) (sa_cons (se_var (pv 0)) (sa_cons (se_var (pv 1)) sa_nil)))))))))

theorem ok_heard_again (T : Tx K mg) : FnOk P w K mg base (L2N.CX P w) 7 T.a_heard_again T.d_heard_again ["form", "rows", "spoilt"] (SpF K T.cv 3 F_heard_again) :=
  fn_sim (N := n_heard_again) (g := g_heard_again) (sc := c_heard_again) T.f_heard_again rfl sc_heard_again (fun cdv A outer s H E B hK hcv hE hr => (ss_cons (ss_asg (ps_set (i := 3) sc_heard_again.nd rfl (Or.inl rfl) (se_meth ty_str (pe_bm PySem.F.plainAttrs_str PySem.F.slot_str_join PySem.F.type_str_join mtd_join (sb_of se_str) (sbs_cons (sb_of (se_of_sn (sn_lc (own := [("at", 4)]) (is := [4]) rfl sc_heard_again.nd (si_range1 rfl T.n_range (sr_cons (se_callB (calld_len hK) (by rfl) T.n_len (by decide +kernel) (sbs_cons (sb_of (se_var (pv 1))) sbs_nil)) sr_nil)) (blkOk_by (own := [("at", 4)]) (N := n_heard_again) (sc := c_heard_again) (by decide +kernel)) (fun _ _ _ _ _ => (sg_name (pg_name (i := 4) sc_heard_again.nd rfl (Or.inl rfl)))) (fun _ _ _ _ _ => sts_nil) (fun _ _ _ _ _ => (se_if (st_cmp (opd_notIn hK hr.units) (sb_of (se_var (pv 4))) (sb_of (se_var (pv 2))) rfl) (se_ix hK (sb_of (se_var (pv 1))) (sb_of (se_var (pv 4))) (fun _ _ => rfl)) (se_ix hK (sb_of se_str) (sb_of (se_callTy calld_int (by rfl) T.n_int (by decide +kernel) (sbs_cons (sb_of (se_ix hK (sb_of (se_var (pv 1))) (sb_of (se_var (pv 4))) (fun _ _ => rfl))) sbs_nil))) (fun _ _ => rfl)))) (by decide)))) sbs_nil))))) (ss_one (ss_ret (se_call hK hcv hE (pe_call (ok_heard_of T) (hr.mono (by decide)) rfl T.m_heard_of T.f_heard_of.kp T.b_heard_of .nil (L2N.passes_call (L2N.takes_of rfl rfl rfl rfl) fun _ _ _ _ h => h) (sa_cons (se_var (pv 0)) (sa_cons (se_var (pv 3)) sa_nil))))))))

theorem ok_faulty_ticks (T : Tx K mg) : FnOk P w K mg base (L2N.CX P w) 8 T.a_faulty_ticks T.d_faulty_ticks ["form", "samples"] (SpF K T.cv 2 F_faulty_ticks) :=
  fn_sim (N := n_faulty_ticks) (g := g_faulty_ticks) (sc := c_faulty_ticks) T.f_faulty_ticks rfl sc_faulty_ticks (fun cdv A outer s H E B hK hcv hE hr => (ss_cons (ss_expr (se_call hK hcv hE (pe_call (ok_need_form T) (hr.mono (by decide)) rfl T.m_need_form T.f_need_form.kp T.b_need_form .nil (L2N.passes_call (L2N.takes_of rfl rfl rfl rfl) fun _ _ _ _ h => h) (sa_cons (se_var (pv 0)) sa_nil)))) (ss_cons (ss_expr (se_call hK hcv hE (pe_call (ok_need_samples T) (hr.mono (by decide)) rfl T.m_need_samples T.f_need_samples.kp T.b_need_samples .nil (L2N.passes_call (L2N.takes_of rfl rfl rfl rfl) fun _ _ _ _ h => h) (sa_cons (se_var (pv 1)) sa_nil)))) (ss_cons (ss_asg (ps_set (i := 2) sc_faulty_ticks.nd rfl (Or.inr rfl) (se_call hK hcv hE (pe_call (ok_heard_of T) (hr.mono (by decide)) rfl T.m_heard_of T.f_heard_of.kp T.b_heard_of .nil (L2N.passes_call (L2N.takes_of rfl rfl rfl rfl) fun _ _ _ _ h => h) (sa_cons (se_var (pv 0)) (sa_cons (se_var (pv 1)) sa_nil)))))) (ss_one (ss_ret (se_of_sn (sn_lc (own := [("at", 3)]) (is := [3]) rfl sc_faulty_ticks.nd (si_range1 rfl T.n_range (sr_cons (se_callB (calld_len hK) (by rfl) T.n_len (by decide +kernel) (sbs_cons (sb_of (se_var (pv 1))) sbs_nil)) sr_nil)) (blkOk_by (own := [("at", 3)]) (N := n_faulty_ticks) (sc := c_faulty_ticks) (by decide +kernel)) (fun _ _ _ _ _ => (sg_name (pg_name (i := 3) sc_faulty_ticks.nd rfl (Or.inl rfl)))) (fun _ _ _ _ _ => (sts_one (st_cmp (opd_ne hK hr.units) (sb_of (se_call hK hcv rfl (pe_call (ok_heard_again T) (hr.mono (by decide)) rfl T.m_heard_again T.f_heard_again.kp T.b_heard_again .nil passN (sa_cons (se_var (pv 0)) (sa_cons (se_var (pv 1)) (sa_cons (se_lst (sr_cons (se_var (pv 3)) sr_nil)) sa_nil)))))) (sb_of (se_var (pv 2))) (nomark _)))) (fun _ _ _ _ _ => (se_var (pv 3))) (by decide)))))))))
theorem okN_faulty_ticks (T : Tx K mg) : FnOk P w K mg base (L2N.CX P w) 8 T.a_faulty_ticks T.d_faulty_ticks ["form", "samples"] (SpN K T.cv 2 FN_faulty_ticks) :=
  fn_simN (N := n_faulty_ticks) (g := gN_faulty_ticks) (sc := c_faulty_ticks) T.f_faulty_ticks rfl sc_faulty_ticks (fun cdv A outer s H E B hK hcv hE hr => (ss_cons (ss_expr (se_call hK hcv hE (pe_call (ok_need_form T) (hr.mono (by decide)) rfl T.m_need_form T.f_need_form.kp T.b_need_form .nil (L2N.passes_call (L2N.takes_of rfl rfl rfl rfl) fun _ _ _ _ h => h) (sa_cons (se_var (pv 0)) sa_nil)))) (ss_cons (ss_expr (se_call hK hcv hE (pe_call (ok_need_samples T) (hr.mono (by decide)) rfl T.m_need_samples T.f_need_samples.kp T.b_need_samples .nil (L2N.passes_call (L2N.takes_of rfl rfl rfl rfl) fun _ _ _ _ h => h) (sa_cons (se_var (pv 1)) sa_nil)))) (ss_cons (ss_asg (ps_set (i := 2) sc_faulty_ticks.nd rfl (Or.inr rfl) (se_call hK hcv hE (pe_call (ok_heard_of T) (hr.mono (by decide)) rfl T.m_heard_of T.f_heard_of.kp T.b_heard_of .nil (L2N.passes_call (L2N.takes_of rfl rfl rfl rfl) fun _ _ _ _ h => h) (sa_cons (se_var (pv 0)) (sa_cons (se_var (pv 1)) sa_nil)))))) (ss_one (ss_rn (sn_lc (own := [("at", 3)]) (is := [3]) rfl sc_faulty_ticks.nd (si_range1 rfl T.n_range (sr_cons (se_callB (calld_len hK) (by rfl) T.n_len (by decide +kernel) (sbs_cons (sb_of (se_var (pv 1))) sbs_nil)) sr_nil)) (blkOk_by (own := [("at", 3)]) (N := n_faulty_ticks) (sc := c_faulty_ticks) (by decide +kernel)) (fun _ _ _ _ _ => (sg_name (pg_name (i := 3) sc_faulty_ticks.nd rfl (Or.inl rfl)))) (fun _ _ _ _ _ => (sts_one (st_cmp (opd_ne hK hr.units) (sb_of (se_call hK hcv rfl (pe_call (ok_heard_again T) (hr.mono (by decide)) rfl T.m_heard_again T.f_heard_again.kp T.b_heard_again .nil passN (sa_cons (se_var (pv 0)) (sa_cons (se_var (pv 1)) (sa_cons (se_lst (sr_cons (se_var (pv 3)) sr_nil)) sa_nil)))))) (sb_of (se_var (pv 2))) (nomark _)))) (fun _ _ _ _ _ => (se_var (pv 3))) (by decide))))))))

theorem ok__law_ask (T : Tx K mg) : FnOk P w K mg base (L2N.CX P w) 9 T.a__law_ask T.d__law_ask ["what", "form", "samples", "packets"] (SpF K T.cv 4 F__law_ask) :=
  fn_sim (N := n__law_ask) (g := g__law_ask) (sc := c__law_ask) T.f__law_ask rfl sc__law_ask (fun cdv A outer s H E B hK hcv hE hr => (ss_cons (ss_if (st_cmp (opd_eq hK hr.units) (sb_of (se_var (pv 0))) (sb_of se_int) (nomark _)) (ss_one (ss_ret (se_call hK hcv hE (pe_call (ok_runs T) (hr.mono (by decide)) rfl T.m_runs T.f_runs.kp T.b_runs .nil (L2N.passes_call (L2N.takes_of rfl rfl rfl rfl) fun _ _ _ _ h => h) (sa_cons (se_var (pv 2)) sa_nil))))) ss_nil) (ss_cons (ss_if (st_cmp (opd_eq hK hr.units) (sb_of (se_var (pv 0))) (sb_of se_int) (nomark _)) (ss_one (ss_ret (se_call hK hcv hE (pe_call (ok_paces T) (hr.mono (by decide)) rfl T.m_paces T.f_paces.kp T.b_paces .nil (L2N.passes_call (L2N.takes_of rfl rfl rfl rfl) fun _ _ _ _ h => h) (sa_cons (se_var (pv 2)) sa_nil))))) ss_nil) (ss_cons (ss_if (st_cmp (opd_eq hK hr.units) (sb_of (se_var (pv 0))) (sb_of se_int) (nomark _)) (ss_one (ss_ret (se_call hK hcv hE (pe_call (ok_falls T) (hr.mono (by decide)) rfl T.m_falls T.f_falls.kp T.b_falls .nil (L2N.passes_call (L2N.takes_of rfl rfl rfl rfl) fun _ _ _ _ h => h) (sa_cons (se_var (pv 2)) sa_nil))))) ss_nil) (ss_cons (ss_if (st_cmp (opd_eq hK hr.units) (sb_of (se_var (pv 0))) (sb_of se_int) (nomark _)) (ss_one (ss_ret (se_call hK hcv hE (pe_call (ok_heard T) (hr.mono (by decide)) rfl T.m_heard T.f_heard.kp T.b_heard .nil (L2N.passes_call (L2N.takes_of rfl rfl rfl rfl) fun _ _ _ _ h => h) (sa_cons (se_var (pv 1)) (sa_cons (se_op (opd_add hK) (sb_of (se_var (pv 2))) (sb_of (se_op (opd_mul hK) (sb_of se_str) (sb_of se_int)))) sa_nil)))))) ss_nil) (ss_cons (ss_if (st_cmp (opd_eq hK hr.units) (sb_of (se_var (pv 0))) (sb_of se_int) (nomark _)) (ss_one (ss_ret (se_call hK hcv hE (pe_call (ok_layers_of T) (hr.mono (by decide)) rfl T.m_layers_of T.f_layers_of.kp T.b_layers_of .nil (L2N.passes_call (L2N.takes_of rfl rfl rfl rfl) fun _ _ _ _ h => h) (sa_cons (se_ix hK (sb_of (se_var (pv 1))) (sb_of se_int) (fun _ _ => rfl)) (sa_cons (se_var (pv 3)) sa_nil)))))) ss_nil) (ss_one (ss_ret (se_if (st_cmp (opd_eq hK hr.units) (sb_of (se_var (pv 0))) (sb_of se_int) (nomark _)) (se_call hK hcv hE (pe_call (ok_faulty_ticks T) (hr.mono (by decide)) rfl T.m_faulty_ticks T.f_faulty_ticks.kp T.b_faulty_ticks .nil (L2N.passes_call (L2N.takes_of rfl rfl rfl rfl) fun _ _ _ _ h => h) (sa_cons (se_var (pv 1)) (sa_cons (se_var (pv 2)) sa_nil)))) (se_call hK hcv hE (pe_call (ok_forms_for T) (hr.mono (by decide)) rfl T.m_forms_for T.f_forms_for.kp T.b_forms_for .nil (L2N.passes_call (L2N.takes_of rfl rfl rfl rfl) fun _ _ _ _ h => h) (sa_cons (se_var (pv 2)) sa_nil))))))))))))
theorem okN__law_ask (T : Tx K mg) : FnOk P w K mg base (L2N.CX P w) 9 T.a__law_ask T.d__law_ask ["what", "form", "samples", "packets"] (SpN K T.cv 4 FN__law_ask) :=
  fn_simN (N := n__law_ask) (g := gN__law_ask) (sc := c__law_ask) T.f__law_ask rfl sc__law_ask (fun cdv A outer s H E B hK hcv hE hr => (ss_cons (ss_if (st_cmp (opd_eq hK hr.units) (sb_of (se_var (pv 0))) (sb_of se_int) (nomark _)) (ss_one (ss_rn (sn_call hK hcv hE (pe_call (okN_runs T) (hr.mono (by decide)) rfl T.m_runs T.f_runs.kp T.b_runs .nil (L2N.passes_call (L2N.takes_of rfl rfl rfl rfl) fun _ _ _ _ h => h) (sa_cons (se_var (pv 2)) sa_nil))))) ss_nil) (ss_cons (ss_if (st_cmp (opd_eq hK hr.units) (sb_of (se_var (pv 0))) (sb_of se_int) (nomark _)) (ss_one (ss_rn (sn_call hK hcv hE (pe_call (okN_paces T) (hr.mono (by decide)) rfl T.m_paces T.f_paces.kp T.b_paces .nil (L2N.passes_call (L2N.takes_of rfl rfl rfl rfl) fun _ _ _ _ h => h) (sa_cons (se_var (pv 2)) sa_nil))))) ss_nil) (ss_cons (ss_if (st_cmp (opd_eq hK hr.units) (sb_of (se_var (pv 0))) (sb_of se_int) (nomark _)) (ss_one (ss_rn (sn_call hK hcv hE (pe_call (okN_falls T) (hr.mono (by decide)) rfl T.m_falls T.f_falls.kp T.b_falls .nil (L2N.passes_call (L2N.takes_of rfl rfl rfl rfl) fun _ _ _ _ h => h) (sa_cons (se_var (pv 2)) sa_nil))))) ss_nil) (ss_cons (ss_if (st_cmp (opd_eq hK hr.units) (sb_of (se_var (pv 0))) (sb_of se_int) (nomark _)) (ss_one (ss_rn (sn_call hK hcv hE (pe_call (okN_heard T) (hr.mono (by decide)) rfl T.m_heard T.f_heard.kp T.b_heard .nil (L2N.passes_call (L2N.takes_of rfl rfl rfl rfl) fun _ _ _ _ h => h) (sa_cons (se_var (pv 1)) (sa_cons (se_op (opd_add hK) (sb_of (se_var (pv 2))) (sb_of (se_op (opd_mul hK) (sb_of se_str) (sb_of se_int)))) sa_nil)))))) ss_nil) (ss_cons (ss_if (st_cmp (opd_eq hK hr.units) (sb_of (se_var (pv 0))) (sb_of se_int) (nomark _)) (ss_one (ss_rn (sn_call hK hcv hE (pe_call (okN_layers_of T) (hr.mono (by decide)) rfl T.m_layers_of T.f_layers_of.kp T.b_layers_of .nil (L2N.passes_call (L2N.takes_of rfl rfl rfl rfl) fun _ _ _ _ h => h) (sa_cons (se_ix hK (sb_of (se_var (pv 1))) (sb_of se_int) (fun _ _ => rfl)) (sa_cons (se_var (pv 3)) sa_nil)))))) ss_nil) (ss_one (ss_rn (sn_if (st_cmp (opd_eq hK hr.units) (sb_of (se_var (pv 0))) (sb_of se_int) (nomark _)) (sn_call hK hcv hE (pe_call (okN_faulty_ticks T) (hr.mono (by decide)) rfl T.m_faulty_ticks T.f_faulty_ticks.kp T.b_faulty_ticks .nil (L2N.passes_call (L2N.takes_of rfl rfl rfl rfl) fun _ _ _ _ h => h) (sa_cons (se_var (pv 1)) (sa_cons (se_var (pv 2)) sa_nil)))) (sn_call hK hcv hE (pe_call (okN_forms_for T) (hr.mono (by decide)) rfl T.m_forms_for T.f_forms_for.kp T.b_forms_for .nil (L2N.passes_call (L2N.takes_of rfl rfl rfl rfl) fun _ _ _ _ h => h) (sa_cons (se_var (pv 2)) sa_nil))))))))))))

theorem ok_need_words (T : Tx K mg) : FnOk P w K mg base (L2N.CX P w) 2 T.a_need_words T.d_need_words ["bits", "thing"] (SpF K T.cv 2 F_need_words) :=
  fn_sim (N := n_need_words) (g := g_need_words) (sc := c_need_words) T.f_need_words rfl sc_need_words (fun cdv A outer s H E B hK hcv hE hr => (ss_cons (ss_if (st_not (st_val (se_call hK hcv hE (pe_call (ok_is_whole T) (hr.mono (by decide)) rfl T.m_is_whole T.f_is_whole.kp T.b_is_whole .nil (L2N.passes_call (L2N.takes_of rfl rfl rfl rfl) fun _ _ _ _ h => h) (sa_cons (se_var (pv 0)) (sa_cons (se_c (v := .int 4) (pe_glob (by rfl) T.m_LEAST.choose_spec ⟨_, rfl⟩) fun _ _ => .int _) (sa_cons (se_c (v := .int 6) (pe_glob (by rfl) T.m_MOST.choose_spec ⟨_, rfl⟩) fun _ _ => .int _) sa_nil))))))) (ss_one (ss_raiseC (C := T.c_NoForm) (by rw [hcv]; rfl) rfl hE (L2N.takes_of rfl rfl rfl rfl) T.x_NoForm T.g_NoForm T.k_NoForm T.s_NoForm T.t_NoForm (by rfl))) ss_nil) (ss_cons (ss_if (st_of (sw_or (st_not (st_val (se_isi hK isi_tuple rfl T.n_isinstance rfl T.n_tuple (by decide +kernel) (sb_of (se_var (pv 1)))))) (sw_or1 (st_not (st_chain (opd_le hK hr.units) (opd_le hK hr.units) (sb_of se_int) (sb_of (se_callB (calld_len hK) (by rfl) T.n_len (by decide +kernel) (sbs_cons (sb_of (se_var (pv 1))) sbs_nil))) (sb_of (se_c (v := .int 40) (pe_glob (by rfl) T.m_WORDS.choose_spec ⟨_, rfl⟩) fun _ _ => .int _))))))) (ss_one (ss_raiseC (C := T.c_NoWords) (by rw [hcv]; rfl) rfl hE (L2N.takes_of rfl rfl rfl rfl) T.x_NoWords T.g_NoWords T.k_NoWords T.s_NoWords T.t_NoWords (by rfl))) ss_nil) (ss_one (ss_if (st_not (st_val (se_callB (calld_all rfl) (by rfl) T.n_all (by decide +kernel) (sbs_cons (sb_of (se_of_sn (sn_lc (own := [("word", 2)]) (is := [2]) rfl sc_need_words.nd (si_seq hK (se_var (pv 1))) (blkOk_by (own := [("word", 2)]) (N := n_need_words) (sc := c_need_words) (by decide +kernel)) (fun _ _ _ _ _ => (sg_name (pg_name (i := 2) sc_need_words.nd rfl (Or.inl rfl)))) (fun _ _ _ _ _ => sts_nil) (fun _ _ _ _ _ => (se_call hK hcv rfl (pe_call (ok_is_whole T) (hr.mono (by decide)) rfl T.m_is_whole T.f_is_whole.kp T.b_is_whole .nil passN (sa_cons (se_var (pv 2)) (sa_cons se_int (sa_cons (se_call hK hcv rfl (pe_call (ok_top_of T) (hr.mono (by decide)) rfl T.m_top_of T.f_top_of.kp T.b_top_of .nil passN (sa_cons (se_var (pv 0)) sa_nil))) sa_nil)))))) (by decide)))) sbs_nil)))) (ss_one (ss_raiseC (C := T.c_NoWords) (by rw [hcv]; rfl) rfl hE (L2N.takes_of rfl rfl rfl rfl) T.x_NoWords T.g_NoWords T.k_NoWords T.s_NoWords T.t_NoWords (by rfl))) ss_nil)))))

theorem ok_layers_for (T : Tx K mg) : FnOk P w K mg base (L2N.CX P w) 4 T.a_layers_for T.d_layers_for ["bits", "words"] (SpF K T.cv 2 F_layers_for) :=
  fn_sim (N := n_layers_for) (g := g_layers_for) (sc := c_layers_for) T.f_layers_for rfl sc_layers_for (fun cdv A outer s H E B hK hcv hE hr => (ss_cons (ss_expr (se_call hK hcv hE (pe_call (ok_need_words T) (hr.mono (by decide)) rfl T.m_need_words T.f_need_words.kp T.b_need_words .nil (L2N.passes_call (L2N.takes_of rfl rfl rfl rfl) fun _ _ _ _ h => h) (sa_cons (se_var (pv 0)) (sa_cons (se_var (pv 1)) sa_nil))))) (ss_cons (ss_asgN (ps_set (i := 2) sc_layers_for.nd rfl (Or.inl rfl) (sn_cat (sb_of (se_of_sn (sn_lc (own := [("many", 5)]) (is := [5]) rfl sc_layers_for.nd (si_range2 rfl T.n_range (sr_cons se_int (sr_cons (se_op (opd_add hK) (sb_of (se_c (v := .int 9) (pe_glob (by rfl) T.m_FIXED.choose_spec ⟨_, rfl⟩) fun _ _ => .int _)) (sb_of se_int)) sr_nil))) (blkOk_by (own := [("many", 5)]) (N := n_layers_for) (sc := c_layers_for) (by decide +kernel)) (fun _ _ _ _ _ => (sg_name (pg_name (i := 5) sc_layers_for.nd rfl (Or.inl rfl)))) (fun _ _ _ _ _ => sts_nil) (fun _ _ _ _ _ => (se_tup (sr_cons se_str (sr_cons (se_var (pv 5)) sr_nil)))) (by decide)))) (sb_of (se_lst (sr_cons (se_tup (sr_cons se_str sr_nil)) sr_nil)))))) (ss_cons (ss_ext (ps_expr (pe_bm PySem.F.plainAttrs_list PySem.F.slot_list_extend PySem.F.type_list_extend mt_extendR (pv 2) (pa_cons (sb_of (se_of_sn (sn_lc (own := [("word", 6)]) (is := [6]) rfl sc_layers_for.nd (si_range1 rfl T.n_range (sr_cons (se_op (opd_add hK) (sb_of (se_call hK hcv hE (pe_call (ok_top_of T) (hr.mono (by decide)) rfl T.m_top_of T.f_top_of.kp T.b_top_of .nil (L2N.passes_call (L2N.takes_of rfl rfl rfl rfl) fun _ _ _ _ h => h) (sa_cons (se_var (pv 0)) sa_nil)))) (sb_of se_int)) sr_nil)) (blkOk_by (own := [("word", 6)]) (N := n_layers_for) (sc := c_layers_for) (by decide +kernel)) (fun _ _ _ _ _ => (sg_name (pg_name (i := 6) sc_layers_for.nd rfl (Or.inl rfl)))) (fun _ _ _ _ _ => sts_nil) (fun _ _ _ _ _ => (se_tup (sr_cons se_str (sr_cons (se_var (pv 6)) sr_nil)))) (by decide)))) pa_nil)))) (ss_cons (ss_asgN (ps_set (i := 3) sc_layers_for.nd rfl (Or.inl rfl) (sn_lst sr_nil))) (ss_freeze (i := 2) (ss_cons (ss_for (is := [4]) (passes_of rfl) rfl (si_seq hK (se_var (pv 2))) (sg_name (pg_name (i := 4) sc_layers_for.nd rfl (Or.inr rfl))) (ss_one (ss_ext (ps_expr (pe_bm PySem.F.plainAttrs_list PySem.F.slot_list_extend PySem.F.type_list_extend mt_extendR (pv 3) (pa_cons (sb_of (se_of_sn (sn_lc (own := [("check", 7)]) (is := [7]) rfl sc_layers_for.nd (si_seq hK (se_c (v := .ref T.a_CHECKS) (d := .tuple [.str "none", .str "sum", .str "xor"]) (pe_glob (by rfl) T.m_CHECKS rfl) fun _ _ => .tup (.inr (hK ▸ T.k_CHECKS)) (.cons (.str _) (.cons (.str _) (.cons (.str _) .nil))))) (blkOk_by (own := [("check", 7)]) (N := n_layers_for) (sc := c_layers_for) (by decide +kernel)) (fun _ _ _ _ _ => (sg_name (pg_name (i := 7) sc_layers_for.nd rfl (Or.inl rfl)))) (fun _ _ _ _ _ => (sts_one (st_notN (se_call hK hcv rfl (pe_call (ok_packets_in T) (hr.mono (by decide)) rfl T.m_packets_in T.f_packets_in.kp T.b_packets_in .nil passN (sa_cons (se_var (pv 0)) (sa_cons (se_var (pv 1)) (sa_cons (se_var (pv 4)) (sa_cons (se_var (pv 7)) sa_nil))))))))) (fun _ _ _ _ _ => (se_tup (sr_cons (se_var (pv 4)) (sr_cons (se_var (pv 7)) sr_nil)))) (by decide)))) pa_nil)))))) (ss_one (ss_ret (se_callB (calld_sorted hK hr.units) (by rfl) T.n_sorted (by decide +kernel) (sbs_cons (sb_var (pv 3)) sbs_nil)))))))))))

theorem ok_law (T : Tx K mg) (hlaw : ∀ ns : List Int, ns.length ≤ 63 → ∃ n, lawR 16 g_law ns = .ok (.bool true) n) : FnOk P w K mg base (L2N.CX P w) 10 T.a_law T.d_law ["script"] (spLaw K) :=
  law_sim (N := n_law) (sc := c_law) (cv := T.cv) T.f_law rfl sc_law (by decide) rfl (fun cdv A outer s H E => ps_set (i := 1) sc_law.nd rfl (Or.inl rfl) (pe_lst pa_nil))
    (fun cdv A outer s H E B hK hcv hE hr => (ss_cons (ss_asg (ps_set (i := 2) sc_law.nd rfl (Or.inl rfl) (se_call hK hcv hE (pe_call (ok__law_draw T) (hr.mono (by decide)) rfl T.m__law_draw T.f__law_draw.kp T.b__law_draw .nil (L2N.passes_call (L2N.takes_of rfl rfl rfl rfl) fun _ _ _ _ h => h) (sa_scr (pv 0) (sa_town (pv 1) (sa_cons se_int sa_nil))))))) (ss_cons (ss_asg (ps_set (i := 3) sc_law.nd rfl (Or.inl rfl) (se_call hK hcv hE (pe_call (ok__law_form T) (hr.mono (by decide)) rfl T.m__law_form T.f__law_form.kp T.b__law_form .nil (L2N.passes_call (L2N.takes_of rfl rfl rfl rfl) fun _ _ _ _ h => h) (sa_scr (pv 0) (sa_town (pv 1) sa_nil)))))) (ss_cons (ss_asg (ps_set (i := 4) sc_law.nd rfl (Or.inl rfl) (se_ix hK (sb_of (se_call hK hcv hE (pe_call (ok__law_samples T) (hr.mono (by decide)) rfl T.m__law_samples T.f__law_samples.kp T.b__law_samples .nil (L2N.passes_call (L2N.takes_of rfl rfl rfl rfl) fun _ _ _ _ h => h) (sa_scr (pv 0) (sa_town (pv 1) (sa_cons (se_var (pv 3)) (sa_cons se_int sa_nil))))))) (sb_of se_int) (fun _ _ => rfl)))) (ss_cons (ss_asg (ps_set (i := 5) sc_law.nd rfl (Or.inl rfl) (se_call hK hcv hE (pe_call (ok__law_packets T) (hr.mono (by decide)) rfl T.m__law_packets T.f__law_packets.kp T.b__law_packets .nil (L2N.passes_call (L2N.takes_of rfl rfl rfl rfl) fun _ _ _ _ h => h) (sa_scr (pv 0) (sa_town (pv 1) (sa_cons se_int (sa_cons se_int sa_nil)))))))) (ss_cons (ss_asg (ps_set (i := 3) sc_law.nd rfl (Or.inl rfl) (se_op (opd_add hK) (sb_of (se_op (opd_add hK) (sb_of (se_slice hK (sb_of (se_var (pv 3))) so_none (so_some se_int))) (sb_of (se_tup (sr_cons se_int sr_nil))))) (sb_of (se_slice hK (sb_of (se_var (pv 3))) (so_some se_int) so_none))))) (ss_cons (ss_asg (ps_set (i := 4) sc_law.nd rfl (Or.inl rfl) (se_call hK hcv hE (pe_call (ok__law_frame T) (hr.mono (by decide)) rfl T.m__law_frame T.f__law_frame.kp T.b__law_frame .nil (L2N.passes_call (L2N.takes_of rfl rfl rfl rfl) fun _ _ _ _ h => h) (sa_cons (se_var (pv 3)) (sa_cons se_int sa_nil)))))) (ss_cons (ss_asg (ps_set (i := 6) sc_law.nd rfl (Or.inl rfl) (se_callTy (calld_list hK) (by rfl) T.n_list (by decide +kernel) (sbs_cons (sb_of (se_var (pv 5))) sbs_nil)))) (ss_cons (ss_for (is := [7]) (passes_of rfl) rfl (si_range1 rfl T.n_range (sr_cons se_int sr_nil)) (sg_name (pg_name (i := 7) sc_law.nd rfl (Or.inl rfl))) (ss_cons (ss_asg (ps_set (i := 8) sc_law.nd rfl (Or.inl rfl) (se_op opd_mod (sb_of (se_op (opd_add hK) (sb_of (se_var (pv 2))) (sb_of (se_op (opd_mul hK) (sb_of se_int) (sb_of (se_var (pv 7))))))) (sb_of se_int)))) (ss_cons (ss_asgN (ps_set (i := 9) sc_law.nd rfl (Or.inl rfl) (sn_call hK hcv hE (pe_call (okN__law_ask T) (hr.mono (by decide)) rfl T.m__law_ask T.f__law_ask.kp T.b__law_ask .nil (L2N.passes_call (L2N.takes_of rfl rfl rfl rfl) fun _ _ _ _ h => h) (sa_cons (se_var (pv 8)) (sa_cons (se_var (pv 3)) (sa_cons (se_var (pv 4)) (sa_cons (se_var (pv 5)) sa_nil)))))))) (ss_cons (ss_asg (ps_set (i := 10) sc_law.nd rfl (Or.inl rfl) (se_callTy (calld_list hK) (by rfl) T.n_list (by decide +kernel) (sbs_cons (sb_var (pv 9)) sbs_nil)))) (ss_cons (ss_app (ps_expr (pe_bm PySem.F.plainAttrs_list PySem.F.slot_list_append PySem.F.type_list_append mt_append (pv 9) (pa_cons se_str pa_nil)))) (ss_cons (ss_put (k := 0) (ps_asg se_non (pg_sub (pv 9) pe_int set_list))) (ss_cons (ss_asg (ps_set (i := 11) sc_law.nd rfl (Or.inl rfl) (se_call hK hcv hE (pe_call (ok__law_ask T) (hr.mono (by decide)) rfl T.m__law_ask T.f__law_ask.kp T.b__law_ask .nil (L2N.passes_call (L2N.takes_of rfl rfl rfl rfl) fun _ _ _ _ h => h) (sa_cons (se_var (pv 8)) (sa_cons (se_var (pv 3)) (sa_cons (se_var (pv 4)) (sa_cons (se_var (pv 5)) sa_nil)))))))) (ss_one (ss_if (st_of (sw_or (st_cmp (opd_ne hK hr.units) (sb_of (se_var (pv 11))) (sb_of (se_var (pv 10))) (nomark _)) (sw_or1 (st_not (st_val (se_isi hK isi_list rfl T.n_isinstance rfl T.n_list (by decide +kernel) (sb_of (se_var (pv 11))))))))) (ss_one (ss_ret se_bl)) ss_nil))))))))) (ss_cons (ss_asg (ps_set (i := 12) sc_law.nd rfl (Or.inl rfl) (se_call hK hcv hE (pe_call (ok_runs T) (hr.mono (by decide)) rfl T.m_runs T.f_runs.kp T.b_runs .nil (L2N.passes_call (L2N.takes_of rfl rfl rfl rfl) fun _ _ _ _ h => h) (sa_cons (se_var (pv 4)) sa_nil))))) (ss_cons (ss_asg (ps_set (i := 13) sc_law.nd rfl (Or.inl rfl) (se_callTy (calld_list hK) (by rfl) T.n_list (by decide +kernel) (sbs_cons (sb_of (se_var (pv 12))) sbs_nil)))) (ss_cons (ss_expr (se_call hK hcv hE (pe_call (ok_from_runs T) (hr.mono (by decide)) rfl T.m_from_runs T.f_from_runs.kp T.b_from_runs .nil (L2N.passes_call (L2N.takes_of rfl rfl rfl rfl) fun _ _ _ _ h => h) (sa_cons (se_var (pv 12)) sa_nil)))) (ss_cons (ss_for (is := [14, 15]) (passes_of rfl) rfl (si_seq hK (se_call hK hcv hE (pe_call (ok_layers_of T) (hr.mono (by decide)) rfl T.m_layers_of T.f_layers_of.kp T.b_layers_of .nil (L2N.passes_call (L2N.takes_of rfl rfl rfl rfl) fun _ _ _ _ h => h) (sa_cons se_int (sa_cons (se_var (pv 5)) sa_nil))))) (sg_of (sgb_tup (is := [14, 15]) hK (pg_tup rfl (pgs_cons (pg_name (i := 14) sc_law.nd rfl (Or.inl rfl)) (pgs_cons (pg_name (i := 15) sc_law.nd rfl (Or.inl rfl)) pgs_nil))) (pg_lst rfl (pgs_cons (pg_name (i := 14) sc_law.nd rfl (Or.inl rfl)) (pgs_cons (pg_name (i := 15) sc_law.nd rfl (Or.inl rfl)) pgs_nil))))) (ss_cons (ss_expr (se_call hK hcv hE (pe_call (ok_packed T) (hr.mono (by decide)) rfl T.m_packed T.f_packed.kp T.b_packed .nil (L2N.passes_call (L2N.takes_of rfl rfl rfl rfl) fun _ _ _ _ h => h) (sa_cons se_int (sa_cons (se_var (pv 5)) (sa_cons (se_var (pv 14)) (sa_cons (se_var (pv 15)) sa_nil))))))) (ss_one (ss_expr (se_call hK hcv hE (pe_call (ok_layers_for T) (hr.mono (by decide)) rfl T.m_layers_for T.f_layers_for.kp T.b_layers_for .nil (L2N.passes_call (L2N.takes_of rfl rfl rfl rfl) fun _ _ _ _ h => h) (sa_cons se_int (sa_cons (se_call hK hcv hE (pe_call (ok_packed T) (hr.mono (by decide)) rfl T.m_packed T.f_packed.kp T.b_packed .nil (L2N.passes_call (L2N.takes_of rfl rfl rfl rfl) fun _ _ _ _ h => h) (sa_cons se_int (sa_cons (se_var (pv 5)) (sa_cons (se_var (pv 14)) (sa_cons (se_var (pv 15)) sa_nil)))))) sa_nil)))))))) (ss_one (ss_ret (se_and (se_cmp (opd_eq hK hr.units) (sb_of (se_var (pv 5))) (sb_of (se_var (pv 6))) (nomark _)) (se_one (se_cmp (opd_eq hK hr.units) (sb_of (se_var (pv 12))) (sb_of (se_var (pv 13))) (nomark _))))))))))))))))))) hlaw

end
end Lw

namespace Lw
open PySem PySem.Spec L2 Sim
local macro_rules | `(tactic| walk_at "sem") => `(tactic| simp -implicitDefEqProofs only [thenS, thenM_n, thenM_r, thenM_b, thenM_c, nextS, retS, exprS, ifS, setS, setN, setT, parS, setAll, appS, extS, extM_l, putS, tickS, townN, townK, townA, townM_t, scrA, scrM_s, scrK, scrLen, scrIx, scrEmpty, ownM_o, freezeS, freeze_0o, freeze_0d, freeze_0n, freeze_s, raiseS_x, forS, varE, varM_d, borE, borM_d, borM_o, cE, opE, testE, boolM_b, chainE, isNE, notNE, isNoneD, andT, orT, notT, andE, orE, notE, ifE, nilE, consE, consA, tupE, lstN, listE, lcE, sliceE, someO, noneO, intM_i, revE, callB, isiE, methE, itemsE, itemsM_l, itemsM_t, rngE, callF, tabE, stopE, dict3E, negE, negD, catN, catM_ll, bndN, bndT_t, bndT_l, finM_r, finM_n, loopM_n, loopM_r, loopM_c, loopM_b, isStrD, isListD, retN, rnOwn, callN, callBN, sortSetN, thenM_rn, loopM_rn, finN_rn, isTupD, intD_t, intD_f, ks_mark_mark, ks_fixed_mark, ks_length_mark, ks_mark_fixed, ks_fixed_fixed, ks_length_fixed, ks_mark_length, ks_fixed_length, ks_length_length, ks_none_none, ks_sum_none, ks_xor_none, ks_none_sum, ks_sum_sum, ks_xor_sum, kn_none_none, kn_sum_none, kn_xor_none, PyData.isInt, PyData.isBool, PyData.isStr, PyData.isList, PyData.isTuple, wipeE, sortSetE, sliceKE, isTE,
  addD_ii, subD_ii, ltD_ii, leD_ii, gtD_ii, geD_ii, eqD_ii, neD_ii, ixD_l, ixD_t, lenD_l, lenD_t, sliceD_l, sliceD_t,
  seq_r, seq_f, seq_x, Sim.seq_assoc, lift_s, eq_self, Nat.reduceEqDiff, List.getElem?_cons_succ, List.getElem?_cons_zero, List.set_cons_succ, List.set_cons_zero, List.length_cons, List.length_nil, if_true, Bool.false_eq_true, if_false, Option.map_some, Bool.not_true, Bool.not_false, atI_0, atI_1, atI_2, atI_3, atI_4, Int.cast_ofNat_Int, Int.reduceSub, Int.reduceAdd, Int.reduceEq, Int.reduceLE, Int.reduceLT, ite_big, ite_lt_big, Nat.reduceLT, Nat.reduceAdd, Nat.reduceLeDiff, Nat.zero_add, yesT, decide_true, decide_false, List.length_map, List.length_range])
/-! ### the laws' draws -/
theorem cell_eq (ns : List Int) (k : Nat) : ∃ v : Int, F__law_cell_at [.scr ns, .d (.int k)] = ret (.int v) := by
  show ∃ v : Int, seq (g__law_cell_at [some (.scr ns), some (.d (.int k))]) finM = _
  unfold g__law_cell_at
  by_cases h : k < ns.length
  · have e : decide ((k : Int) < (ns.length : Int)) = true := decide_eq_true (by omega)
    refine ⟨ns[k], ?_⟩
    walk_at "sem"
    simp only [e, if_true, atI_lt h, seq_r, lift_s, Option.map_some, thenM, finM]
  · have e : decide ((k : Int) < (ns.length : Int)) = false := decide_eq_false (by omega)
    by_cases hn : ns = []
    · have e2 : ns.isEmpty = true := by simp [hn]
      refine ⟨0, ?_⟩
      walk_at "sem"
      simp only [e, e2, seq_r, if_true, Bool.false_eq_true, if_false]
      walk_at "sem"
      simp only [e2]
      rfl
    · have e2 : ns.isEmpty = false := by cases ns <;> simp at hn ⊢
      have hp : 0 < ns.length := List.length_pos_iff.mpr hn
      have hm : k % ns.length < ns.length := Nat.mod_lt _ hp
      have e3 : ((k : Int) % (ns.length : Int)) = ((k % ns.length : Nat) : Int) := by simp
      refine ⟨ns[k % ns.length] * 31 + k, ?_⟩
      walk_at "sem"
      simp only [e, e2, seq_r, if_true, Bool.false_eq_true, if_false]
      walk_at "sem"
      simp only [e2, Bool.false_eq_true, if_false, seq_r, thenM]
      walk_at "sem"
      rw [modD_ii (j := (ns.length : Int)) (by omega)]
      simp only [lift_s, seq_r, e3, intM_i, atI_lt hm, Option.map_some]
      rw [mulD_ii (.inr (by decide))]
      rfl
theorem mixed_eq (ns : List Int) (k : Nat) (many : Int) (hm : 0 < many) : ∃ v : Int, (0 ≤ v ∧ v < many) ∧ F__law_mixed [.scr ns, .d (.int k), .d (.int many)] = ret (.int v) := by
  obtain ⟨c, hc⟩ := cell_eq ns k
  show ∃ v : Int, _ ∧ seq (g__law_mixed [some (.scr ns), some (.d (.int k)), some (.d (.int many)), none]) finM = _
  unfold g__law_mixed
  walk_at "sem"
  simp only [if_true, hc, seq_r]
  rw [mulD_ii (.inr (by decide)), mulD_ii (.inl (by decide))]
  walk_at "sem"
  rw [modD_ii (by decide)]
  walk_at "sem"
  have h1 := Int.emod_nonneg (c * 1103515245 + 7919 * (k : Int) + 12345) (show (2147483647 : Int) ≠ 0 by decide)
  have h2 := Int.emod_lt_of_pos (c * 1103515245 + 7919 * (k : Int) + 12345) (show (0 : Int) < 2147483647 by decide)
  rw [powD_ii ⟨by decide, by decide, by omega⟩]
  walk_at "sem"
  rw [modD_ii (by decide)]
  walk_at "sem"
  rw [modD_ii (by decide)]
  walk_at "sem"
  rw [modD_ii hm]
  exact ⟨_, ⟨Int.emod_nonneg _ (by omega), Int.emod_lt_of_pos _ hm⟩, rfl⟩
theorem draw_ok (ns : List Int) (many : Int) (hm : 0 < many) : Ok 1 (F__law_draw [.scr ns, .town, .d (.int many)]) fun d => ∃ v : Int, d = .int v ∧ 0 ≤ v ∧ v < many := by
  intro n hn
  obtain ⟨v, hv, e⟩ := mixed_eq ns (n.n + 1) many hm
  refine ⟨.int v, { n with n := n.n + 1 }, ?_, ⟨Nat.le_refl _, rfl⟩, v, rfl, hv.1, hv.2⟩
  show seq (g__law_draw [some (.scr ns), some .town, some (.d (.int many))]) finM n = _
  unfold g__law_draw
  simp only [thenS, tickS, List.getElem?_cons_succ, List.getElem?_cons_zero, townK, tickM, seq, if_pos (show n.n < big by omega), thenM, retS, callF, scrA, scrM, consA, townN, varE, varM, Sim.ret, nilE, List.length_cons, List.length_nil, if_true]
  rw [e]
  rfl
theorem pick_ok (ns : List Int) (xs : List D) (h0 : xs ≠ []) : Ok 1 (F__law_pick [.scr ns, .town, .d (.list xs)]) fun d => d ∈ xs := by
  show Ok 1 (seq (g__law_pick [some (.scr ns), some .town, some (.d (.list xs))]) finM) _
  unfold g__law_pick
  walk_at "sem"

  refine Ok.step (draw_ok ns xs.length (by have := List.length_pos_iff.mpr h0; omega)) (Nat.le_refl _) fun d hd => ?_
  obtain ⟨v, rfl, v0, v1⟩ := hd
  rw [ixD_l, atI_int v0 v1]
  exact Ok.ret (List.getElem_mem _)

/-! ### try -/
theorem try_x {g : Sim.Env → M Fl} {env : Sim.Env} {c : Nat} (h : g env = raiseM c) (hc : c < 12) : tryS g env = Sim.ret (.ret (refused c)) := by
  funext n
  unfold tryS
  rw [h]
  show (if c < 12 then R.ok (Fl.ret (refused c)) n else .bad) = .ok (.ret (refused c)) n
  rw [if_pos hc]
theorem try_r {g : Sim.Env → M Fl} {env : Sim.Env} {f : Fl} (h : g env = Sim.ret f) : tryS g env = Sim.ret f := by
  funext n
  unfold tryS
  rw [h]; rfl

theorem pl_ref (c : Nat) : Pl 1 (refused c) := pl_tuple fun x hx => by
  simp only [List.mem_cons, List.not_mem_nil, or_false] at hx
  rcases hx with rfl | rfl
  · exact pl_str _ _
  · exact pl_int _ _
theorem flat_rep {α : Type} (k : Nat) (a : α) : (List.replicate k [a]).flatten = List.replicate k a := by
  induction k with
  | zero => rfl
  | succ k ih => rw [List.replicate_succ, List.flatten_cons, ih]; rfl
theorem pl_refs (k c : Nat) : Pl 2 (.list (List.replicate k (refused c))) := pl_list fun x hx => by
  rw [(List.mem_replicate.mp hx).2]; exact pl_ref c
theorem ne_refs (k c : Nat) (hk : k ≤ 1000) : (seq (lift (mulD (.list [.tuple [.str "refused", .int c]]) (.int k))) fun a => lift (neD (.list (List.replicate k (refused c))) a)) = Sim.ret (.bool false) := by
  rw [mulD_li ⟨by omega, by simp⟩, Int.toNat_natCast, flat_rep, lift_s, seq_r]
  rw [show neD (.list (List.replicate k (refused c))) (.list (List.replicate k (.tuple [.str "refused", .int c]))) = _ from neD_refl (pl_refs k c) (by decide)]
  rfl
theorem mul_refs (k c : Nat) (hk : k ≤ 1000) : mulD (.list [.tuple [.str "refused", .int c]]) (.int k) = some (.list (List.replicate k (refused c))) := by
  rw [mulD_li ⟨by omega, by simp⟩, Int.toNat_natCast, flat_rep]; rfl
theorem ne_ref (c : Nat) : neD (refused c) (.tuple [.str "refused", .int c]) = some (.bool false) := neD_refl (pl_ref c) (by decide)
theorem eq_ref (c : Nat) : eqD (refused c) (.tuple [.str "refused", .int c]) = some (.bool true) := eqD_refl (pl_ref c) (by decide)
theorem ne_reps (k c : Nat) : neD (.list (List.replicate k (refused c))) (.list (List.replicate k (refused c))) = some (.bool false) := neD_refl (pl_refs k c) (by decide)
theorem eq_reps (k c : Nat) : eqD (.list (List.replicate k (refused c))) (.list (List.replicate k (refused c))) = some (.bool true) := eqD_refl (pl_refs k c) (by decide)

/-! ### forms -/
structure Fm where
  p : Nat
  b : Nat
  lo : Bool
  q : Nat
  s : Nat
structure Fm.Ok (f : Fm) : Prop where
  p1 : 1 ≤ f.p
  p2 : f.p ≤ 6
  b1 : 4 ≤ f.b
  b2 : f.b ≤ 6
  q2 : f.q ≤ 2
  s1 : 1 ≤ f.s
  s2 : f.s ≤ 2
def ordT : Bool → Str | true => "low" | false => "high"
def parT : Nat → Str | 0 => "none" | 1 => "even" | _ => "odd"
def Fm.d (f : Fm) : D := .tuple [.int f.p, .int f.b, .str (ordT f.lo), .str (parT f.q), .int f.s]
theorem ord_low (k : Bool) : eqD (.str (ordT k)) (.str "low") = some (.bool k) := by
  rw [eqD_ss]; cases k <;> rfl
theorem par_pick {q : Nat} (hq : q ≤ 2) (x y z : D) : pick3 "none" "even" "odd" x y z (.str (parT q)) = Sim.ret (if q = 0 then x else if q = 1 then y else z) := by
  match q, hq with
  | 0, _ => rfl
  | 1, _ => rfl
  | 2, _ => rfl
theorem par_none {q : Nat} (hq : q ≤ 2) : neD (.str (parT q)) (.str "none") = some (.bool (decide (q ≠ 0))) := by
  rw [neD_ss]
  match q, hq with
  | 0, _ => rfl
  | 1, _ => rfl
  | 2, _ => rfl
/-! ### frames -/
def bitsL (b w : Nat) : List Nat := (List.range b).map fun i => w / 2 ^ i % 2
def Fm.row (f : Fm) (w : Nat) : List Nat :=
  let r := if f.lo then bitsL f.b w else (bitsL f.b w).reverse
  [0] ++ r ++ (if f.q = 0 then [] else if f.q = 1 then [(bitsL f.b w).sum % 2] else [1 - (bitsL f.b w).sum % 2]) ++ List.replicate f.s 1
def Fm.fr (f : Fm) (w : Nat) : List Nat := (f.row w).flatMap fun x => List.replicate f.p (48 + x)
def intD' (n : Nat) : D := .int n
theorem rng1_nat {k : Nat} (h : k ≤ 1000000) : rng1M [.int (k : Int)] = Sim.ret ((List.range k).map intD') := by
  show (if (k : Int).natAbs ≤ big then ret (intsFrom 0 (k : Int).toNat 1) else fault) = _
  rw [if_pos (show (k : Int).natAbs ≤ big from show (k : Int).natAbs ≤ 1000000 by omega)]
  congr 1
  show (List.range (k : Int).toNat).map _ = _
  rw [Int.toNat_natCast]
  refine List.map_congr_left fun i _ => ?_
  show PyData.int (0 + (i : Int) * 1) = .int i
  congr 1; omega
theorem pow_at {c : Nat} (h : c < 6) : atI [PyData.int 1, .int 2, .int 4, .int 8, .int 16, .int 32] (c : Int) = some (.int ((2 ^ c : Nat) : Int)) := by
  rw [atI_lt (show c < [PyData.int 1, .int 2, .int 4, .int 8, .int 16, .int 32].length from h)]
  match c, h with
  | 0, _ => rfl
  | 1, _ => rfl
  | 2, _ => rfl
  | 3, _ => rfl
  | 4, _ => rfl
  | 5, _ => rfl
theorem top_at {b : Nat} (h1 : 4 ≤ b) (h2 : b ≤ 6) : atI [PyData.int 16, .int 32, .int 64] ((b : Int) - 4) = some (.int ((2 ^ b : Nat) : Int)) := by
  match b, h1, h2 with
  | 4, _, _ => rfl
  | 5, _, _ => rfl
  | 6, _, _ => rfl
theorem sumD_nat (l : List Nat) : sumD [.list (l.map intD')] = some (.int (l.sum : Nat)) := by
  have e : l.map intD' = (l.map fun (n : Nat) => (n : Int)).map PyData.int := by rw [List.map_map]; rfl
  rw [e, sumD_map]
  congr 2
  induction l with
  | nil => rfl
  | cons a l ih => simp only [List.map_cons, List.sum_cons, ih (by rw [List.map_map]; rfl)]; omega
theorem str_bit {x : Nat} (h : x ≤ 1) : strD [.int (x : Int)] = some (.str (txt [48 + x])) := by
  match x, h with
  | 0, _ => exact strD_0
  | 1, _ => exact strD_1
theorem mul_bit {c p : Nat} (h : p ≤ 1000) : mulD (.str (txt [c])) (.int (p : Int)) = some (.str (txt (List.replicate p c))) := by
  rw [mulD_txt ⟨by omega, by simp⟩, Int.toNat_natCast]
  congr 3
  clear h
  induction p with
  | zero => rfl
  | succ p ih => rw [List.replicate_succ, List.flatten_cons, ih]; rfl
theorem mul_ones {s : Nat} (h : s ≤ 1000) : mulD (.list [.int 1]) (.int (s : Int)) = some (.list ((List.replicate s 1).map intD')) := by
  rw [mulD_li ⟨by omega, by simp⟩, Int.toNat_natCast]
  congr 2
  clear h
  induction s with
  | zero => rfl
  | succ s ih => rw [List.replicate_succ, List.flatten_cons, ih]; rfl
theorem bits_len (b w : Nat) : (bitsL b w).length = b := by simp [bitsL]
theorem bits_le {b w x : Nat} (h : x ∈ bitsL b w) : x ≤ 1 := by
  simp only [bitsL, List.mem_map] at h
  obtain ⟨i, _, rfl⟩ := h
  have := Nat.mod_lt (w / 2 ^ i) (show 0 < 2 by decide); omega
theorem Fm.row_le {f : Fm} {w x : Nat} (h : x ∈ f.row w) : x ≤ 1 := by
  have h2 := Nat.mod_lt (bitsL f.b w).sum (show 0 < 2 by decide)
  simp only [Fm.row, List.mem_append, List.mem_singleton, List.mem_replicate] at h
  rcases h with ((h | h) | h) | h
  · omega
  · split at h
    · exact bits_le h
    · exact bits_le (List.mem_reverse.mp h)
  · split at h
    · cases h
    · split at h <;> simp only [List.mem_singleton] at h <;> omega
  · omega
theorem Fm.row_len (f : Fm) (w : Nat) : (f.row w).length = 1 + f.b + (if f.q = 0 then 0 else 1) + f.s := by
  have e : (if f.lo then bitsL f.b w else (bitsL f.b w).reverse).length = f.b := by split <;> simp [bits_len]
  simp only [Fm.row, List.length_append, List.length_replicate, e, List.length_singleton]
  congr 2
  split
  · rfl
  · split <;> rfl
theorem wire_join {p : Nat} (l : List Nat) (h : l.length ≤ 1000) (hp : p ≤ 1000) : joinD (.str "") [.list (l.map fun x => .str (txt (List.replicate p (48 + x))))] = some (.str (txt (l.flatMap fun x => List.replicate p (48 + x)))) := by
  have := joinD_txt (ls := l.map fun x => List.replicate p (48 + x)) (by
    rw [List.map_map]
    have : (List.map (List.length ∘ fun x => List.replicate p (48 + x)) l).sum = l.length * p := by
      clear h
      induction l with
      | nil => simp
      | cons a l ih => simp only [List.map_cons, List.sum_cons, ih, List.length_cons, Function.comp, List.length_replicate]; rw [Nat.add_mul, Nat.one_mul, Nat.add_comm]
    rw [this]
    exact Nat.le_trans (Nat.mul_le_mul h hp) (by decide))
  rw [List.map_map] at this
  exact this
/-- what the bit loop leaves -/
theorem bits_loop (x : SV) : ∀ (l : List D) (k w : Nat) (acc : List Nat) (z : Option SV), k + l.length ≤ 6 → acc.length = k → ∃ z',
    forF (bndN 3) (thenS (appS 2 (opE modD (varE 1) (cE (PyData.int 2)))) (setS 1 (opE fdivD (varE 1) (cE (PyData.int 2))))) l [some x, some (.d (.int w)), some (.own (acc.map intD')), z] =
    ret (.next [some x, some (.d (.int (w / 2 ^ l.length : Nat))), some (.own ((acc ++ bitsL l.length w).map intD')), z'])
  | [], k, w, acc, z, _, _ => ⟨z, by simp [forF, bitsL]⟩
  | d :: l, k, w, acc, z, h, ha => by
    obtain ⟨z', e⟩ := bits_loop x l (k + 1) (w / 2) (acc ++ [w % 2]) (some (.d d)) (by simp only [List.length_cons] at h; omega) (by simp [ha])
    refine ⟨z', ?_⟩
    simp only [forF]
    walk_at "sem"
    rw [modD_ii (by decide)]
    walk_at "sem"
    simp only [List.length_cons] at h
    rw [ite_lt_big (by omega)]
    walk_at "sem"
    rw [fdivD_ii (by decide)]
    walk_at "sem"
    have e1 : acc.map intD' ++ [PyData.int ((w : Int) % 2)] = (acc ++ [w % 2]).map intD' := by simp [intD']
    have e2 : (w : Int) / 2 = ((w / 2 : Nat) : Int) := by omega
    have e3 : acc ++ bitsL (l.length + 1) w = acc ++ [w % 2] ++ bitsL l.length (w / 2) := by
      rw [List.append_assoc]
      congr 1
      unfold bitsL
      rw [List.range_succ_eq_map, List.map_cons, List.map_map]
      simp only [Nat.pow_zero, Nat.div_one, List.singleton_append]
      congr 1
      refine List.map_congr_left fun i _ => ?_
      simp only [Function.comp, Nat.succ_eq_add_one, Nat.pow_succ]
      rw [Nat.div_div_eq_div_mul, Nat.mul_comm]
    rw [e1, e2, e, e3, Nat.pow_succ, Nat.mul_comm, Nat.div_div_eq_div_mul]
theorem parity_eq {f : Fm} (hf : f.Ok) (r : List Nat) : F_parity_of [.d f.d, .d (.list (r.map intD'))] = Sim.ret (.list ((if f.q = 0 then [] else if f.q = 1 then [r.sum % 2] else [1 - r.sum % 2]).map intD')) := by
  show seq (g_parity_of [some (.d f.d), some (.d (.list (r.map intD')))]) finM = _
  obtain ⟨p1, p2, b1, b2, q2, s1, s2⟩ := hf
  unfold g_parity_of Fm.d
  walk_at "sem"
  rw [sumD_nat]
  walk_at "sem"
  rw [modD_ii (by decide)]
  walk_at "sem"
  rw [par_pick q2, seq_r]
  congr 1
  have h2 := Nat.mod_lt r.sum (show 0 < 2 by decide)
  split
  · rfl
  · split
    · rfl
    · show PyData.list [.int (1 - ((r.sum : Nat) : Int) % 2)] = .list [.int ((1 - r.sum % 2 : Nat) : Int)]
      rw [show ((1 - r.sum % 2 : Nat) : Int) = 1 - ((r.sum : Nat) : Int) % 2 by omega]
theorem Fm.fr_len (f : Fm) (w : Nat) : (f.fr w).length = f.p * (1 + f.b + (if f.q = 0 then 0 else 1) + f.s) := by
  rw [← f.row_len w]
  unfold Fm.fr
  generalize f.row w = l
  induction l with
  | nil => simp
  | cons a l ih => simp only [List.flatMap_cons, List.length_append, List.length_replicate, ih, List.length_cons, Nat.mul_add, Nat.mul_one]; omega
theorem pl_form (f : Fm) : Pl 1 f.d := pl_tuple fun x hx => by
  simp only [List.mem_cons, List.not_mem_nil, or_false] at hx
  rcases hx with rfl | rfl | rfl | rfl | rfl
  · exact pl_int _ _
  · exact pl_int _ _
  · exact pl_str _ _
  · exact pl_str _ _
  · exact pl_int _ _

/-! ### the laws' own frame -/
theorem law_frame_eq {f : Fm} (hf : f.Ok) (w : Nat) : F__law_frame [.d f.d, .d (.int w)] = Sim.ret (.str (txt (f.fr w))) := by
  show seq (g__law_frame [some (.d f.d), some (.d (.int w)), none, none, none, none, none, none, none, none, none, none]) finM = _
  obtain ⟨p1, p2, b1, b2, q2, s1, s2⟩ := hf
  unfold g__law_frame Fm.d
  walk_at "sem"
  rw [rng1_nat (by omega)]
  walk_at "sem"
  rw [ite_big (by omega)]
  rw [lc_mapf intD' _ (fun c => intD' (w / 2 ^ c % 2)) (List.range f.b) (fun c _ => rfl) (fun c hc => ?_)]
  · rw [show (List.range f.b).map (fun c => intD' (w / 2 ^ c % 2)) = (bitsL f.b w).map intD' by simp [bitsL]]
    walk_at "sem"
    rw [ord_low]
    walk_at "sem"
    have er : (if f.lo = true then (ret (PyData.list ((bitsL f.b w).map intD')) : M D) else ret (.list ((bitsL f.b w).map intD').reverse)) = Sim.ret (.list ((if f.lo then bitsL f.b w else (bitsL f.b w).reverse).map intD')) := by
      split
      · rfl
      · rw [List.map_reverse]
    rw [er]
    generalize hr : (if f.lo = true then bitsL f.b w else (bitsL f.b w).reverse) = r
    have hs : r.sum = (bitsL f.b w).sum := by
      subst hr; split
      · rfl
      · exact List.sum_reverse _
    have hl : r.length = f.b := by subst hr; split <;> simp [bits_len]
    walk_at "sem"
    rw [sumD_nat]
    walk_at "sem"
    rw [modD_ii (by decide)]
    walk_at "sem"
    rw [par_pick q2]
    have h2 := Nat.mod_lt (bitsL f.b w).sum (show 0 < 2 by decide)
    have ep : (if f.q = 0 then PyData.list [] else if f.q = 1 then .list [.int ((r.sum : Int) % 2)] else .list [.int (1 - (r.sum : Int) % 2)]) = .list ((if f.q = 0 then [] else if f.q = 1 then [(bitsL f.b w).sum % 2] else [1 - (bitsL f.b w).sum % 2]).map intD') := by
      rw [hs]
      split
      · rfl
      · split
        · rfl
        · simp only [List.map_cons, List.map_nil, intD']
          congr 3
          omega
    rw [ep]
    generalize hm : (if f.q = 0 then [] else if f.q = 1 then [(bitsL f.b w).sum % 2] else [1 - (bitsL f.b w).sum % 2]) = m
    have hml : m.length ≤ 1 := by
      subst hm; split
      · simp
      · split <;> simp
    walk_at "sem"
    rw [addD_ll (by simp only [List.length_cons, List.length_nil, List.length_map, big]; omega)]
    walk_at "sem"
    rw [addD_ll (by simp only [List.length_cons, List.length_nil, List.length_map, List.length_append, big]; omega)]
    walk_at "sem"
    rw [mul_ones (by omega)]
    walk_at "sem"
    rw [addD_ll (by simp only [List.length_cons, List.length_nil, List.length_map, List.length_append, List.length_replicate, big]; omega)]
    walk_at "sem"
    have ew : [PyData.int 0] ++ r.map intD' ++ m.map intD' ++ (List.replicate f.s 1).map intD' = (f.row w).map intD' := by
      simp only [Fm.row, hr, hm, List.map_append, List.map_cons, List.map_nil]
      rfl
    rw [ew]
    have hrl := f.row_len w
    rw [ite_big (by rw [List.length_map, hrl]; split <;> omega)]
    rw [lc_mapf intD' _ (fun x => .str (txt (List.replicate f.p (48 + x)))) (f.row w) (fun c _ => rfl) (fun x hx => ?_)]
    · walk_at "sem"
      rw [wire_join _ (by rw [hrl]; split <;> omega) (by omega)]
      rfl
    · simp only [intD']
      walk_at "sem"
      rw [str_bit (Fm.row_le hx)]
      walk_at "sem"
      rw [mul_bit (by omega)]
      rfl
  · have h6 : c < 6 := by have := List.mem_range.mp hc; omega
    show _ = Sim.ret (PyData.int ((w / 2 ^ c % 2 : Nat) : Int))
    simp only [intD']
    walk_at "sem"
    rw [pow_at h6]
    walk_at "sem"
    have hp : 2 ^ c < 2 ^ 6 := Nat.pow_lt_pow_right (by decide) h6
    have hp0 : 0 < 2 ^ c := Nat.pow_pos (by decide)
    rw [fdivD_ii ⟨by omega, by omega⟩]
    walk_at "sem"
    rw [modD_ii (by decide), lift_s]
    congr 2
theorem form_ok (ns : List Int) : Ok 5 (F__law_form [.scr ns, .town]) fun d => ∃ f : Fm, f.Ok ∧ d = f.d := by
  show Ok 5 (seq (g__law_form [some (.scr ns), some .town, none, none, none]) finM) _
  unfold g__law_form
  walk_at "sem"
  refine Ok.step (pick_ok ns _ (by simp)) (by decide) fun d hd => ?_
  try walk_at "sem"
  refine Ok.step (pick_ok ns _ (by simp)) (by decide) fun d2 hd2 => ?_
  try walk_at "sem"
  refine Ok.step (pick_ok ns _ (by simp)) (by decide) fun d3 hd3 => ?_
  try walk_at "sem"
  refine Ok.step (draw_ok ns 3 (by decide)) (by decide) fun d4 hd4 => ?_
  obtain ⟨v4, rfl, h40, h41⟩ := hd4
  try walk_at "sem"
  refine Ok.step (draw_ok ns 2 (by decide)) (by decide) fun d5 hd5 => ?_
  obtain ⟨v5, rfl, h50, h51⟩ := hd5
  have e1 : ∃ p : Nat, 1 ≤ p ∧ p ≤ 6 ∧ d = .int p := by
    simp only [List.mem_cons, List.not_mem_nil, or_false] at hd
    rcases hd with h | h | h | h | h | h | h | h <;> subst h
    · exact ⟨1, by decide, by decide, rfl⟩
    · exact ⟨1, by decide, by decide, rfl⟩
    · exact ⟨2, by decide, by decide, rfl⟩
    · exact ⟨2, by decide, by decide, rfl⟩
    · exact ⟨3, by decide, by decide, rfl⟩
    · exact ⟨4, by decide, by decide, rfl⟩
    · exact ⟨5, by decide, by decide, rfl⟩
    · exact ⟨6, by decide, by decide, rfl⟩
  have e2 : ∃ k : Bool, d2 = .str (ordT k) := by
    simp only [List.mem_cons, List.not_mem_nil, or_false] at hd2
    rcases hd2 with h | h <;> subst h
    · exact ⟨true, rfl⟩
    · exact ⟨false, rfl⟩
  have e3 : ∃ q : Nat, q ≤ 2 ∧ d3 = .str (parT q) := by
    simp only [List.mem_cons, List.not_mem_nil, or_false] at hd3
    rcases hd3 with h | h | h <;> subst h
    · exact ⟨0, by decide, rfl⟩
    · exact ⟨1, by decide, rfl⟩
    · exact ⟨2, by decide, rfl⟩
  obtain ⟨p, p1, p2, rfl⟩ := e1
  obtain ⟨k, rfl⟩ := e2
  obtain ⟨q, q2, rfl⟩ := e3
  refine Ok.ret ⟨⟨p, (4 + v4).toNat, k, q, (1 + v5).toNat⟩, ⟨p1, p2, ?_, ?_, q2, ?_, ?_⟩, ?_⟩
  · show 4 ≤ (4 + v4).toNat; omega
  · show (4 + v4).toNat ≤ 6; omega
  · show 1 ≤ (1 + v5).toNat; omega
  · show (1 + v5).toNat ≤ 2; omega
  · show PyData.tuple [.int p, .int (4 + v4), .str (ordT k), .str (parT q), .int (1 + v5)] = Fm.d ⟨p, (4 + v4).toNat, k, q, (1 + v5).toNat⟩
    unfold Fm.d
    rw [show (((4 + v4).toNat : Nat) : Int) = 4 + v4 by omega, show (((1 + v5).toNat : Nat) : Int) = 1 + v5 by omega]

/-! ### what is needed is there -/
theorem whole_eq (i a b : Int) : F_is_whole [.d (.int i), .d (.int a), .d (.int b)] = Sim.ret (.bool (decide (a ≤ i ∧ i ≤ b))) := by
  show seq (g_is_whole [some (.d (.int i)), some (.d (.int a)), some (.d (.int b))]) finM = _
  unfold g_is_whole
  walk_at "sem"
  by_cases h : a ≤ i
  · simp [h, seq_r]
  · simp [h, seq_r]
theorem in_ord (k : Bool) : inD (.str (ordT k)) (.tuple [.str "low", .str "high"]) = some (.bool true) := by
  cases k <;> simp [inD, inB, ordT, PyData.eqv, PyData.depth, PyData.depthAll]
theorem in_par {q : Nat} (h : q ≤ 2) : inD (.str (parT q)) (.tuple [.str "none", .str "even", .str "odd"]) = some (.bool true) := by
  match q, h with
  | 0, _ => simp [inD, inB, parT, PyData.eqv, PyData.depth, PyData.depthAll]
  | 1, _ => simp [inD, inB, parT, PyData.eqv, PyData.depth, PyData.depthAll]
  | 2, _ => simp [inD, inB, parT, PyData.eqv, PyData.depth, PyData.depthAll]
theorem one_eq {s : Str} {xs : List D} {k : Bool} (h : inD (.str s) (.tuple xs) = some (.bool k)) : F_is_one_of [.d (.str s), .d (.tuple xs)] = Sim.ret (.bool k) := by
  show seq (g_is_one_of [some (.d (.str s)), some (.d (.tuple xs))]) finM = _
  unfold g_is_one_of
  walk_at "sem"
  rw [h]; rfl
theorem is_form_eq {f : Fm} (hf : f.Ok) : F_is_form [.d f.d] = Sim.ret (.bool true) := by
  obtain ⟨p1, p2, b1, b2, q2, s1, s2⟩ := hf
  show seq (g_is_form [some (.d f.d)]) finM = _
  unfold g_is_form Fm.d
  walk_at "sem"
  rw [whole_eq, decide_eq_true (by omega)]
  walk_at "sem"
  rw [whole_eq, decide_eq_true (by omega)]
  walk_at "sem"
  rw [one_eq (in_ord _)]
  walk_at "sem"
  rw [one_eq (in_par q2)]
  walk_at "sem"
  rw [whole_eq, decide_eq_true (by omega)]
  rfl
theorem need_form_eq {f : Fm} (hf : f.Ok) : F_need_form [.d f.d] = Sim.ret .none := by
  show seq (g_need_form [some (.d f.d)]) finM = _
  unfold g_need_form
  walk_at "sem"
  rw [is_form_eq hf]
  walk_at "sem"
/-! ### signs -/
def Bin (l : List Nat) : Prop := ∀ c ∈ l, c = 48 ∨ c = 49
theorem in_01 {c : Nat} (h : c = 48 ∨ c = 49) : inD (.str (txt [c])) (.str "01") = some (.bool true) := by
  have : inB (.str (txt [c])) (.str "01") = some (decide (c ∈ ("01" : Str).cps.toList)) := by simp [inB, txt]
  rw [inD, this]
  have e : ("01" : Str).cps.toList = [48, 49] := by decide +kernel
  rw [e]
  rcases h with rfl | rfl <;> rfl
theorem need_samples_eq {l : List Nat} (h1 : 1 ≤ l.length) (h2 : l.length ≤ 200) (hb : Bin l) : F_need_samples [.d (.str (txt l))] = Sim.ret .none := by
  show seq (g_need_samples [some (.d (.str (txt l))), none]) finM = _
  unfold g_need_samples
  walk_at "sem"
  rw [lenD_txt (show l.length ≤ 1000000 by omega)]
  walk_at "sem"
  rw [decide_eq_true (show (1 : Int) ≤ (l.length : Int) by omega), decide_eq_true (show (l.length : Int) ≤ 200 by omega)]
  walk_at "sem"
  rw [itemsM_txt (by omega)]
  walk_at "sem"
  rw [ite_big (by omega)]
  rw [lc_mapf (fun c => PyData.str (txt [c])) _ (fun _ => .bool true) l (fun c _ => rfl) (fun c hc => ?_)]
  · walk_at "sem"
    rw [show l.map (fun _ => PyData.bool true) = (l.map fun _ => true).map PyData.bool by rw [List.map_map]; rfl, allD_map]
    walk_at "sem"
    rw [show (l.map fun _ => true).all id = true by simp]
    walk_at "sem"
  · walk_at "sem"
    rw [in_01 (hb c hc)]
    rfl
def Fm.long (f : Fm) : Nat := f.p * (1 + f.b + (if f.q = 0 then 0 else 1) + f.s)
theorem long_eq {f : Fm} (hf : f.Ok) : F_long_of [.d f.d] = Sim.ret (.int f.long) := by
  obtain ⟨p1, p2, b1, b2, q2, s1, s2⟩ := hf
  show seq (g_long_of [some (.d f.d)]) finM = _
  unfold g_long_of Fm.d
  walk_at "sem"
  rw [par_none q2]
  walk_at "sem"
  rw [show intD [.bool (decide (f.q ≠ 0))] = some (.int (if f.q = 0 then 0 else 1)) by by_cases h : f.q = 0 <;> simp [intD, h]]
  walk_at "sem"
  rw [mulD_ii (.inl (by omega))]
  walk_at "sem"
  unfold Fm.long
  congr 2
  split <;> simp <;> omega
theorem Fm.long_le {f : Fm} (hf : f.Ok) : 1 ≤ f.long ∧ f.long ≤ 60 := by
  obtain ⟨p1, p2, b1, b2, q2, s1, s2⟩ := hf
  unfold Fm.long
  have h1 : 1 * 6 ≤ f.p * (1 + f.b + (if f.q = 0 then 0 else 1) + f.s) := Nat.mul_le_mul p1 (by split <;> omega)
  have h2 : f.p * (1 + f.b + (if f.q = 0 then 0 else 1) + f.s) ≤ 6 * 10 := Nat.mul_le_mul p2 (by split <;> omega)
  omega
theorem Fm.fr_bin (f : Fm) (w : Nat) : Bin (f.fr w) := by
  intro c hc
  simp only [Fm.fr, List.mem_flatMap, List.mem_replicate] at hc
  obtain ⟨x, hx, _, rfl⟩ := hc
  have := Fm.row_le hx
  omega
theorem top_eq {b : Nat} (h1 : 4 ≤ b) (h2 : b ≤ 6) : F_top_of [.d (.int b)] = Sim.ret (.int ((2 ^ b : Nat) - 1 : Int)) := by
  match b, h1, h2 with
  | 4, _, _ => rfl
  | 5, _, _ => rfl
  | 6, _, _ => rfl
/-! ### ticks apart -/
def apartL (a b : List Nat) : Nat := ((List.range a.length).filter fun i => !decide (a[i]? = b[i]?)).length
/-! ### frames are told apart -/
theorem bits_succ (b w : Nat) : bitsL (b + 1) w = (w % 2) :: bitsL b (w / 2) := by
  unfold bitsL
  rw [List.range_succ_eq_map, List.map_cons, List.map_map]
  simp only [Nat.pow_zero, Nat.div_one]
  congr 1
  refine List.map_congr_left fun i _ => ?_
  simp only [Function.comp, Nat.succ_eq_add_one, Nat.pow_succ]
  rw [Nat.div_div_eq_div_mul, Nat.mul_comm]
def valL : List Nat → Nat
  | [] => 0
  | x :: l => x + 2 * valL l
theorem val_bits : ∀ b w : Nat, valL (bitsL b w) = w % 2 ^ b
  | 0, w => by simp [bitsL, valL, Nat.mod_one]
  | b + 1, w => by rw [bits_succ, valL, val_bits b (w / 2), Nat.pow_succ, Nat.mul_comm (2 ^ b) 2, Nat.mod_mul]
theorem bits_inj {b w v : Nat} (hw : w < 2 ^ b) (hv : v < 2 ^ b) (h : bitsL b w = bitsL b v) : w = v := by
  have := congrArg valL h
  rw [val_bits, val_bits, Nat.mod_eq_of_lt hw, Nat.mod_eq_of_lt hv] at this
  exact this
theorem reps_inj {p : Nat} (hp : 1 ≤ p) : ∀ {l m : List Nat}, l.length = m.length → (l.flatMap fun x => List.replicate p (48 + x)) = (m.flatMap fun x => List.replicate p (48 + x)) → l = m
  | [], [], _, _ => rfl
  | a :: l, b :: m, hl, h => by
    simp only [List.flatMap_cons] at h
    have h1 := List.append_inj h (by simp)
    have h2 := reps_inj hp (l := l) (m := m) (by simpa using hl) h1.2
    have h3 : 48 + a = 48 + b := by
      have e := h1.1
      obtain ⟨q, rfl⟩ : ∃ q, p = q + 1 := ⟨p - 1, by omega⟩
      simp only [List.replicate_succ, List.cons.injEq] at e
      exact e.1
    rw [h2, show a = b by omega]
  | [], _ :: _, hl, _ => by simp at hl
  | _ :: _, [], hl, _ => by simp at hl
theorem Fm.fr_inj {f : Fm} (hf : f.Ok) {w v : Nat} (hw : w < 2 ^ f.b) (hv : v < 2 ^ f.b) (h : f.fr w = f.fr v) : w = v := by
  have h1 : f.row w = f.row v := reps_inj hf.p1 (by rw [Fm.row_len, Fm.row_len]) h
  unfold Fm.row at h1
  simp only [List.append_assoc, List.singleton_append, List.cons.injEq, true_and] at h1
  have h2 := (List.append_inj h1 (by split <;> simp [bits_len])).1
  split at h2
  · exact bits_inj hw hv (List.cons.inj h2).2
  · exact bits_inj hw hv (List.reverse_inj.mp (List.cons.inj h2).2)

/-! ### rows, samples that are sent -/
def rowD (r : Nat × Nat) : D := .tuple [.int r.1, .int r.2]
def rowsD (rs : List (Nat × Nat)) : D := .tuple (rs.map rowD)
def Fm.part (f : Fm) (r : Nat × Nat) : List Nat := List.replicate r.1 49 ++ f.fr r.2
def Fm.sentL (f : Fm) (rs : List (Nat × Nat)) (rest : Nat) : List Nat := rs.flatMap f.part ++ List.replicate rest 49
structure RowOk (f : Fm) (r : Nat × Nat) : Prop where
  g : r.1 ≤ 200
  w : r.2 < 2 ^ f.b
theorem u1 : ("1" : Str) = txt [49] := by decide +kernel
theorem Fm.part_len (f : Fm) (r : Nat × Nat) : (f.part r).length = r.1 + f.long := by
  unfold Fm.part
  rw [List.length_append, List.length_replicate, Fm.fr_len]; rfl
theorem Fm.part_bin (f : Fm) (r : Nat × Nat) : Bin (f.part r) := fun c hc => by
  rcases List.mem_append.mp hc with h | h
  · exact .inr (List.mem_replicate.mp h).2
  · exact f.fr_bin _ c h
theorem Fm.sent_bin (f : Fm) (rs : List (Nat × Nat)) (rest : Nat) : Bin (f.sentL rs rest) := fun c hc => by
  rcases List.mem_append.mp hc with h | h
  · obtain ⟨r, _, h⟩ := List.mem_flatMap.mp h
    exact f.part_bin r c h
  · exact .inr (List.mem_replicate.mp h).2
theorem Fm.parts_le {f : Fm} (hf : f.Ok) : ∀ {rs : List (Nat × Nat)}, (∀ r ∈ rs, r.1 ≤ 200) → (rs.map (List.length ∘ f.part)).sum ≤ rs.length * 260
  | [], _ => by simp
  | r :: rs, h => by
    have ih := Fm.parts_le hf (rs := rs) fun x hx => h x (List.mem_cons_of_mem _ hx)
    have h1 := h r List.mem_cons_self
    have h2 := Fm.long_le hf
    simp only [List.map_cons, List.sum_cons, Function.comp, Fm.part_len, List.length_cons]
    have e : (rs.map (List.length ∘ f.part)).sum = (rs.map fun x => x.1 + f.long).sum := congrArg List.sum (List.map_congr_left fun x _ => f.part_len x)
    have e2 : (List.map (fun x => (f.part x).length) rs).sum = (rs.map fun x => x.1 + f.long).sum := e
    rw [e] at ih
    omega
theorem join_parts {f : Fm} (hf : f.Ok) {rs : List (Nat × Nat)} (hl : rs.length ≤ 100) (h : ∀ r ∈ rs, r.1 ≤ 200) : joinD (.str "") [.list (rs.map fun r => .str (txt (f.part r)))] = some (.str (txt (rs.flatMap f.part))) := by
  have := joinD_txt (ls := rs.map f.part) (by
    rw [List.map_map]
    have h1 := Fm.parts_le hf h
    have h2 : rs.length * 260 ≤ 100 * 260 := Nat.mul_le_mul_right _ hl
    show _ ≤ 1000000
    omega)
  rw [List.map_map] at this
  rw [show (.str "" : D) = .str (txt []) by rw [show ("" : Str) = txt [] by decide +kernel]]
  rw [show rs.flatMap f.part = (rs.map f.part).flatten from rfl]
  exact this
theorem parts_len_le {f : Fm} (hf : f.Ok) {rs : List (Nat × Nat)} (hl : rs.length ≤ 100) (h : ∀ r ∈ rs, r.1 ≤ 200) : (rs.flatMap f.part).length ≤ 26000 := by
  have h1 := Fm.parts_le hf h
  have h2 : rs.length * 260 ≤ 100 * 260 := Nat.mul_le_mul_right _ hl
  have e : (rs.flatMap f.part).length = (rs.map (List.length ∘ f.part)).sum := by
    rw [List.length_flatMap]; rfl
  omega
/-- gap and frame in one text -/
theorem part_eq {f : Fm} (hf : f.Ok) {r : Nat × Nat} (h : r.1 ≤ 200) : (seq (lift (mulD (.str "1") (.int r.1))) fun a => lift (addD a (.str (txt (f.fr r.2))))) = Sim.ret (.str (txt (f.part r))) := by
  have hL := Fm.long_le hf
  rw [u1, mul_bit (by omega), lift_s, seq_r, addD_txt (by rw [List.length_replicate, Fm.fr_len]; show r.1 + f.long ≤ 1000000; omega)]
  rfl
/-! ### reading: the plain side -/
def optD : Option Nat → D
  | some w => .int w
  | none => .none
def Fm.wordL (f : Fm) (part : List Nat) : Option Nat := (List.range (2 ^ f.b)).find? fun w => decide (f.fr w = part)
theorem Fm.wordL_some {f : Fm} (hf : f.Ok) {part : List Nat} {w : Nat} : f.wordL part = some w ↔ w < 2 ^ f.b ∧ part = f.fr w := by
  constructor
  · intro h
    have h1 := List.find?_some h
    have h2 := List.mem_of_find?_eq_some h
    exact ⟨List.mem_range.mp h2, (of_decide_eq_true h1).symm⟩
  · rintro ⟨h1, rfl⟩
    cases e : f.wordL (f.fr w) with
    | none =>
      have := List.find?_eq_none.mp e w (List.mem_range.mpr h1)
      simp at this
    | some v =>
      unfold Fm.wordL at e
      have h2 := List.find?_some (p := fun x => decide (f.fr x = f.fr w)) e
      have h2 := of_decide_eq_true h2
      have h3 := List.mem_range.mp (List.mem_of_find?_eq_some e)
      rw [Fm.fr_inj hf h3 h1 h2]
theorem Fm.wordL_none {f : Fm} (hf : f.Ok) {part : List Nat} (h : ∀ w, w < 2 ^ f.b → part ≠ f.fr w) : f.wordL part = none := by
  cases e : f.wordL part with
  | none => rfl
  | some w =>
    have := (Fm.wordL_some hf).mp e
    exact absurd this.2 (h w this.1)
theorem Fm.fr_head (f : Fm) (hf : f.Ok) (w : Nat) : ∃ t, f.fr w = 48 :: t := by
  obtain ⟨q, hq⟩ : ∃ q, f.p = q + 1 := ⟨f.p - 1, by have := hf.p1; omega⟩
  unfold Fm.fr Fm.row
  simp only [List.append_assoc, List.singleton_append, List.flatMap_cons, hq, List.replicate_succ, List.cons_append]
  exact ⟨_, rfl⟩
def Fm.parse (f : Fm) : Nat → List Nat → Nat → Option (List (Nat × Nat) × Nat)
  | 0, _, _ => none
  | _ + 1, [], gap => some ([], gap)
  | k + 1, c :: t, gap => if c = 49 then f.parse k t (gap + 1) else match f.wordL ((c :: t).take f.long) with
    | none => none
    | some w => (f.parse k ((c :: t).drop f.long) 0).map fun x => ((gap, w) :: x.1, x.2)
theorem sentL_cons (f : Fm) (r : Nat × Nat) (rs : List (Nat × Nat)) (rest : Nat) : f.sentL (r :: rs) rest = List.replicate r.1 49 ++ (f.fr r.2 ++ f.sentL rs rest) := by
  simp [Fm.sentL, Fm.part, List.flatMap_cons]
theorem reps_split {c a b : Nat} {x y : List Nat} (hc : c ≠ 49) : List.replicate a 49 ++ c :: x = List.replicate b 49 ++ 48 :: y → a = b ∧ c :: x = 48 :: y := by
  induction a generalizing b with
  | zero =>
    cases b with
    | zero => exact fun h => ⟨rfl, h⟩
    | succ b =>
      intro h
      rw [List.replicate_succ] at h
      exact absurd (List.cons.inj h).1 hc
  | succ a ih =>
    cases b with
    | zero =>
      intro h
      rw [List.replicate_succ] at h
      exact absurd (List.cons.inj h).1 (by decide)
    | succ b =>
      intro h
      rw [List.replicate_succ, List.replicate_succ] at h
      have := ih (List.cons.inj h).2
      exact ⟨by omega, this.2⟩
theorem Fm.parse_iff {f : Fm} (hf : f.Ok) : ∀ (k : Nat) (l : List Nat) (gap : Nat) (rs : List (Nat × Nat)) (rest : Nat), l.length < k →
    (f.parse k l gap = some (rs, rest) ↔ (∀ r ∈ rs, r.2 < 2 ^ f.b) ∧ List.replicate gap 49 ++ l = f.sentL rs rest)
  | 0, l, gap, rs, rest, h => by omega
  | k + 1, [], gap, rs, rest, h => by
    simp only [Fm.parse, List.append_nil]
    constructor
    · intro e
      cases e
      exact ⟨(fun _ h => by cases h), rfl⟩
    · rintro ⟨_, e⟩
      cases rs with
      | nil =>
        have : gap = rest := by
          have := congrArg List.length e
          simpa [Fm.sentL] using this
        rw [this]
      | cons r rs =>
        obtain ⟨t, ht⟩ := f.fr_head hf r.2
        have hm : 48 ∈ List.replicate gap 49 := by
          rw [e, sentL_cons, ht]; simp
        exact absurd (List.mem_replicate.mp hm).2 (by decide)
  | k + 1, c :: t, gap, rs, rest, h => by
    have hL := Fm.long_le hf
    simp only [List.length_cons] at h
    by_cases hc : c = 49
    · subst hc
      simp only [Fm.parse, if_true]
      rw [Fm.parse_iff hf k t (gap + 1) rs rest (by omega)]
      have : List.replicate gap 49 ++ 49 :: t = List.replicate (gap + 1) 49 ++ t := by
        rw [List.replicate_succ', List.append_assoc]; rfl
      rw [this]
    · simp only [Fm.parse, if_neg hc]
      constructor
      · intro e
        cases hw : f.wordL ((c :: t).take f.long) with
        | none => rw [hw] at e; cases e
        | some w =>
          rw [hw] at e
          simp only [Option.map_eq_some_iff] at e
          obtain ⟨⟨rs', rest'⟩, e1, e2⟩ := e
          cases e2
          have hw := (Fm.wordL_some hf).mp hw
          have ih := (Fm.parse_iff hf k ((c :: t).drop f.long) 0 rs' rest' (by rw [List.length_drop, List.length_cons]; omega)).mp e1
          refine ⟨fun r hr => ?_, ?_⟩
          · rcases List.mem_cons.mp hr with rfl | hr
            · exact hw.1
            · exact ih.1 r hr
          · rw [sentL_cons, ← hw.2, ← ih.2]
            simp
      · rintro ⟨hr, e⟩
        cases rs with
        | nil =>
          have hm : c ∈ f.sentL [] rest := by rw [← e]; simp
          have hm2 : c ∈ List.replicate rest 49 := hm
          exact absurd (List.mem_replicate.mp hm2).2 hc
        | cons r rs =>
          obtain ⟨u, hu⟩ := f.fr_head hf r.2
          rw [sentL_cons, hu, List.cons_append] at e
          obtain ⟨e1, e2⟩ := reps_split hc e
          rw [← List.cons_append, ← hu] at e2
          have hlen : (f.fr r.2).length = f.long := f.fr_len r.2
          have ht : (c :: t).take f.long = f.fr r.2 := by rw [e2, ← hlen, List.take_left]
          have hd : (c :: t).drop f.long = f.sentL rs rest := by rw [e2, ← hlen, List.drop_left]
          rw [ht, (Fm.wordL_some hf).mpr ⟨hr r List.mem_cons_self, rfl⟩, hd]
          have ih := (Fm.parse_iff hf k ((c :: t).drop f.long) 0 rs rest (by rw [List.length_drop, List.length_cons]; omega)).mpr ⟨fun x hx => hr x (List.mem_cons_of_mem _ hx), by rw [hd]; rfl⟩
          rw [hd] at ih
          simp only [ih, Option.map_some, e1]
def Fm.readL (f : Fm) (l : List Nat) : Option (List (Nat × Nat) × Nat) := (f.parse 1000 l 0).bind fun x => if x.1 = [] then none else some x
theorem Fm.readL_iff {f : Fm} (hf : f.Ok) {l : List Nat} (hl : l.length < 1000) {rs : List (Nat × Nat)} {rest : Nat} : f.readL l = some (rs, rest) ↔ rs ≠ [] ∧ (∀ r ∈ rs, r.2 < 2 ^ f.b) ∧ l = f.sentL rs rest := by
  have h := Fm.parse_iff hf 1000 l 0 rs rest hl
  simp only [List.replicate_zero, List.nil_append] at h
  rw [← h]
  unfold Fm.readL
  constructor
  · intro e
    obtain ⟨x, h1, h2⟩ := Option.bind_eq_some_iff.mp e
    split at h2
    · cases h2
    · cases h2
      rename_i hn
      exact ⟨hn, h1⟩
  · rintro ⟨h1, h2⟩
    rw [h2, Option.bind_some, if_neg h1]
theorem Fm.readL_sent {f : Fm} (hf : f.Ok) {rs : List (Nat × Nat)} {rest : Nat} (h1 : rs ≠ []) (h2 : ∀ r ∈ rs, r.2 < 2 ^ f.b) (hl : (f.sentL rs rest).length < 1000) : f.readL (f.sentL rs rest) = some (rs, rest) := (Fm.readL_iff hf hl).mpr ⟨h1, h2, rfl⟩
def readD : Option (List (Nat × Nat) × Nat) → D
  | some (rs, rest) => .tuple [rowsD rs, .int rest]
  | none => .none
/-! ### bits of samples -/
theorem valL_lt : ∀ {l : List Nat}, (∀ x ∈ l, x ≤ 1) → valL l < 2 ^ l.length
  | [], _ => by simp [valL]
  | x :: l, h => by
    have ih := valL_lt (l := l) fun y hy => h y (List.mem_cons_of_mem _ hy)
    have := h x List.mem_cons_self
    simp only [valL, List.length_cons, Nat.pow_succ]
    omega
theorem bits_val : ∀ {l : List Nat}, (∀ x ∈ l, x ≤ 1) → bitsL l.length (valL l) = l
  | [], _ => rfl
  | x :: l, h => by
    have ih := bits_val (l := l) fun y hy => h y (List.mem_cons_of_mem _ hy)
    have hx := h x List.mem_cons_self
    rw [List.length_cons, bits_succ, valL]
    rw [show (x + 2 * valL l) % 2 = x by omega, show (x + 2 * valL l) / 2 = valL l by omega, ih]
def chunk (p : Nat) (part : List Nat) (i : Nat) : List Nat := (part.drop (i * p)).take p
theorem chunks_flat {p : Nat} (g : Nat → Nat) : ∀ (c : Nat) (part : List Nat), part.length = c * p → (∀ i, i < c → chunk p part i = List.replicate p (g i)) → part = (List.range c).flatMap fun i => List.replicate p (g i)
  | 0, part, hl, _ => by
    have : part = [] := by rw [Nat.zero_mul] at hl; exact List.length_eq_zero_iff.mp hl
    subst this; rfl
  | c + 1, part, hl, h => by
    have hlc : part.length = c * p + p := by rw [hl, Nat.succ_mul]
    have ih := chunks_flat (p := p) g c (part.take (c * p)) (by rw [List.length_take, Nat.min_eq_left (by omega)]) fun i hi => by
      have := h i (by omega)
      have hip : i * p + p ≤ c * p := by rw [← Nat.succ_mul]; exact Nat.mul_le_mul_right _ hi
      unfold chunk at this ⊢
      rw [List.drop_take, List.take_take, Nat.min_eq_left (by omega)]
      exact this
    have hlast := h c (by omega)
    unfold chunk at hlast
    rw [List.take_of_length_le (by rw [List.length_drop]; omega)] at hlast
    rw [List.range_succ, List.flatMap_append, ← ih]
    simp only [List.flatMap_cons, List.flatMap_nil, List.append_nil]
    rw [← hlast, List.take_append_drop]
theorem chunk_flat {p : Nat} : ∀ (r : List Nat) (i : Nat) (x : Nat), r[i]? = some x → chunk p (r.flatMap fun x => List.replicate p (48 + x)) i = List.replicate p (48 + x)
  | [], i, x, h => by simp at h
  | y :: r, 0, x, h => by
    simp only [List.getElem?_cons_zero, Option.some.injEq] at h
    subst h
    simp [chunk, List.flatMap_cons, List.take_append_of_le_length]
  | y :: r, i + 1, x, h => by
    have ih := chunk_flat (p := p) r i x (by simpa using h)
    unfold chunk at ih ⊢
    rw [List.flatMap_cons, Nat.succ_mul, Nat.add_comm (i * p) p, ← List.drop_drop, List.drop_left' (by simp)]
    exact ih
def bitL (c : List Nat) : Option Nat := if c = List.replicate c.length (c.headD 0) ∧ c ≠ [] then some (c.headD 0 - 48) else none
theorem bitL_rep {p x : Nat} (hp : 1 ≤ p) : bitL (List.replicate p (48 + x)) = some x := by
  obtain ⟨q, rfl⟩ : ∃ q, p = q + 1 := ⟨p - 1, by omega⟩
  unfold bitL
  rw [if_pos ⟨by simp [List.replicate_succ], by simp [List.replicate_succ]⟩]
  simp [List.replicate_succ]
theorem bitL_some {c : List Nat} {x : Nat} (hb : Bin c) (h : bitL c = some x) : c = List.replicate c.length (48 + x) ∧ x ≤ 1 := by
  unfold bitL at h
  split at h
  · rename_i hc
    cases h
    obtain ⟨h1, h2⟩ := hc
    cases c with
    | nil => exact absurd rfl h2
    | cons a t =>
      simp only [List.headD_cons] at h1 ⊢
      have ha := hb a List.mem_cons_self
      have e : 48 + (a - 48) = a := by omega
      rw [e]
      exact ⟨h1, by omega⟩
  · cases h
theorem v0 : ("" : Str) = txt [] := by decide +kernel
theorem int_sign {a : Nat} (h : a = 48 ∨ a = 49) : intD [.str (txt [a])] = some (.int (a - 48 : Nat)) := by
  rcases h with rfl | rfl
  · show (if (txt [48]).length ≤ 640 then (PySem.intText? (txt [48])).map PyData.int else none) = _
    rw [txt_len, if_pos (by decide), show PySem.intText? (txt [48]) = some 0 by decide +kernel]; rfl
  · show (if (txt [49]).length ≤ 640 then (PySem.intText? (txt [49])).map PyData.int else none) = _
    rw [txt_len, if_pos (by decide), show PySem.intText? (txt [49]) = some 1 by decide +kernel]; rfl
theorem bit_of_eq {c : List Nat} (hb : Bin c) (h0 : c ≠ []) (hl : c.length ≤ 1000) : F_bit_of [.d (.str (txt c))] = Sim.ret (optD (bitL c)) := by
  cases c with
  | nil => exact absurd rfl h0
  | cons a t =>
    show seq (g_bit_of [some (.d (.str (txt (a :: t))))]) finM = _
    unfold g_bit_of
    walk_at "sem"
    rw [v0, eqD_txt]
    walk_at "sem"
    rw [show decide ((a :: t) = []) = false by simp]
    walk_at "sem"
    rw [ixD_txt (show (a :: t).length ≤ 1000000 by omega), atI_0]
    walk_at "sem"
    rw [lenD_txt (show (a :: t).length ≤ 1000000 by omega)]
    walk_at "sem"
    rw [mul_bit (by simpa using hl)]
    walk_at "sem"
    rw [neD_txt]
    walk_at "sem"
    by_cases h : a :: t = List.replicate (t.length + 1) a
    · rw [decide_eq_true h]
      walk_at "sem"
      rw [ixD_txt (show (a :: t).length ≤ 1000000 by omega), atI_0]
      walk_at "sem"
      rw [int_sign (hb a List.mem_cons_self)]
      walk_at "sem"
      rw [show bitL (a :: t) = some (a - 48) by unfold bitL; rw [if_pos ⟨h, by simp⟩]; rfl]
      rfl
    · rw [decide_eq_false h]
      walk_at "sem"
      rw [show bitL (a :: t) = none by unfold bitL; rw [if_neg fun z => h z.1]]
      rfl
theorem fold_val : ∀ l : List Nat, l.foldr (fun x a => 2 * a + x) 0 = valL l
  | [] => rfl
  | x :: l => by rw [List.foldr_cons, fold_val l, valL]; omega
theorem word_loop (x y : Option SV) : ∀ (l : List Nat) (w : Nat) (z : Option SV), ∃ z', forF (bndN 3) (setS 2 (opE addD (opE mulD (cE (.int 2)) (varE 2)) (varE 3))) (l.map intD') [x, y, some (.d (.int w)), z] = Sim.ret (.next [x, y, some (.d (.int (l.foldl (fun a b => 2 * a + b) w : Nat))), z'])
  | [], w, z => ⟨z, rfl⟩
  | b :: l, w, z => by
    obtain ⟨z', e⟩ := word_loop x y l (2 * w + b) (some (.d (.int b)))
    refine ⟨z', ?_⟩
    simp only [List.map_cons, forF, intD']
    walk_at "sem"
    rw [mulD_ii (.inl (by decide))]
    walk_at "sem"
    rw [show (2 : Int) * (w : Int) + (b : Int) = ((2 * w + b : Nat) : Int) by omega]
    exact e
theorem word_of_eq {f : Fm} (r : List Nat) : F_word_of [.d f.d, .d (.list (r.map intD'))] = Sim.ret (.int (valL (if f.lo then r else r.reverse) : Nat)) := by
  show seq (g_word_of [some (.d f.d), some (.d (.list (r.map intD'))), none, none]) finM = _
  unfold g_word_of Fm.d
  walk_at "sem"
  rw [ord_low]
  walk_at "sem"
  obtain ⟨z', e⟩ := word_loop (some (.d (PyData.tuple [PyData.int f.p, PyData.int f.b, PyData.str (ordT f.lo), PyData.str (parT f.q), PyData.int f.s]))) (some (.d (.list (r.map intD')))) (if f.lo then r.reverse else r) 0 none
  cases hlo : f.lo with
  | true =>
    rw [hlo] at e
    simp only [if_true, ← List.map_reverse] at e ⊢
    walk_at "sem"
    rw [show (0 : Int) = ((0 : Nat) : Int) from rfl, e]
    walk_at "sem"
    rw [List.foldl_reverse, fold_val]
  | false =>
    rw [hlo] at e
    simp only [Bool.false_eq_true, if_false] at e ⊢
    walk_at "sem"
    rw [show (0 : Int) = ((0 : Nat) : Int) from rfl, e]
    walk_at "sem"
    rw [← fold_val, List.foldr_reverse]
theorem rng3_def (i j c : Int) : rng3M [.int i, .int j, .int c] = if c ≠ 0 ∧ c.natAbs < 1073741824 ∧ Builtin.Range.small i j c = true ∧ 0 ≤ Builtin.Range.rangeSize i j c then Sim.ret (Sim.intsFrom i (Builtin.Range.rangeSize i j c).toNat c) else fault := rfl
theorem rng3_nat {p c : Nat} (h1 : 1 ≤ p) (h2 : p ≤ 6) (h4 : c ≤ 10) : rng3M [.int 0, .int ((p * c : Nat) : Int), .int (p : Int)] = Sim.ret ((List.range c).map fun i => intD' (i * p)) := by
  have key : ∀ p, p < 7 → ∀ c, c < 11 → 1 ≤ p → Builtin.Range.small 0 ((p * c : Nat) : Int) (p : Int) = true ∧ Builtin.Range.rangeSize 0 ((p * c : Nat) : Int) (p : Int) = (c : Int) := by decide +kernel
  obtain ⟨k1, k2⟩ := key p (by omega) c (by omega) h1
  have hc : (p : Int) ≠ 0 ∧ (p : Int).natAbs < 1073741824 ∧ Builtin.Range.small 0 ((p * c : Nat) : Int) (p : Int) = true ∧ 0 ≤ Builtin.Range.rangeSize 0 ((p * c : Nat) : Int) (p : Int) := ⟨by omega, by omega, k1, by rw [k2]; omega⟩
  rw [rng3_def, if_pos hc, k2, Int.toNat_natCast]
  refine congrArg Sim.ret ?_
  unfold Sim.intsFrom
  refine List.map_congr_left fun i _ => ?_
  refine congrArg PyData.int ?_
  rw [Int.natCast_mul, Int.zero_add]
theorem in_none (os : List (Option Nat)) : inD .none (.list (os.map optD)) = some (.bool (os.any Option.isNone)) := by
  have : inB .none (.list (os.map optD)) = some (os.any Option.isNone) := by
    show (if min (PyData.depthAll (os.map optD)) (PyData.none).depth ≤ 60 then some ((os.map optD).any fun y => PyData.eqv y .none) else none) = _
    rw [if_pos (Nat.le_trans (Nat.min_le_right _ _) (by simp [PyData.depth])), List.any_map]
    congr 1
    congr 1
    funext o
    cases o <;> simp [optD, PyData.eqv]
  rw [inD, this]; rfl
theorem eqv_nats : ∀ A B : List Nat, PyData.eqvAll (A.map intD') (B.map intD') = decide (A = B)
  | [], [] => rfl
  | [], b :: B => by simp [PyData.eqvAll]
  | a :: A, [] => by simp [PyData.eqvAll]
  | a :: A, b :: B => by
    have e : PyData.eqv (intD' a) (intD' b) = decide (a = b) := by
      show PyData.eqv (.int a) (.int b) = _
      rw [PyData.eqv]
      by_cases h : a = b
      · subst h; simp
      · rw [decide_eq_false h]; exact beq_eq_false_iff_ne.mpr fun z => h (by omega)
    rw [List.map_cons, List.map_cons, PyData.eqvAll, eqv_nats A B, e]
    by_cases h1 : a = b <;> by_cases h2 : A = B <;> simp [h1, h2]
theorem depth_nats (A : List Nat) : PyData.depthAll (A.map intD') = 0 := by
  induction A with
  | nil => rfl
  | cons a A ih => rw [List.map_cons, PyData.depthAll, ih]; rfl
theorem ne_nats (A B : List Nat) : neD (.list (A.map intD')) (.list (B.map intD')) = some (.bool (!decide (A = B))) := by
  unfold neD
  rw [if_pos (by rw [PyData.depth, depth_nats]; exact Nat.le_trans (Nat.min_le_left _ _) (by decide)), PyData.eqv, eqv_nats]
theorem eq_nats (A B : List Nat) : eqD (.list (A.map intD')) (.list (B.map intD')) = some (.bool (decide (A = B))) := by
  unfold eqD
  rw [if_pos (by rw [PyData.depth, depth_nats]; exact Nat.le_trans (Nat.min_le_left _ _) (by decide)), PyData.eqv, eqv_nats]
def Fm.cnt (f : Fm) : Nat := 1 + f.b + (if f.q = 0 then 0 else 1) + f.s
theorem Fm.cnt_le {f : Fm} (hf : f.Ok) : 6 ≤ f.cnt ∧ f.cnt ≤ 10 := by
  obtain ⟨p1, p2, b1, b2, q2, s1, s2⟩ := hf
  unfold Fm.cnt
  split <;> omega
def Fm.parL (f : Fm) (bits : List Nat) : List Nat := if f.q = 0 then [] else if f.q = 1 then [bits.sum % 2] else [1 - bits.sum % 2]
def Fm.wordB (f : Fm) (bits : List Nat) : Nat := valL (if f.lo then bits else bits.reverse)
theorem Fm.row_wordB {f : Fm} {bits : List Nat} (hl : bits.length = f.b) (hb : ∀ x ∈ bits, x ≤ 1) : f.row (f.wordB bits) = [0] ++ bits ++ f.parL bits ++ List.replicate f.s 1 := by
  have e : bitsL f.b (f.wordB bits) = if f.lo then bits else bits.reverse := by
    unfold Fm.wordB
    split
    · rw [← hl, bits_val hb]
    · rw [← hl, ← List.length_reverse, bits_val (fun x hx => hb x (List.mem_reverse.mp hx))]
  have e2 : (if f.lo then bitsL f.b (f.wordB bits) else (bitsL f.b (f.wordB bits)).reverse) = bits := by
    rw [e]
    cases f.lo <;> simp
  have e3 : (bitsL f.b (f.wordB bits)).sum = bits.sum := by
    rw [e]
    cases f.lo <;> simp
  unfold Fm.row Fm.parL
  simp only [e2, e3]
theorem Fm.wordB_lt {f : Fm} {bits : List Nat} (hl : bits.length = f.b) (hb : ∀ x ∈ bits, x ≤ 1) : f.wordB bits < 2 ^ f.b := by
  unfold Fm.wordB
  split
  · rw [← hl]; exact valL_lt hb
  · rw [← hl, ← List.length_reverse]; exact valL_lt fun x hx => hb x (List.mem_reverse.mp hx)
/-- a row of bits is a word's row, or none -/
theorem Fm.row_cut (f : Fm) (w : Nat) : ∃ bits, bits.length = f.b ∧ f.row w = 0 :: (bits ++ (f.parL bits ++ List.replicate f.s 1)) := by
  refine ⟨if f.lo then bitsL f.b w else (bitsL f.b w).reverse, by split <;> simp [bits_len], ?_⟩
  have e3 : (if f.lo then bitsL f.b w else (bitsL f.b w).reverse).sum = (bitsL f.b w).sum := by cases f.lo <;> simp
  unfold Fm.row Fm.parL
  simp only [e3, List.append_assoc, List.singleton_append, List.cons_append, List.nil_append]
theorem Fm.wordL_row {f : Fm} (hf : f.Ok) {r' : List Nat} (hr : ∀ x ∈ r', x ≤ 1) (r0 : Nat) (hl : r'.length + 1 = f.cnt) :
    f.wordL ((r0 :: r').flatMap fun x => List.replicate f.p (48 + x)) = if r0 = 0 ∧ r'.drop f.b = f.parL (r'.take f.b) ++ List.replicate f.s 1 then some (f.wordB (r'.take f.b)) else none := by
  have hb : (r'.take f.b).length = f.b := by
    rw [List.length_take]
    unfold Fm.cnt at hl
    omega
  split
  · rename_i h
    obtain ⟨rfl, h2⟩ := h
    refine (Fm.wordL_some hf).mpr ⟨Fm.wordB_lt hb fun x hx => hr x (List.mem_of_mem_take hx), ?_⟩
    unfold Fm.fr
    rw [Fm.row_wordB hb fun x hx => hr x (List.mem_of_mem_take hx)]
    congr 1
    rw [List.append_assoc, List.append_assoc, ← h2, List.take_append_drop]; rfl
  · rename_i h
    refine Fm.wordL_none hf fun w hw e => h ?_
    have e := reps_inj hf.p1 (by rw [List.length_cons, hl, Fm.row_len]; rfl) e
    obtain ⟨bits, hbl, hrow⟩ := f.row_cut w
    rw [hrow] at e
    have e1 := (List.cons.inj e).1
    have e2 := (List.cons.inj e).2
    refine ⟨e1, ?_⟩
    rw [e2, List.drop_left' hbl, List.take_left' hbl]
theorem word_at_eq {f : Fm} (hf : f.Ok) {l : List Nat} (hb : Bin l) (hl : l.length ≤ 1000) (a : Nat) : F_word_at [.d f.d, .d (.str (txt l)), .d (.int a)] = Sim.ret (optD (f.wordL ((l.drop a).take f.long))) := by
  have hL := Fm.long_le hf
  have hC := Fm.cnt_le hf
  have hpar := fun r => parity_eq hf r
  have hwo := fun r => word_of_eq (f := f) r
  obtain ⟨p1, p2, b1, b2, q2, s1, s2⟩ := hf
  have hf : f.Ok := ⟨p1, p2, b1, b2, q2, s1, s2⟩
  have hfp : ixD f.d (.int 0) = some (.int f.p) := by unfold Fm.d; rw [ixD_t, atI_0]
  have hfb : ixD f.d (.int 1) = some (.int f.b) := by unfold Fm.d; rw [ixD_t, atI_1]
  have hfs : ixD f.d (.int 4) = some (.int f.s) := by unfold Fm.d; rw [ixD_t, atI_4]
  show seq (g_word_at [some (.d f.d), some (.d (.str (txt l))), some (.d (.int a)), none, none, none, none, none]) finM = _
  unfold g_word_at
  walk_at "sem"
  rw [long_eq hf]
  walk_at "sem"
  rw [show (a : Int) + (f.long : Int) = ((a + f.long : Nat) : Int) by omega, sliceD_txt (show l.length ≤ 1000000 by omega), cutL_mid, Nat.add_sub_cancel_left]
  have hpb : Bin ((l.drop a).take f.long) := fun c hc => hb c (List.mem_of_mem_drop (List.mem_of_mem_take hc))
  have hpl : ((l.drop a).take f.long).length ≤ f.long := by rw [List.length_take]; omega
  generalize (l.drop a).take f.long = part at hpb hpl
  walk_at "sem"
  rw [lenD_txt (show part.length ≤ 1000000 by omega)]
  walk_at "sem"
  by_cases hsh : part.length < f.long
  · rw [decide_eq_true (show (part.length : Int) < (f.long : Int) by omega)]
    walk_at "sem"
    rw [Fm.wordL_none hf fun w _ e => by rw [e, Fm.fr_len] at hsh; exact absurd hsh (Nat.lt_irrefl _)]
    rfl
  · rw [decide_eq_false (show ¬ (part.length : Int) < (f.long : Int) by omega)]
    walk_at "sem"
    rw [hfp]
    walk_at "sem"
    have hlen : part.length = f.cnt * f.p := by rw [show part.length = f.long by omega, Nat.mul_comm]; rfl
    rw [show ((f.long : Nat) : Int) = ((f.p * f.cnt : Nat) : Int) from rfl, rng3_nat p1 p2 hC.2]
    walk_at "sem"
    rw [ite_big (by omega)]
    rw [lc_mapf (fun i => intD' (i * f.p)) _ (fun i => optD (bitL (chunk f.p part i))) (List.range f.cnt) (fun c _ => rfl) (fun i hi => ?_)]
    · walk_at "sem"
      have hm : (List.range f.cnt).map (fun i => optD (bitL (chunk f.p part i))) = ((List.range f.cnt).map fun i => bitL (chunk f.p part i)).map optD := by rw [List.map_map]; rfl
      rw [hm, in_none]
      walk_at "sem"
      by_cases hn : ((List.range f.cnt).map fun i => bitL (chunk f.p part i)).any Option.isNone = true
      · rw [hn]
        walk_at "sem"
        rw [Fm.wordL_none hf fun w _ e => ?_]
        · rfl
        · simp only [List.any_eq_true, List.mem_map, List.mem_range] at hn
          obtain ⟨o, ⟨i, hi, rfl⟩, ho⟩ := hn
          have hrl : (f.row w).length = f.cnt := f.row_len w
          have hx : (f.row w)[i]? = some ((f.row w)[i]'(by omega)) := List.getElem?_eq_getElem (by omega)
          rw [e] at ho
          unfold Fm.fr at ho
          rw [chunk_flat _ i _ hx, bitL_rep p1] at ho
          cases ho
      · have hn' : ((List.range f.cnt).map fun i => bitL (chunk f.p part i)).any Option.isNone = false := by simpa using hn
        rw [hn']
        have hsome : ∀ i, i < f.cnt → ∃ x, bitL (chunk f.p part i) = some x := fun i hi => by
          cases e : bitL (chunk f.p part i) with
          | some x => exact ⟨x, rfl⟩
          | none =>
            exfalso
            apply hn
            simp only [List.any_eq_true, List.mem_map, List.mem_range]
            exact ⟨none, ⟨i, hi, e⟩, rfl⟩
        have hcl : ∀ i, i < f.cnt → (chunk f.p part i).length = f.p := fun i hi => by
          unfold chunk
          rw [List.length_take, List.length_drop, hlen]
          have : i * f.p + f.p ≤ f.cnt * f.p := by rw [← Nat.succ_mul]; exact Nat.mul_le_mul_right _ hi
          omega
        have hcb : ∀ i, Bin (chunk f.p part i) := fun i c hc => hpb c (List.mem_of_mem_drop (List.mem_of_mem_take hc))
        have hch : ∀ i, i < f.cnt → chunk f.p part i = List.replicate f.p (48 + (bitL (chunk f.p part i)).getD 0) ∧ (bitL (chunk f.p part i)).getD 0 ≤ 1 := fun i hi => by
          obtain ⟨x, hx⟩ := hsome i hi
          have h1 := bitL_some (hcb i) hx
          rw [hcl i hi] at h1
          rw [hx]
          exact h1
        have hpart := chunks_flat (p := f.p) (fun i => 48 + (bitL (chunk f.p part i)).getD 0) f.cnt part hlen fun i hi => (hch i hi).1
        generalize hr : (List.range f.cnt).map (fun i => (bitL (chunk f.p part i)).getD 0) = r
        have hpart2 : part = r.flatMap fun x => List.replicate f.p (48 + x) := by
          rw [← hr, List.flatMap_map]; exact hpart
        have hrle : ∀ x ∈ r, x ≤ 1 := fun x hx => by
          rw [← hr, List.mem_map] at hx
          obtain ⟨i, hi, rfl⟩ := hx
          exact (hch i (List.mem_range.mp hi)).2
        have hrl : r.length = f.cnt := by rw [← hr]; simp
        have hrow : ((List.range f.cnt).map fun i => bitL (chunk f.p part i)).map optD = r.map intD' := by
          rw [← hr, List.map_map, List.map_map]
          refine List.map_congr_left fun i hi => ?_
          obtain ⟨x, hx⟩ := hsome i (List.mem_range.mp hi)
          simp only [Function.comp, hx, optD, Option.getD, intD']
        rw [hrow]
        clear hrow hr
        cases r with
        | nil => simp at hrl; omega
        | cons r0 r' =>
          have hw := Fm.wordL_row hf (r' := r') (fun x hx => hrle x (List.mem_cons_of_mem _ hx)) r0 (by simpa using hrl)
          rw [← hpart2] at hw
          rw [List.map_cons]
          walk_at "sem"
          rw [show intD' r0 = PyData.int r0 from rfl]
          walk_at "sem"
          by_cases h0 : r0 = 0
          · subst h0
            walk_at "sem"
            rw [hfb]
            walk_at "sem"
            rw [show (1 : Int) + (f.b : Int) = ((1 + f.b : Nat) : Int) by omega, show (1 : Int) = ((1 : Nat) : Int) from rfl, cutL_mid, cutL_from]
            rw [Nat.add_sub_cancel_left, Nat.add_comm 1 f.b, List.drop_succ_cons, List.drop_succ_cons, List.drop_zero, ← List.map_take, ← List.map_drop]
            walk_at "sem"
            rw [hpar]
            walk_at "sem"
            rw [hfs]
            walk_at "sem"
            rw [mul_ones (by omega)]
            walk_at "sem"
            rw [addD_ll (by
              simp only [List.length_map, List.length_replicate]
              split
              · simp [big]; omega
              · split <;> (simp [big]; omega))]
            walk_at "sem"
            rw [← List.map_append, ne_nats]
            walk_at "sem"
            rw [show (if f.q = 0 then [] else if f.q = 1 then [(r'.take f.b).sum % 2] else [1 - (r'.take f.b).sum % 2]) = f.parL (r'.take f.b) from rfl]
            by_cases h2 : r'.drop f.b = f.parL (r'.take f.b) ++ List.replicate f.s 1
            · rw [decide_eq_true h2]
              walk_at "sem"
              rw [hwo, hw, if_pos (show 0 = 0 ∧ r'.drop f.b = f.parL (r'.take f.b) ++ List.replicate f.s 1 from ⟨rfl, h2⟩)]
              rfl
            · rw [decide_eq_false h2]
              walk_at "sem"
              rw [hw, if_neg fun z => h2 z.2]
              rfl
          · rw [decide_eq_false (show ¬ ((r0 : Int) = 0) by omega)]
            walk_at "sem"
            rw [hw, if_neg fun z => h0 z.1]
            rfl
    · simp only [intD']
      walk_at "sem"
      rw [hfp]
      walk_at "sem"
      have hi' := List.mem_range.mp hi
      have hip : i * f.p + f.p ≤ f.cnt * f.p := by rw [← Nat.succ_mul]; exact Nat.mul_le_mul_right _ hi'
      rw [show ((i * f.p : Nat) : Int) + (f.p : Int) = ((i * f.p + f.p : Nat) : Int) by omega, sliceD_txt (show part.length ≤ 1000000 by omega), cutL_mid, Nat.add_sub_cancel_left]
      walk_at "sem"
      have hcl : ((part.drop (i * f.p)).take f.p).length = f.p := by rw [List.length_take, List.length_drop]; omega
      rw [bit_of_eq (fun c hc => hpb c (List.mem_of_mem_drop (List.mem_of_mem_take hc))) (fun e => by rw [e] at hcl; simp at hcl; omega) (by omega)]
      rfl
/-! ### the rows that samples are sent of -/
theorem whileF_k (gc : Sim.Env → M Bool) (gb : Sim.Env → M Fl) (k : Nat) (env : Sim.Env) : whileF gc gb (k + 1) env = seq (gc env) fun c => if c = true then seq (gb env) (loopM (whileF gc gb k)) else Sim.ret (.next env) := rfl
abbrev rowsC : Sim.Env → M Bool := testE (opE ltD (varE 3) (callB lenD (consE (varE 1) (nilE))))
abbrev rowsG : Sim.Env → M Fl := ifS (testE (opE eqD (opE ixD (varE 1) (varE 3)) (cE (.str "1")))) (thenS (setS 4 (opE addD (varE 4) (cE (.int 1)))) (setS 3 (opE addD (varE 3) (cE (.int 1))))) (thenS (setS 5 (callF 3 F_word_at (consA (varE 0) (consA (varE 1) (consA (varE 3) (nilE)))))) (thenS (ifS (testE (isNE (varE 5))) (retS (cE .none)) (nextS)) (thenS (setS 2 (opE addD (varE 2) (tupE (consE (tupE (consE (varE 4) (consE (varE 5) (nilE)))) (nilE))))) (thenS (setS 4 (cE (.int 0))) (setS 3 (opE addD (varE 3) (callF 1 F_long_of (consA (varE 0) (nilE)))))))))
theorem w1 : ("1" : Str) = txt [49] := by decide +kernel
theorem rows_loop {f : Fm} (hf : f.Ok) {l : List Nat} (hb : Bin l) (hl : l.length ≤ 900) : ∀ (k at_ gap : Nat) (rs : List (Nat × Nat)) (z : Option SV), l.length - at_ < k → at_ ≤ l.length → rs.length ≤ at_ →
    (∀ rs' rest, f.parse k (l.drop at_) gap = some (rs', rest) → ∃ z', whileF rowsC rowsG k [some (.d f.d), some (.d (.str (txt l))), some (.d (rowsD rs)), some (.d (.int at_)), some (.d (.int gap)), z] = Sim.ret (.next [some (.d f.d), some (.d (.str (txt l))), some (.d (rowsD (rs ++ rs'))), some (.d (.int l.length)), some (.d (.int rest)), z'])) ∧
    (f.parse k (l.drop at_) gap = none → whileF rowsC rowsG k [some (.d f.d), some (.d (.str (txt l))), some (.d (rowsD rs)), some (.d (.int at_)), some (.d (.int gap)), z] = Sim.ret (.ret .none))
  | 0, at_, gap, rs, z, h, _, _ => by omega
  | k + 1, at_, gap, rs, z, h, ha, hrl => by
    have hL := Fm.long_le hf
    rw [whileF_k]
    walk_at "sem"
    rw [lenD_txt (show l.length ≤ 1000000 by omega)]
    walk_at "sem"
    by_cases he : at_ = l.length
    · subst he
      rw [decide_eq_false (show ¬ (l.length : Int) < (l.length : Int) by omega), List.drop_length]
      walk_at "sem"
      refine ⟨fun rs' rest e => ?_, fun e => ?_⟩
      · cases e
        exact ⟨z, by rw [List.append_nil]⟩
      · cases e
    · have hlt : at_ < l.length := by omega
      rw [decide_eq_true (show (at_ : Int) < (l.length : Int) by omega)]
      walk_at "sem"
      rw [ixD_txt (show l.length ≤ 1000000 by omega), atI_lt hlt]
      walk_at "sem"
      rw [w1, eqD_txt]
      walk_at "sem"
      have hdrop : l.drop at_ = l[at_] :: l.drop (at_ + 1) := List.drop_eq_getElem_cons hlt
      rw [hdrop]
      by_cases hc : l[at_] = 49
      · rw [decide_eq_true (show ([l[at_]] : List Nat) = [49] by rw [hc])]
        walk_at "sem"
        have ih := rows_loop hf hb hl k (at_ + 1) (gap + 1) rs z (by omega) (by omega) (by omega)
        simp only [Fm.parse, if_pos hc]
        rw [show (gap : Int) + 1 = ((gap + 1 : Nat) : Int) by omega, show (at_ : Int) + 1 = ((at_ + 1 : Nat) : Int) by omega]
        exact ih
      · rw [decide_eq_false (show ¬ ([l[at_]] : List Nat) = [49] by simpa using hc)]
        walk_at "sem"
        rw [word_at_eq hf hb (by omega)]
        walk_at "sem"
        simp only [Fm.parse, if_neg hc]
        rw [← hdrop]
        cases hw : f.wordL ((l.drop at_).take f.long) with
        | none =>
          simp only [optD]
          walk_at "sem"
          exact ⟨(fun rs' rest e => by cases e), fun _ => by first | rfl | trivial⟩
        | some w =>
          have hw' := (Fm.wordL_some hf).mp hw
          have hlen : ((l.drop at_).take f.long).length = f.long := by rw [hw'.2, Fm.fr_len]; rfl
          rw [List.length_take, List.length_drop] at hlen
          simp only [optD]
          walk_at "sem"
          rw [show addD (rowsD rs) (.tuple [.tuple [.int gap, .int w]]) = some (rowsD (rs ++ [(gap, w)])) by
            unfold rowsD
            rw [addD_tt (by rw [List.length_map]; show rs.length + 1 ≤ 1000000; omega), List.map_append]; rfl]
          walk_at "sem"
          rw [long_eq hf]
          walk_at "sem"
          rw [show (at_ : Int) + (f.long : Int) = ((at_ + f.long : Nat) : Int) by omega, show (0 : Int) = ((0 : Nat) : Int) from rfl]
          have ih := rows_loop hf hb hl k (at_ + f.long) 0 (rs ++ [(gap, w)]) (some (.d (.int w))) (by omega) (by omega) (by rw [List.length_append]; simp; omega)
          rw [List.drop_drop]
          refine ⟨fun rs' rest e => ?_, fun e => ?_⟩
          · simp only [Option.map_eq_some_iff] at e
            obtain ⟨⟨rs2, rest2⟩, e1, e2⟩ := e
            cases e2
            obtain ⟨z', e3⟩ := ih.1 rs2 rest2 e1
            refine ⟨z', ?_⟩
            rw [e3, List.append_assoc]; rfl
          · refine ih.2 ?_
            simpa using e
theorem eqv_rows_nil (rs : List (Nat × Nat)) : neD (rowsD rs) (.tuple []) = some (.bool (!decide (rs = []))) := by
  unfold neD rowsD
  rw [if_pos (Nat.le_trans (Nat.min_le_right _ _) (by simp [PyData.depth, PyData.depthAll])), PyData.eqv]
  cases rs with
  | nil => rfl
  | cons r rs => simp [PyData.eqvAll]
theorem rows_in_eq {f : Fm} (hf : f.Ok) {l : List Nat} (hb : Bin l) (hl : l.length ≤ 900) : F_rows_in [.d f.d, .d (.str (txt l))] = Sim.ret (readD (f.readL l)) := by
  show seq (g_rows_in [some (.d f.d), some (.d (.str (txt l))), none, none, none, none]) finM = _
  have h := rows_loop hf hb hl 1000 0 0 [] none (by omega) (Nat.zero_le _) (Nat.le_refl _)
  rw [List.drop_zero] at h
  unfold Fm.readL
  unfold g_rows_in
  walk_at "sem"
  cases hp : f.parse 1000 l 0 with
  | none =>
    have h2 : whileF rowsC rowsG 1000 [some (.d f.d), some (.d (.str (txt l))), some (.d (.tuple [])), some (.d (.int 0)), some (.d (.int 0)), none] = _ := h.2 hp
    rw [h2]
    rfl
  | some x =>
    obtain ⟨rs, rest⟩ := x
    obtain ⟨z', h1⟩ := h.1 rs rest hp
    have h1 : whileF rowsC rowsG 1000 [some (.d f.d), some (.d (.str (txt l))), some (.d (.tuple [])), some (.d (.int 0)), some (.d (.int 0)), none] = _ := h1
    rw [h1]
    walk_at "sem"
    rw [List.nil_append, eqv_rows_nil]
    walk_at "sem"
    by_cases h0 : rs = []
    · rw [decide_eq_true h0]
      walk_at "sem"
      rw [Option.bind_some, if_pos h0]
      rfl
    · rw [decide_eq_false h0]
      walk_at "sem"
      rw [Option.bind_some, if_neg h0]
      rfl
/-! ### the laws' samples -/
structure Smp (f : Fm) (most : Nat) (rs : List (Nat × Nat)) : Prop where
  n1 : 1 ≤ rs.length
  n4 : rs.length ≤ 4
  g : ∀ r ∈ rs, r.1 ≤ 11
  w : ∀ r ∈ rs, r.2 < 2 ^ f.b
  len : (rs.flatMap f.part).length ≤ most
def SampJ (ns : List Int) (f : Fm) (most : Nat) (pre : List D) (env : Sim.Env) : Prop := ∃ (rs : List (Nat × Nat)) (a b c d : Option SV), rs.length ≤ pre.length ∧ (∀ r ∈ rs, r.1 ≤ 11) ∧ (∀ r ∈ rs, r.2 < 2 ^ f.b) ∧ (rs.flatMap f.part).length ≤ most ∧
  env = [some (.scr ns), some .town, some (.d f.d), some (.d (.int most)), some (.d (.str (txt (rs.flatMap f.part)))), some (.d (rowsD rs)), a, b, c, d, none]
theorem eq_rows_nil (rs : List (Nat × Nat)) : eqD (rowsD rs) (.tuple []) = some (.bool (decide (rs = []))) := by
  unfold eqD rowsD
  rw [if_pos (Nat.le_trans (Nat.min_le_right _ _) (by simp [PyData.depth, PyData.depthAll])), PyData.eqv]
  cases rs with
  | nil => rfl
  | cons r rs => simp [PyData.eqvAll]
theorem rows_le_len {f : Fm} (hL : 1 ≤ f.long) : ∀ rs : List (Nat × Nat), rs.length ≤ (rs.flatMap f.part).length
  | [] => Nat.le_refl _
  | r :: rs => by
    have ih := rows_le_len hL rs
    rw [List.flatMap_cons, List.length_append, Fm.part_len, List.length_cons]
    omega
theorem x0 : ("" : Str) = txt [] := by decide +kernel
theorem x1 : ("1" : Str) = txt [49] := by decide +kernel
theorem samples_ok (ns : List Int) {f : Fm} (hf : f.Ok) {most : Nat} (hm : 60 ≤ most) (hm2 : most ≤ 900) : Ok 14 (F__law_samples [.scr ns, .town, .d f.d, .d (.int most)]) fun d => ∃ (rs : List (Nat × Nat)) (rest : Nat), Smp f most rs ∧ rest ≤ 8 ∧ d = .tuple [.str (txt (f.sentL rs rest)), rowsD rs, .int rest] := by
  have hL := Fm.long_le hf
  have hp : 2 ^ f.b ≤ 2 ^ 6 := Nat.pow_le_pow_right (by decide) hf.b2
  have hp2 : 2 ^ 4 ≤ 2 ^ f.b := Nat.pow_le_pow_right (by decide) hf.b1
  have e1 : ixD f.d (.int 1) = some (.int f.b) := by unfold Fm.d; rw [ixD_t, atI_1]
  show Ok 14 (seq (g__law_samples [some (.scr ns), some .town, some (.d f.d), some (.d (.int most)), none, none, none, none, none, none, none]) finM) _
  unfold g__law_samples
  walk_at "sem"
  refine Ok.step (draw_ok ns 4 (by decide)) (by decide) fun d hd => ?_
  obtain ⟨v, rfl, v0, v1⟩ := hd
  obtain ⟨m, rfl⟩ : ∃ w : Nat, v = w := ⟨v.toNat, by omega⟩
  try walk_at "sem"
  rw [show (1 : Int) + (m : Int) = ((1 + m : Nat) : Int) by omega, rng1_nat (by omega)]
  walk_at "sem"
  refine Ok.step (for_ok (k := 3) (SampJ ns f most) ((List.range (1 + m)).map intD') [] _ ⟨[], none, none, none, none, Nat.le_refl _, (fun _ h => by cases h), (fun _ h => by cases h), Nat.zero_le _, by rw [x0]; rfl⟩ ?_) (by simp only [List.length_map, List.length_range]; omega) fun fl hfl => ?_
  · rintro pre d post env ⟨rs, a, b, c, e, hrl, hg, hw, hlen, rfl⟩ _
    refine ⟨_, rfl, ?_⟩
    walk_at "sem"
    refine Ok.step (pick_ok ns _ (by simp)) (by decide) fun x hx => ?_
    obtain ⟨k, hk1, hk2, rfl⟩ : ∃ k : Nat, 1 ≤ k ∧ k ≤ 12 ∧ x = .int k := by
      simp only [List.mem_cons, List.not_mem_nil, or_false] at hx
      rcases hx with rfl | rfl | rfl
      · exact ⟨1, by decide, by decide, rfl⟩
      · exact ⟨4, by decide, by decide, rfl⟩
      · exact ⟨12, by decide, by decide, rfl⟩
    try walk_at "sem"
    refine Ok.step (draw_ok ns k (by omega)) (by decide) fun x hx => ?_
    obtain ⟨v, rfl, v0, v1⟩ := hx
    obtain ⟨g, rfl⟩ : ∃ w : Nat, v = w := ⟨v.toNat, by omega⟩
    try walk_at "sem"
    rw [e1]
    walk_at "sem"
    rw [top_at hf.b1 hf.b2]
    walk_at "sem"
    refine Ok.step (draw_ok ns _ (by omega)) (by decide) fun x hx => ?_
    obtain ⟨v, rfl, v0, v1⟩ := hx
    obtain ⟨w, rfl⟩ : ∃ w : Nat, v = w := ⟨v.toNat, by omega⟩
    try walk_at "sem"
    rw [law_frame_eq hf]
    walk_at "sem"
    rw [x1, mul_bit (by omega)]
    walk_at "sem"
    rw [addD_txt (by rw [List.length_replicate, Fm.fr_len]; show g + f.long ≤ 1000000; omega)]
    rw [show List.replicate g 49 ++ f.fr w = f.part (g, w) from rfl]
    walk_at "sem"
    have hpl := f.part_len (g, w)
    rw [addD_txt (by rw [hpl]; show _ + (g + f.long) ≤ 1000000; omega)]
    walk_at "sem"
    have hfl : rs.flatMap f.part ++ f.part (g, w) = (rs ++ [(g, w)]).flatMap f.part := by simp
    rw [hfl]
    have hlen2 : ((rs ++ [(g, w)]).flatMap f.part).length = (rs.flatMap f.part).length + (g + f.long) := by rw [← hfl, List.length_append, hpl]
    rw [lenD_txt (show _ ≤ 1000000 by omega)]
    walk_at "sem"
    by_cases hfit : ((rs ++ [(g, w)]).flatMap f.part).length ≤ most
    · rw [decide_eq_true (show ((((rs ++ [(g, w)]).flatMap f.part).length : Nat) : Int) ≤ (most : Int) by omega)]
      walk_at "sem"
      rw [show addD (rowsD rs) (.tuple [.tuple [.int g, .int w]]) = some (rowsD (rs ++ [(g, w)])) by
        unfold rowsD
        rw [addD_tt (by rw [List.length_map]; show rs.length + 1 ≤ 1000000; have := rows_le_len hL.1 rs; omega), List.map_append]; rfl]
      try rw [addD_txt (by rw [hpl]; show _ + (g + f.long) ≤ 1000000; omega), hfl]
      walk_at "sem"
      refine Ok.ret ⟨_, rfl, rs ++ [(g, w)], _, _, _, _, ?_, ?_, ?_, hfit, rfl⟩
      · rw [List.length_append, List.length_append]; simp; omega
      · intro r hr
        rcases List.mem_append.mp hr with h | h
        · exact hg r h
        · rw [List.mem_singleton.mp h]; show g ≤ 11; omega
      · intro r hr
        rcases List.mem_append.mp hr with h | h
        · exact hw r h
        · rw [List.mem_singleton.mp h]; show w < 2 ^ f.b; omega
    · rw [decide_eq_false (show ¬ ((((rs ++ [(g, w)]).flatMap f.part).length : Nat) : Int) ≤ (most : Int) by omega)]
      walk_at "sem"
      refine Ok.ret ⟨_, rfl, rs, _, _, _, _, ?_, hg, hw, hlen, rfl⟩
      rw [List.length_append]; omega
  · obtain ⟨env', rfl, rs, a, b, c, e, hrl, hg, hw, hlen, rfl⟩ := hfl
    simp only [List.nil_append, List.length_map, List.length_range] at hrl
    walk_at "sem"
    rw [eq_rows_nil]
    walk_at "sem"
    have fin : ∀ (a b c e : Option SV) (rs : List (Nat × Nat)), Smp f most rs → Ok 1 (seq (F__law_draw [.scr ns, .town, .d (.int 9)]) fun x => seq (lift (mulD (.str "1") x)) fun y => seq (lift (addD (.str (txt (rs.flatMap f.part))) y)) fun z => Sim.ret (PyData.tuple [z, rowsD rs, x])) fun d => ∃ (rs : List (Nat × Nat)) (rest : Nat), Smp f most rs ∧ rest ≤ 8 ∧ d = .tuple [.str (txt (f.sentL rs rest)), rowsD rs, .int rest] := by
      intro a b c e rs hs
      have hlen := hs.len
      refine Ok.step (draw_ok ns 9 (by decide)) (by decide) fun x hx => ?_
      obtain ⟨v, rfl, v0, v1⟩ := hx
      obtain ⟨rest, rfl⟩ : ∃ w : Nat, v = w := ⟨v.toNat, by omega⟩
      rw [x1, mul_bit (by omega)]
      walk_at "sem"
      rw [addD_txt (by rw [List.length_replicate]; show _ ≤ 1000000; omega)]
      walk_at "sem"
      exact Ok.ret ⟨rs, rest, hs, by omega, rfl⟩
    by_cases h0 : rs = []
    · rw [decide_eq_true h0]
      walk_at "sem"
      rw [show F__law_frame [.d f.d, .d (.int 1)] = _ from law_frame_eq hf 1]
      walk_at "sem"
      have hfl : f.fr 1 = ([(0, 1)] : List (Nat × Nat)).flatMap f.part := by simp [Fm.part]
      rw [hfl]
      refine (fin none none none none [(0, 1)] ⟨Nat.le_refl _, (by decide), (fun r hr => by rw [List.mem_singleton.mp hr]; exact Nat.zero_le _), (fun r hr => by rw [List.mem_singleton.mp hr]; show 1 < 2 ^ f.b; omega), by rw [← hfl, Fm.fr_len]; show f.long ≤ most; omega⟩).mono (by omega) fun _ h => h
    · rw [decide_eq_false h0]
      walk_at "sem"
      exact (fin none none none none rs ⟨List.length_pos_iff.mpr h0, by omega, hg, hw, hlen⟩).mono (by omega) fun _ h => h
theorem Smp.sent_len {f : Fm} {most : Nat} {rs : List (Nat × Nat)} (h : Smp f most rs) {rest : Nat} : (f.sentL rs rest).length ≤ most + rest := by
  unfold Fm.sentL
  rw [List.length_append, List.length_replicate]
  have := h.len
  omega
theorem Smp.sent_pos {f : Fm} (hf : f.Ok) {most : Nat} {rs : List (Nat × Nat)} (h : Smp f most rs) {rest : Nat} : 6 ≤ (f.sentL rs rest).length := by
  unfold Fm.sentL
  rw [List.length_append]
  cases rs with
  | nil => have := h.n1; simp at this
  | cons r rs =>
    rw [List.flatMap_cons, List.length_append, Fm.part_len]
    have : 1 * 6 ≤ f.long := Nat.mul_le_mul hf.p1 (by have := hf.b1; have := hf.s1; split <;> omega)
    omega
theorem Smp.ne {f : Fm} {most : Nat} {rs : List (Nat × Nat)} (h : Smp f most rs) : rs ≠ [] := fun e => by have := h.n1; rw [e] at this; simp at this

/-! ### the other order -/
def Fm.oth (f : Fm) : Fm := { f with lo := !f.lo }
theorem Fm.oth_ok {f : Fm} (hf : f.Ok) : f.oth.Ok := ⟨hf.p1, hf.p2, hf.b1, hf.b2, hf.q2, hf.s1, hf.s2⟩
theorem Fm.oth_oth (f : Fm) : f.oth.oth = f := by cases f; simp [Fm.oth]
def turnW (b w : Nat) : Nat := valL (bitsL b w).reverse
theorem turn_lt (b w : Nat) : turnW b w < 2 ^ b := by
  have h := valL_lt (l := (bitsL b w).reverse) fun x hx => bits_le (List.mem_reverse.mp hx)
  rwa [List.length_reverse, bits_len] at h
theorem bits_turn (b w : Nat) : bitsL b (turnW b w) = (bitsL b w).reverse := by
  have h := bits_val (l := (bitsL b w).reverse) fun x hx => bits_le (List.mem_reverse.mp hx)
  rwa [List.length_reverse, bits_len] at h
theorem turn_turn {b w : Nat} (h : w < 2 ^ b) : turnW b (turnW b w) = w := by
  unfold turnW
  rw [show bitsL b (valL (bitsL b w).reverse) = (bitsL b w).reverse from bits_turn b w, List.reverse_reverse, val_bits, Nat.mod_eq_of_lt h]
theorem Fm.oth_fr (f : Fm) (w : Nat) : f.oth.fr (turnW f.b w) = f.fr w := by
  unfold Fm.fr Fm.row
  show List.flatMap (fun x => List.replicate f.p (48 + x)) ([0] ++ (if (!f.lo) = true then bitsL f.b (turnW f.b w) else (bitsL f.b (turnW f.b w)).reverse) ++ (if f.q = 0 then [] else if f.q = 1 then [(bitsL f.b (turnW f.b w)).sum % 2] else [1 - (bitsL f.b (turnW f.b w)).sum % 2]) ++ List.replicate f.s 1) = _
  rw [bits_turn, List.reverse_reverse, List.sum_reverse]
  cases f.lo <;> simp
def Fm.turnR (f : Fm) (r : Nat × Nat) : Nat × Nat := (r.1, turnW f.b r.2)
theorem Fm.oth_sent (f : Fm) (rs : List (Nat × Nat)) (rest : Nat) : f.oth.sentL (rs.map f.turnR) rest = f.sentL rs rest := by
  unfold Fm.sentL
  congr 1
  rw [List.flatMap_map]
  congr 1
  funext r
  show List.replicate r.1 49 ++ f.oth.fr (turnW f.b r.2) = _
  rw [Fm.oth_fr]; rfl
theorem cut_to2 {α : Type} (a b c d e : α) : cutL [a, b, c, d, e] none (some 2) = [a, b] := rfl
theorem cut_from3 {α : Type} (a b c d e : α) : cutL [a, b, c, d, e] (some 3) none = [d, e] := rfl
theorem cut_from1 {α : Type} (a b c d e : α) : cutL [a, b, c, d, e] (some 1) none = [b, c, d, e] := rfl
theorem ord_high (k : Bool) : eqD (.str (ordT k)) (.str "high") = some (.bool (!k)) := by
  rw [eqD_ss]; cases k <;> rfl
theorem pl_rows (rs : List (Nat × Nat)) : Pl 2 (rowsD rs) := pl_tuple fun x hx => by
  obtain ⟨r, _, rfl⟩ := List.mem_map.mp hx
  refine pl_tuple fun y hy => ?_
  simp only [List.mem_cons, List.not_mem_nil, or_false] at hy
  rcases hy with rfl | rfl <;> exact pl_int _ _
theorem pl_read (rs : List (Nat × Nat)) (rest : Nat) : Pl 3 (.tuple [rowsD rs, .int rest]) := pl_tuple fun x hx => by
  simp only [List.mem_cons, List.not_mem_nil, or_false] at hx
  rcases hx with rfl | rfl
  · exact pl_rows rs
  · exact pl_int _ _
def Fm.pac (f : Fm) (p : Nat) : Fm := { f with p := p }
theorem Fm.pac_ok {f : Fm} (hf : f.Ok) {p : Nat} (h1 : 1 ≤ p) (h2 : p ≤ 6) : (f.pac p).Ok := ⟨h1, h2, hf.b1, hf.b2, hf.q2, hf.s1, hf.s2⟩
theorem fold_bits (b w : Nat) : (List.range b).foldl (fun a c => 2 * a + w / 2 ^ c % 2) 0 = turnW b w := by
  unfold turnW
  rw [← fold_val, List.foldr_reverse]
  unfold bitsL
  rw [List.foldl_map]
theorem f_to2 (f : Fm) : sliceD f.d none (some 2) = some (.tuple [.int f.p, .int f.b]) := rfl
theorem f_from3 (f : Fm) : sliceD f.d (some 3) none = some (.tuple [.str (parT f.q), .int f.s]) := rfl
theorem f_from1 (f : Fm) : sliceD f.d (some 1) none = some (.tuple [.int f.b, .str (ordT f.lo), .str (parT f.q), .int f.s]) := rfl
theorem if_ord (k : Bool) : (if (!k) = true then Sim.ret (PyData.str "low") else Sim.ret (PyData.str "high")) = Sim.ret (.str (ordT (!k))) := by cases k <;> rfl
theorem oth_d (f : Fm) : f.oth.d = .tuple [.int f.p, .int f.b, .str (ordT (!f.lo)), .str (parT f.q), .int f.s] := rfl

/-! ### a loop over a list of things, by a word over what was done -/
theorem for_okq {γ : Type} {bnd : D → Sim.Env → Option Sim.Env} {gb : Sim.Env → M Fl} {k : Nat} (i : γ → D) (cs : List γ) (J : List γ → Sim.Env → Prop)
    (h : ∀ pre c post env, cs = pre ++ c :: post → J pre env → ∃ e1, bnd (i c) env = some e1 ∧ Ok k (gb e1) fun f => ∃ env', f = .next env' ∧ J (pre ++ [c]) env') : ∀ (post pre : List γ) (env : Sim.Env), cs = pre ++ post → J pre env →
    Ok (post.length * k) (forF bnd gb (post.map i) env) fun f => ∃ env', f = .next env' ∧ J cs env'
  | [], pre, env, e, j => Ok.ret ⟨env, rfl, by rw [e, List.append_nil]; exact j⟩
  | c :: post, pre, env, e, j => by
    obtain ⟨e1, h1, h2⟩ := h pre c post env e j
    simp only [List.map_cons, forF, h1, lift_s, seq_r]
    have ek : (c :: post).length * k = k + post.length * k := by simp only [List.length_cons]; rw [Nat.add_mul, Nat.one_mul, Nat.add_comm]
    rw [ek]
    refine Ok.seq h2 fun f hf => ?_
    obtain ⟨env', rfl, j'⟩ := hf
    exact for_okq i cs J h post (pre ++ [c]) env' (by rw [e, List.append_assoc]; rfl) j'
theorem for_okm {γ : Type} {bnd : D → Sim.Env → Option Sim.Env} {gb : Sim.Env → M Fl} {k : Nat} {env : Sim.Env} (i : γ → D) (cs : List γ) (J : List γ → Sim.Env → Prop) (h0 : J [] env)
    (h : ∀ pre c post env, cs = pre ++ c :: post → J pre env → ∃ e1, bnd (i c) env = some e1 ∧ Ok k (gb e1) fun f => ∃ env', f = .next env' ∧ J (pre ++ [c]) env') :
    Ok (cs.length * k) (forF bnd gb (cs.map i) env) fun f => ∃ env', f = .next env' ∧ J cs env' := for_okq i cs J h cs [] env rfl h0

/-! ### all forms -/
def pbl (p b : Nat) (lo : Bool) : List Fm := [⟨p, b, lo, 0, 1⟩, ⟨p, b, lo, 0, 2⟩, ⟨p, b, lo, 1, 1⟩, ⟨p, b, lo, 1, 2⟩, ⟨p, b, lo, 2, 1⟩, ⟨p, b, lo, 2, 2⟩]
def pb (p b : Nat) : List Fm := pbl p b true ++ pbl p b false
def pp (p : Nat) : List Fm := pb p 4 ++ pb p 5 ++ pb p 6
def AF : List Fm := pp 1 ++ pp 2 ++ pp 3 ++ pp 4 ++ pp 5 ++ pp 6
abbrev af4G : Sim.Env → M Fl := extS 0 (listE (lcE (itemsE (tupE (consE (cE (.int 1)) (consE (cE (.int 2)) (nilE))))) [5] (bndN 5) (yesT) (tupE (consE (varE 1) (consE (varE 2) (consE (varE 3) (consE (varE 4) (consE (varE 5) (nilE)))))))))
abbrev af3G : Sim.Env → M Fl := forS (itemsE (cE (.tuple [.str "none", .str "even", .str "odd"]))) (bndN 4) af4G
abbrev af2G : Sim.Env → M Fl := forS (itemsE (cE (.tuple [.str "low", .str "high"]))) (bndN 3) af3G
abbrev af1G : Sim.Env → M Fl := forS (rngE rng2M (consE (cE (.int 4)) (consE (opE addD (cE (.int 6)) (cE (.int 1))) (nilE)))) (bndN 2) af2G
theorem af_step (p b : Nat) (lo : Bool) (q : Nat) (hq : q ≤ 2) (acc : List Fm) (h : acc.length ≤ 1000) : af4G [some (.own (acc.map Fm.d)), some (.d (.int p)), some (.d (.int b)), some (.d (.str (ordT lo))), some (.d (.str (parT q))), none] = Sim.ret (.next [some (.own ((acc ++ [(⟨p, b, lo, q, 1⟩ : Fm), ⟨p, b, lo, q, 2⟩]).map Fm.d)), some (.d (.int p)), some (.d (.int b)), some (.d (.str (ordT lo))), some (.d (.str (parT q))), none]) := by
  unfold af4G
  walk_at "sem"
  simp only [lcF, noexc_r, yesT]
  walk_at "sem"
  simp only [noexc_r]
  walk_at "sem"
  rw [ite_big (by omega), List.map_append]
  rfl
theorem af3 (p b : Nat) (lo : Bool) (acc : List Fm) (h : acc.length ≤ 900) (z : Option SV) : af3G [some (.own (acc.map Fm.d)), some (.d (.int p)), some (.d (.int b)), some (.d (.str (ordT lo))), z, none] = Sim.ret (.next [some (.own ((acc ++ pbl p b lo).map Fm.d)), some (.d (.int p)), some (.d (.int b)), some (.d (.str (ordT lo))), some (.d (.str (parT 2))), none]) := by
  unfold af3G
  walk_at "sem"
  simp only [forF, bndN, List.set_cons_succ, List.set_cons_zero, lift_s, seq_r]
  rw [show (.str "none" : D) = .str (parT 0) from rfl, af_step p b lo 0 (by decide) acc (by omega)]
  simp only [seq_r, loopM_n, List.set_cons_succ, List.set_cons_zero]
  rw [show (.str "even" : D) = .str (parT 1) from rfl, af_step p b lo 1 (by decide) _ (by simp; omega)]
  simp only [seq_r, loopM_n, List.set_cons_succ, List.set_cons_zero]
  rw [show (.str "odd" : D) = .str (parT 2) from rfl, af_step p b lo 2 (by decide) _ (by simp; omega)]
  simp only [seq_r, loopM_n, List.append_assoc]
  rfl
theorem af2 (p b : Nat) (acc : List Fm) (h : acc.length ≤ 800) (y z : Option SV) : af2G [some (.own (acc.map Fm.d)), some (.d (.int p)), some (.d (.int b)), y, z, none] = Sim.ret (.next [some (.own ((acc ++ pb p b).map Fm.d)), some (.d (.int p)), some (.d (.int b)), some (.d (.str (ordT false))), some (.d (.str (parT 2))), none]) := by
  unfold af2G
  walk_at "sem"
  simp only [forF, bndN, List.set_cons_succ, List.set_cons_zero, lift_s, seq_r]
  rw [show (.str "low" : D) = .str (ordT true) from rfl]
  have e1 := af3 p b true acc (by omega) z
  unfold af3G at e1
  walk_at "sem"
  simp only [forS, itemsE, cE, seq_r, itemsM_t] at e1
  rw [e1]
  walk_at "sem"
  rw [show (.str "high" : D) = .str (ordT false) from rfl]
  have e2 := af3 p b false (acc ++ pbl p b true) (by simp [pbl]; omega) (some (.d (.str (parT 2))))
  unfold af3G at e2
  simp only [forS, itemsE, cE, seq_r, itemsM_t] at e2
  rw [e2]
  walk_at "sem"
  rw [List.append_assoc]
  rfl
theorem rng_4 : rng2M [.int 4, .int 7] = Sim.ret [.int (4 : Nat), .int (5 : Nat), .int (6 : Nat)] := rfl
theorem rng_1 : rng2M [.int 1, .int 7] = Sim.ret [.int (1 : Nat), .int (2 : Nat), .int (3 : Nat), .int (4 : Nat), .int (5 : Nat), .int (6 : Nat)] := rfl
theorem af1 (p : Nat) (acc : List Fm) (h : acc.length ≤ 700) (x y z : Option SV) : af1G [some (.own (acc.map Fm.d)), some (.d (.int p)), x, y, z, none] = Sim.ret (.next [some (.own ((acc ++ pp p).map Fm.d)), some (.d (.int p)), some (.d (.int (6 : Nat))), some (.d (.str (ordT false))), some (.d (.str (parT 2))), none]) := by
  have e1 := af2 p 4 acc (by omega) y z
  have e2 := af2 p 5 (acc ++ pb p 4) (by simp [pb, pbl]; omega) (some (.d (.str (ordT false)))) (some (.d (.str (parT 2))))
  have e3 := af2 p 6 (acc ++ pb p 4 ++ pb p 5) (by simp [pb, pbl]; omega) (some (.d (.str (ordT false)))) (some (.d (.str (parT 2))))
  unfold af1G
  unfold forS
  rw [show rngE rng2M (consE (cE (.int 4)) (consE (opE addD (cE (.int 6)) (cE (.int 1))) nilE)) [some (.own (acc.map Fm.d)), some (.d (.int p)), x, y, z, none] = Sim.ret [.int (4 : Nat), .int (5 : Nat), .int (6 : Nat)] from rfl]
  simp only [seq_r, forF, bndN, List.set_cons_succ, List.set_cons_zero, lift_s]
  rw [e1]
  simp only [seq_r, loopM_n, List.set_cons_succ, List.set_cons_zero]
  rw [e2]
  simp only [seq_r, loopM_n, List.set_cons_succ, List.set_cons_zero]
  rw [e3]
  simp only [seq_r, loopM_n, List.append_assoc]
  rfl
theorem sortedD_ok {xs : List D} (h : sortOkB xs = true) : sortedD [.list xs] = some (.list (sortL xs)) := if_pos h
theorem alike_form (f g : Fm) : PySem.W.alike f.d g.d = true := by simp [Fm.d, PySem.W.alike, PySem.W.alikeAll]
theorem depth_form (f : Fm) : f.d.depth = 1 := by simp [Fm.d, PyData.depth, PyData.depthAll]
theorem AF_len : AF.length = 216 := by decide +kernel
theorem sortOk_AF : sortOkB (AF.map Fm.d) = true := by
  unfold sortOkB
  simp only [Bool.and_eq_true, Bool.or_eq_true, decide_eq_true_eq, List.all_eq_true]
  refine ⟨⟨⟨fun x hx y hy => ?_, .inl fun x hx => ?_⟩, ?_⟩, fun x hx => ?_⟩
  · obtain ⟨f, _, rfl⟩ := List.mem_map.mp hx
    obtain ⟨g, _, rfl⟩ := List.mem_map.mp hy
    exact alike_form f g
  · obtain ⟨f, _, rfl⟩ := List.mem_map.mp hx
    rfl
  · rw [List.length_map, AF_len]; decide
  · obtain ⟨f, _, rfl⟩ := List.mem_map.mp hx
    rw [depth_form]; decide
theorem thenS_at (g g' : Sim.Env → M Fl) (env : Sim.Env) : thenS g g' env = seq (g env) (thenM g') := rfl
theorem all_forms_eq : F_all_forms [] = Sim.ret (.list (sortL (AF.map Fm.d))) := by
  have e1 := af1 1 [] (by decide) none none none
  have e2 := af1 2 ([] ++ pp 1) (by simp [pp, pb, pbl]) (some (.d (.int (6 : Nat)))) (some (.d (.str (ordT false)))) (some (.d (.str (parT 2))))
  have e3 := af1 3 ([] ++ pp 1 ++ pp 2) (by simp [pp, pb, pbl]) (some (.d (.int (6 : Nat)))) (some (.d (.str (ordT false)))) (some (.d (.str (parT 2))))
  have e4 := af1 4 ([] ++ pp 1 ++ pp 2 ++ pp 3) (by simp [pp, pb, pbl]) (some (.d (.int (6 : Nat)))) (some (.d (.str (ordT false)))) (some (.d (.str (parT 2))))
  have e5 := af1 5 ([] ++ pp 1 ++ pp 2 ++ pp 3 ++ pp 4) (by simp [pp, pb, pbl]) (some (.d (.int (6 : Nat)))) (some (.d (.str (ordT false)))) (some (.d (.str (parT 2))))
  have e6 := af1 6 ([] ++ pp 1 ++ pp 2 ++ pp 3 ++ pp 4 ++ pp 5) (by simp [pp, pb, pbl]) (some (.d (.int (6 : Nat)))) (some (.d (.str (ordT false)))) (some (.d (.str (parT 2))))
  have h0 : forS (rngE rng2M (consE (cE (.int 1)) (consE (opE addD (cE (.int 6)) (cE (.int 1))) nilE))) (bndN 1) af1G [some (.own (([] : List Fm).map Fm.d)), none, none, none, none, none] = Sim.ret (.next [some (.own (AF.map Fm.d)), some (.d (.int (6 : Nat))), some (.d (.int (6 : Nat))), some (.d (.str (ordT false))), some (.d (.str (parT 2))), none]) := by
    unfold forS
    rw [show rngE rng2M (consE (cE (.int 1)) (consE (opE addD (cE (.int 6)) (cE (.int 1))) nilE)) [some (.own (([] : List Fm).map Fm.d)), none, none, none, none, none] = Sim.ret [.int (1 : Nat), .int (2 : Nat), .int (3 : Nat), .int (4 : Nat), .int (5 : Nat), .int (6 : Nat)] from rfl]
    simp only [seq_r, forF, bndN, List.set_cons_succ, List.set_cons_zero, lift_s]
    rw [e1]
    simp only [seq_r, loopM_n, List.set_cons_succ, List.set_cons_zero]
    rw [e2]
    simp only [seq_r, loopM_n, List.set_cons_succ, List.set_cons_zero]
    rw [e3]
    simp only [seq_r, loopM_n, List.set_cons_succ, List.set_cons_zero]
    rw [e4]
    simp only [seq_r, loopM_n, List.set_cons_succ, List.set_cons_zero]
    rw [e5]
    simp only [seq_r, loopM_n, List.set_cons_succ, List.set_cons_zero]
    rw [e6]
    simp only [seq_r, loopM_n, List.nil_append]
    rfl
  have h0 : forS (rngE rng2M (consE (cE (.int 1)) (consE (opE addD (cE (.int 6)) (cE (.int 1))) nilE))) (bndN 1) af1G [some (.own []), none, none, none, none, none] = Sim.ret (.next [some (.own (AF.map Fm.d)), some (.d (.int (6 : Nat))), some (.d (.int (6 : Nat))), some (.d (.str (ordT false))), some (.d (.str (parT 2))), none]) := h0
  show seq (g_all_forms [none, none, none, none, none, none]) finM = _
  unfold g_all_forms
  rw [thenS_at, show setN 0 (lstN nilE) [none, none, none, none, none, none] = Sim.ret (.next [some (.own []), none, none, none, none, none]) from rfl, seq_r, thenM_n, thenS_at, h0]
  walk_at "sem"
  rw [sortedD_ok sortOk_AF]
  rfl
/-- the forms in the order of all_forms -/
def AFS : List Fm := AF.mergeSort fun a b => PySem.W.dataLe false (fun d : D => d) a.d b.d
theorem AFS_map : sortL (AF.map Fm.d) = AFS.map Fm.d := (List.map_mergeSort (f := Fm.d) (r := fun a b : Fm => PySem.W.dataLe false (fun d : D => d) a.d b.d) (s := PySem.W.dataLe false fun d : D => d) (l := AF) (fun _ _ _ _ => rfl)).symm
theorem all_formsS : F_all_forms [] = Sim.ret (.list (AFS.map Fm.d)) := by rw [all_forms_eq, AFS_map]
theorem AF_ok : ∀ f ∈ AF, f.Ok := by
  intro f hf
  have h : ∀ f ∈ AF, (1 ≤ f.p ∧ f.p ≤ 6) ∧ (4 ≤ f.b ∧ f.b ≤ 6) ∧ f.q ≤ 2 ∧ (1 ≤ f.s ∧ f.s ≤ 2) := by decide +kernel
  obtain ⟨⟨h1, h2⟩, ⟨h3, h4⟩, h5, h6, h7⟩ := h f hf
  exact ⟨h1, h2, h3, h4, h5, h6, h7⟩
theorem Fm.eta (f : Fm) : f = ⟨f.p, f.b, f.lo, f.q, f.s⟩ := rfl
theorem AF_mem {f : Fm} (hf : f.Ok) : f ∈ AF := by
  obtain ⟨h1, h2, h3, h4, h5, h6, h7⟩ := hf
  obtain ⟨p, b, lo, q, s⟩ := f
  simp only at *
  have hp : p = 1 ∨ p = 2 ∨ p = 3 ∨ p = 4 ∨ p = 5 ∨ p = 6 := by omega
  have hb : b = 4 ∨ b = 5 ∨ b = 6 := by omega
  have hq : q = 0 ∨ q = 1 ∨ q = 2 := by omega
  have hs : s = 1 ∨ s = 2 := by omega
  have e1 : (⟨p, b, lo, q, s⟩ : Fm) ∈ pbl p b lo := by
    rcases hq with rfl | rfl | rfl <;> rcases hs with rfl | rfl <;> simp [pbl]
  have e2 : (⟨p, b, lo, q, s⟩ : Fm) ∈ pb p b := by
    unfold pb
    cases lo
    · exact List.mem_append_right _ e1
    · exact List.mem_append_left _ e1
  have e3 : (⟨p, b, lo, q, s⟩ : Fm) ∈ pp p := by
    unfold pp
    rcases hb with rfl | rfl | rfl
    · exact List.mem_append_left _ (List.mem_append_left _ e2)
    · exact List.mem_append_left _ (List.mem_append_right _ e2)
    · exact List.mem_append_right _ e2
  unfold AF
  rcases hp with rfl | rfl | rfl | rfl | rfl | rfl <;> simp only [List.mem_append] <;> simp [e3]
theorem AFS_ok : ∀ f ∈ AFS, f.Ok := fun f hf => AF_ok f (List.mem_mergeSort.mp hf)
theorem AFS_mem {f : Fm} (hf : f.Ok) : f ∈ AFS := List.mem_mergeSort.mpr (AF_mem hf)
theorem AFS_len : AFS.length = 216 := by
  unfold AFS
  rw [List.length_mergeSort, AF_len]
theorem forms_for_eq {l : List Nat} (hb : Bin l) (h1 : 1 ≤ l.length) (hl : l.length ≤ 200) : F_forms_for [.d (.str (txt l))] = Sim.ret (.list ((AFS.filter fun f => (f.readL l).isSome).map Fm.d)) := by
  show seq (g_forms_for [some (.d (.str (txt l))), none]) finM = _
  unfold g_forms_for
  walk_at "sem"
  rw [need_samples_eq h1 hl hb]
  walk_at "sem"
  rw [all_formsS]
  walk_at "sem"
  rw [ite_big (by rw [AFS_len]; decide)]
  rw [lc_filterf Fm.d _ (fun f => (f.readL l).isSome) Fm.d AFS (fun c _ => rfl) (fun f hf => ?_) (fun c hc _ => rfl)]
  · rfl
  · walk_at "sem"
    rw [rows_in_eq (AFS_ok f hf) hb (by omega)]
    walk_at "sem"
    cases f.readL l with
    | none => rfl
    | some x => rfl

/-! ### runs: the plain side -/
def flatR (rs : List (Nat × Nat)) : List Nat := rs.flatMap fun r => List.replicate r.2 r.1
def stepR (acc : List (Nat × Nat)) (c : Nat) : List (Nat × Nat) := match acc.getLast? with
  | some r => if r.1 = c then acc.dropLast ++ [(c, r.2 + 1)] else acc ++ [(c, 1)]
  | none => acc ++ [(c, 1)]
def AltP : Option Nat → List (Nat × Nat) → Prop
  | _, [] => True
  | p, r :: t => p ≠ some r.1 ∧ 1 ≤ r.2 ∧ AltP (some r.1) t
def runsF : List Nat → List (Nat × Nat)
  | [] => []
  | c :: t => match runsF t with
    | [] => [(c, 1)]
    | r :: rs => if r.1 = c then (c, r.2 + 1) :: rs else (c, 1) :: r :: rs
theorem runsF_flat : ∀ l, flatR (runsF l) = l
  | [] => rfl
  | c :: t => by
    have ih := runsF_flat t
    unfold runsF
    cases h : runsF t with
    | nil => rw [h] at ih; simp only [flatR] at ih ⊢; simp at ih; subst ih; rfl
    | cons r rs =>
      rw [h] at ih
      dsimp only
      split
      · rename_i hc
        subst hc
        rw [← ih]
        simp [flatR, List.replicate_succ]
      · rw [← ih]
        simp [flatR]
theorem AltP.weak {p : Option Nat} {rs : List (Nat × Nat)} (h : AltP p rs) : AltP none rs := by
  cases rs with
  | nil => trivial
  | cons r t => exact ⟨by simp, h.2.1, h.2.2⟩
theorem runsF_alt : ∀ l, AltP none (runsF l)
  | [] => trivial
  | c :: t => by
    have ih := runsF_alt t
    unfold runsF
    cases h : runsF t with
    | nil => exact ⟨by simp, Nat.le_refl _, trivial⟩
    | cons r rs =>
      rw [h] at ih
      dsimp only
      split
      · rename_i hc
        subst hc
        exact ⟨by simp, by show 1 ≤ r.2 + 1; omega, ih.2.2⟩
      · rename_i hc
        exact ⟨by simp, Nat.le_refl _, fun z => hc (by injection z with z; exact z.symm), ih.2.1, ih.2.2⟩
theorem last_snoc {α : Type} (l : List α) (a : α) : (l ++ [a]).getLast? = some a := by simp
theorem stepR_new {acc : List (Nat × Nat)} {c : Nat} (h : acc.getLast?.map (·.1) ≠ some c) : stepR acc c = acc ++ [(c, 1)] := by
  unfold stepR
  cases e : acc.getLast? with
  | none => rfl
  | some r =>
    rw [e] at h
    dsimp only
    rw [if_neg fun z => h (by rw [← z]; rfl)]
theorem stepR_same (acc : List (Nat × Nat)) (c k : Nat) : stepR (acc ++ [(c, k)]) c = acc ++ [(c, k + 1)] := by
  unfold stepR
  rw [last_snoc]
  simp
theorem steps_same (acc : List (Nat × Nat)) (c : Nat) : ∀ (n k : Nat), (List.replicate n c).foldl stepR (acc ++ [(c, k)]) = acc ++ [(c, k + n)]
  | 0, k => rfl
  | n + 1, k => by
    rw [List.replicate_succ, List.foldl_cons, stepR_same, steps_same acc c n (k + 1)]
    congr 3; omega
theorem steps_new {acc : List (Nat × Nat)} {c n : Nat} (hn : 1 ≤ n) (h : acc.getLast?.map (·.1) ≠ some c) : (List.replicate n c).foldl stepR acc = acc ++ [(c, n)] := by
  obtain ⟨m, rfl⟩ : ∃ m, n = m + 1 := ⟨n - 1, by omega⟩
  rw [List.replicate_succ, List.foldl_cons, stepR_new h, steps_same]
  congr 3; omega
theorem steps_alt : ∀ (rs acc : List (Nat × Nat)), AltP (acc.getLast?.map (·.1)) rs → (flatR rs).foldl stepR acc = acc ++ rs
  | [], acc, _ => by simp [flatR]
  | r :: t, acc, h => by
    have ih := steps_alt t (acc ++ [r]) (by rw [last_snoc]; exact h.2.2)
    unfold flatR at ih ⊢
    rw [List.flatMap_cons, List.foldl_append, steps_new h.2.1 h.1, ih, List.append_assoc]; rfl
theorem runs_alt {rs : List (Nat × Nat)} (h : AltP none rs) : (flatR rs).foldl stepR [] = rs := steps_alt rs [] h
theorem runs_fold (l : List Nat) : l.foldl stepR [] = runsF l := by
  have := runs_alt (runsF_alt l)
  rw [runsF_flat] at this; exact this
theorem runsF_of {rs : List (Nat × Nat)} (h : AltP none rs) : runsF (flatR rs) = rs := by rw [← runs_fold]; exact runs_alt h
theorem AltP.pos {p : Option Nat} {rs : List (Nat × Nat)} (h : AltP p rs) : ∀ r ∈ rs, 1 ≤ r.2 := by
  induction rs generalizing p with
  | nil => intro r hr; cases hr
  | cons q t ih =>
    intro r hr
    rcases List.mem_cons.mp hr with rfl | hr
    · exact h.2.1
    · exact ih h.2.2 r hr
theorem runsF_sign {l : List Nat} {r : Nat × Nat} (h : r ∈ runsF l) : r.1 ∈ l := by
  have h1 := (runsF_alt l).pos r h
  have : r.1 ∈ flatR (runsF l) := List.mem_flatMap.mpr ⟨r, h, List.mem_replicate.mpr ⟨by omega, rfl⟩⟩
  rwa [runsF_flat] at this
theorem flatR_len (rs : List (Nat × Nat)) : (flatR rs).length = (rs.map (·.2)).sum := by
  unfold flatR
  induction rs with
  | nil => rfl
  | cons r t ih => rw [List.flatMap_cons, List.length_append, List.length_replicate, ih, List.map_cons, List.sum_cons]
theorem runsF_count (l : List Nat) : (runsF l).length ≤ l.length := by
  have h := flatR_len (runsF l)
  rw [runsF_flat] at h
  rw [h]
  have hp := (runsF_alt l).pos
  generalize runsF l = rs at hp
  clear h
  induction rs with
  | nil => simp
  | cons r t ih =>
    have := ih fun x hx => hp x (List.mem_cons_of_mem _ hx)
    have := hp r List.mem_cons_self
    simp only [List.length_cons, List.map_cons, List.sum_cons]
    omega
theorem runsF_many {l : List Nat} {r : Nat × Nat} (h : r ∈ runsF l) : r.2 ≤ l.length := by
  have hl := flatR_len (runsF l)
  rw [runsF_flat] at hl
  rw [hl]
  generalize runsF l = rs at h
  clear hl
  induction rs with
  | nil => cases h
  | cons q t ih =>
    rcases List.mem_cons.mp h with rfl | h
    · simp only [List.map_cons, List.sum_cons]; omega
    · have := ih h; simp only [List.map_cons, List.sum_cons]; omega
/-- blocks whose zeros are multiples of p: so are the runs of zeros -/
theorem blocks_mod {p : Nat} (Z : Nat → Prop) : ∀ (bl acc : List (Nat × Nat)), (∀ r ∈ bl, Z r.1 → r.2 % p = 0) → (∀ r ∈ acc, Z r.1 → r.2 % p = 0) → ∀ r ∈ (flatR bl).foldl stepR acc, Z r.1 → r.2 % p = 0
  | [], acc, _, ha => by simpa [flatR] using ha
  | b :: bl, acc, hb, ha => by
    unfold flatR
    rw [List.flatMap_cons, List.foldl_append]
    refine blocks_mod Z bl _ (fun r hr => hb r (List.mem_cons_of_mem _ hr)) ?_
    have hb0 := hb b List.mem_cons_self
    by_cases hn : b.2 = 0
    · rw [hn]; simpa using ha
    · by_cases hl : acc.getLast?.map (·.1) = some b.1
      · obtain ⟨r0, hr0, hr1⟩ := Option.map_eq_some_iff.mp hl
        obtain ⟨ys, hys⟩ := List.getLast?_eq_some_iff.mp hr0
        obtain ⟨a, k⟩ := r0
        simp only at hr1
        subst hr1
        rw [hys, steps_same]
        intro r hr hz
        rcases List.mem_append.mp hr with h | h
        · exact ha r (by rw [hys]; exact List.mem_append_left _ h) hz
        · rw [List.mem_singleton.mp h] at hz ⊢
          have h1 := ha (b.1, k) (by rw [hys]; simp) hz
          have h2 := hb0 hz
          simp only at h1 ⊢
          rw [Nat.add_mod, h1, h2]; simp
      · rw [steps_new (by omega) hl]
        intro r hr hz
        rcases List.mem_append.mp hr with h | h
        · exact ha r h hz
        · rw [List.mem_singleton.mp h] at hz ⊢
          exact hb0 hz
/-! ### falls -/
def fallAt (l : List Nat) (i : Nat) : Bool := decide (l[i]? = some 48) && (decide (i = 0) || decide (l[i - 1]? = some 49))
def fallsL (l : List Nat) : List Nat := (List.range l.length).filter (fallAt l)
def fallsFrom : Option Nat → Nat → List Nat → List Nat
  | _, _, [] => []
  | p, off, c :: t => (if c = 48 ∧ (p = none ∨ p = some 49) then [off] else []) ++ fallsFrom (some c) (off + 1) t
theorem falls_from : ∀ (l pre : List Nat), ((List.range l.length).map (· + pre.length)).filter (fallAt (pre ++ l)) = fallsFrom pre.getLast? pre.length l
  | [], pre => rfl
  | c :: t, pre => by
    have ih := falls_from t (pre ++ [c])
    rw [last_snoc, List.length_append, List.append_assoc] at ih
    simp only [List.length_singleton, List.singleton_append] at ih
    rw [List.length_cons, List.range_succ_eq_map, List.map_cons, List.map_map, List.filter_cons, fallsFrom]
    rw [show (List.range t.length).map ((· + pre.length) ∘ Nat.succ) = (List.range t.length).map (· + (pre.length + 1)) from List.map_congr_left fun i _ => by simp only [Function.comp, Nat.succ_eq_add_one]; omega, ih]
    have e : fallAt (pre ++ c :: t) (0 + pre.length) = decide (c = 48 ∧ (pre.getLast? = none ∨ pre.getLast? = some 49)) := by
      unfold fallAt
      rw [Nat.zero_add, List.getElem?_append_right (Nat.le_refl _), Nat.sub_self, List.getElem?_cons_zero]
      rcases List.eq_nil_or_concat pre with rfl | ⟨ys, y, rfl⟩
      · simp
      · rw [List.concat_eq_append]
        rw [last_snoc, List.length_append, List.length_singleton, Nat.add_sub_cancel, List.append_assoc, List.getElem?_append_right (Nat.le_refl _), Nat.sub_self]
        simp
    rw [e, Nat.zero_add]
    split <;> simp_all
theorem falls_eq (l : List Nat) : fallsL l = fallsFrom none 0 l := by
  have := falls_from l []
  simp only [List.length_nil, Nat.add_zero, List.nil_append, List.map_id'] at this
  exact this
theorem falls_rep (c : Nat) (t : List Nat) : ∀ (k : Nat) (p : Option Nat) (off : Nat), fallsFrom p off (List.replicate (k + 1) c ++ t) = (if c = 48 ∧ (p = none ∨ p = some 49) then [off] else []) ++ fallsFrom (some c) (off + (k + 1)) t
  | 0, p, off => rfl
  | k + 1, p, off => by
    rw [List.replicate_succ, List.cons_append, fallsFrom, falls_rep c t k]
    congr 1
    rw [if_neg (by rintro ⟨h1, h2 | h2⟩ <;> simp at h2; omega), List.nil_append]
    congr 1; omega
def zst : Nat → List (Nat × Nat) → List Nat
  | _, [] => []
  | at_, r :: t => (if r.1 = 48 then [at_] else []) ++ zst (at_ + r.2) t
theorem falls_runs : ∀ (rs : List (Nat × Nat)) (p : Option Nat) (off : Nat), AltP p rs → (∀ r ∈ rs, r.1 = 48 ∨ r.1 = 49) → (p = none ∨ p = some 48 ∨ p = some 49) → fallsFrom p off (flatR rs) = zst off rs
  | [], p, off, _, _, _ => rfl
  | r :: t, p, off, h, hb, hp => by
    obtain ⟨k, hk⟩ : ∃ k, r.2 = k + 1 := ⟨r.2 - 1, by have := h.2.1; omega⟩
    have hr := hb r List.mem_cons_self
    have ih := falls_runs t (some r.1) (off + r.2) h.2.2 (fun x hx => hb x (List.mem_cons_of_mem _ hx)) (by rcases hr with h | h <;> rw [h] <;> simp)
    unfold flatR at ih ⊢
    rw [List.flatMap_cons, hk, falls_rep, ← hk, ih, zst]
    congr 1
    have h1 := h.1
    by_cases h48 : r.1 = 48
    · rw [if_pos h48, if_pos ⟨h48, by
        rcases hp with rfl | rfl | rfl
        · exact .inl rfl
        · exact absurd (by rw [h48]) h1
        · exact .inr rfl⟩]
    · rw [if_neg h48, if_neg fun z => h48 z.1]
theorem falls_zst {l : List Nat} (hb : Bin l) : fallsL l = zst 0 (runsF l) := by
  have h := falls_runs (runsF l) none 0 (runsF_alt l) (fun r hr => hb _ (runsF_sign hr)) (.inl rfl)
  rw [runsF_flat] at h
  rw [falls_eq, h]
theorem zst_len : ∀ (rs : List (Nat × Nat)) (off : Nat), (zst off rs).length = (rs.filter fun r => decide (r.1 = 48)).length
  | [], _ => rfl
  | r :: t, off => by
    rw [zst, List.length_append, zst_len t, List.filter_cons]
    split <;> simp_all <;> omega
theorem mem_falls {l : List Nat} {i : Nat} (h1 : l[i]? = some 48) (h2 : i = 0 ∨ l[i - 1]? = some 49) : i ∈ fallsL l := by
  refine List.mem_filter.mpr ⟨List.mem_range.mpr (List.getElem?_eq_some_iff.mp h1).1, ?_⟩
  unfold fallAt
  rcases h2 with h2 | h2
  · rw [decide_eq_true h1, decide_eq_true h2]; rfl
  · rw [decide_eq_true h1, decide_eq_true h2, Bool.or_true]; rfl
/-! ### runs: the walk -/
def runD (r : Nat × Nat) : D := .tuple [.str (txt [r.1]), .int r.2]
theorem ne_list_nil (xs : List D) : neD (.list xs) (.list []) = some (.bool (!xs.isEmpty)) := by
  unfold neD
  rw [if_pos (Nat.le_trans (Nat.min_le_right _ _) (by simp [PyData.depth, PyData.depthAll])), PyData.eqv]
  cases xs with
  | nil => rfl
  | cons x xs => simp [PyData.eqvAll]
theorem atI_last {α : Type} (xs : List α) (y : α) : atI (xs ++ [y]) (-1) = some y := by
  unfold atI ixN
  rw [List.length_append, List.length_singleton, if_neg (by omega), if_pos (by omega)]
  rw [show (-1 + ((xs.length + 1 : Nat) : Int)).toNat = xs.length by omega]
  simp
theorem ixN_last (n : Nat) : ixN (n + 1) (-1) = some n := by
  unfold ixN
  rw [if_neg (by omega), if_pos (by omega)]
  congr 1; omega
abbrev runsG : Sim.Env → M Fl := ifS (andT (testE (opE neD (borE 1) (listE (lstN (nilE))))) (testE (opE eqD (opE ixD (opE ixD (borE 1) (negE (cE (.int 1)))) (cE (.int 0))) (varE 2)))) (putS 1 (-1) (tupE (consE (varE 2) (consE (opE addD (opE ixD (opE ixD (borE 1) (negE (cE (.int 1)))) (cE (.int 1))) (cE (.int 1))) (nilE))))) (appS 1 (tupE (consE (varE 2) (consE (cE (.int 1)) (nilE)))))
theorem runs_loop (x : SV) : ∀ (l : List Nat) (acc : List (Nat × Nat)) (z : Option SV), acc.length + l.length ≤ 1000 → ∃ z', forF (bndN 2) runsG (l.map fun c => .str (txt [c])) [some x, some (.own (acc.map runD)), z] = Sim.ret (.next [some x, some (.own ((l.foldl stepR acc).map runD)), z'])
  | [], acc, z, _ => ⟨z, rfl⟩
  | c :: l, acc, z, h => by
    simp only [List.length_cons] at h
    rcases List.eq_nil_or_concat acc with rfl | ⟨ys, y, rfl⟩
    · obtain ⟨z', e⟩ := runs_loop x l [(c, 1)] (some (.d (.str (txt [c])))) (by simp at h ⊢; omega)
      refine ⟨z', ?_⟩
      simp only [List.map_cons, forF, List.map_nil]
      walk_at "sem"
      rw [ne_list_nil]
      walk_at "sem"
      simp only [List.isEmpty_nil, List.nil_append]
      walk_at "sem"
      exact e
    · obtain ⟨d, k⟩ := y
      rw [List.concat_eq_append] at h ⊢
      simp only [List.length_append, List.length_singleton] at h
      simp only [List.map_cons, forF, List.map_append, List.map_nil]
      walk_at "sem"
      rw [ne_list_nil, show (ys.map runD ++ [runD (d, k)]).isEmpty = false by simp]
      walk_at "sem"
      rw [atI_last, show runD (d, k) = .tuple [.str (txt [d]), .int k] from rfl]
      walk_at "sem"
      rw [eqD_txt]
      walk_at "sem"
      by_cases hd : d = c
      · subst hd
        obtain ⟨z', e⟩ := runs_loop x l (ys ++ [(d, k + 1)]) (some (.d (.str (txt [d])))) (by simp at h ⊢; omega)
        refine ⟨z', ?_⟩
        rw [decide_eq_true rfl]
        walk_at "sem"
        try rw [atI_last]
        try walk_at "sem"
        rw [List.length_append, List.length_singleton, ixN_last]
        walk_at "sem"
        rw [List.foldl_cons, stepR_same, ← e]
        simp only [List.map_append, List.map_cons, List.map_nil, runD]
        rw [show ys.length = (ys.map runD).length by simp, List.set_append_right _ _ (Nat.le_refl _), Nat.sub_self, List.set_cons_zero]
        rfl
      · obtain ⟨z', e⟩ := runs_loop x l (ys ++ [(d, k)] ++ [(c, 1)]) (some (.d (.str (txt [c])))) (by simp at h ⊢; omega)
        refine ⟨z', ?_⟩
        rw [decide_eq_false (by simpa using hd)]
        walk_at "sem"
        rw [ite_lt_big (by simp; omega)]
        walk_at "sem"
        rw [List.foldl_cons, stepR_new (by rw [last_snoc]; simpa using hd), ← e]
        simp only [List.map_append, List.map_cons, List.map_nil, runD]
        rfl
theorem runs_of_eq {l : List Nat} (hl : l.length ≤ 1000) : F_runs_of [.d (.str (txt l))] = Sim.ret (.list ((runsF l).map runD)) := by
  show seq (g_runs_of [some (.d (.str (txt l))), none, none]) finM = _
  unfold g_runs_of
  walk_at "sem"
  rw [itemsM_txt (by omega)]
  walk_at "sem"
  obtain ⟨z', e⟩ := runs_loop (.d (.str (txt l))) l [] none (by simpa using hl)
  rw [List.map_nil] at e
  rw [e]
  walk_at "sem"
  rw [runs_fold]
theorem runs_eq {l : List Nat} (hb : Bin l) (h1 : 1 ≤ l.length) (hl : l.length ≤ 200) : F_runs [.d (.str (txt l))] = Sim.ret (.list ((runsF l).map runD)) := by
  show seq (g_runs [some (.d (.str (txt l)))]) finM = _
  unfold g_runs
  walk_at "sem"
  rw [need_samples_eq h1 hl hb]
  walk_at "sem"
  rw [runs_of_eq (by omega)]
  rfl
theorem y0 : ("0" : Str) = txt [48] := by decide +kernel
theorem y1 : ("1" : Str) = txt [49] := by decide +kernel
theorem falls_walk {l : List Nat} (hb : Bin l) (h1 : 1 ≤ l.length) (hl : l.length ≤ 200) : F_falls [.d (.str (txt l))] = Sim.ret (.list ((fallsL l).map intD')) := by
  show seq (g_falls [some (.d (.str (txt l))), none]) finM = _
  unfold g_falls
  walk_at "sem"
  rw [need_samples_eq h1 hl hb]
  walk_at "sem"
  rw [lenD_txt (show l.length ≤ 1000000 by omega)]
  walk_at "sem"
  rw [rng1_nat (by omega)]
  walk_at "sem"
  rw [ite_big (by omega)]
  rw [lc_filterf intD' _ (fallAt l) intD' (List.range l.length) (fun c _ => rfl) (fun i hi => ?_) (fun c hc _ => rfl)]
  · rfl
  · have hi' := List.mem_range.mp hi
    simp only [intD']
    walk_at "sem"
    rw [ixD_txt (show l.length ≤ 1000000 by omega), atI_lt hi']
    walk_at "sem"
    rw [y0, eqD_txt]
    walk_at "sem"
    unfold fallAt
    rw [List.getElem?_eq_getElem hi']
    by_cases h48 : l[i] = 48
    · rw [decide_eq_true (show [l[i]] = [48] by rw [h48]), decide_eq_true (show some l[i] = some 48 by rw [h48])]
      walk_at "sem"
      by_cases h0 : i = 0
      · rw [decide_eq_true (show (i : Int) = 0 by omega), decide_eq_true h0]
        walk_at "sem"
        rfl
      · rw [decide_eq_false (show ¬ (i : Int) = 0 by omega), decide_eq_false h0]
        walk_at "sem"
        rw [show (i : Int) - 1 = ((i - 1 : Nat) : Int) by omega, ixD_txt (show l.length ≤ 1000000 by omega), atI_lt (show i - 1 < l.length by omega)]
        walk_at "sem"
        rw [y1, eqD_txt, List.getElem?_eq_getElem (show i - 1 < l.length by omega)]
        walk_at "sem"
        simp
    · rw [decide_eq_false (show ¬ [l[i]] = [48] by simpa using h48), decide_eq_false (show ¬ some l[i] = some 48 by simpa using h48)]
      walk_at "sem"
      rfl
theorem mem_nats (a : Nat) (A : List Nat) : (A.map intD').any (fun y => PyData.eqv y (.int a)) = decide (a ∈ A) := by
  induction A with
  | nil => rfl
  | cons b A ih =>
    rw [List.map_cons, List.any_cons, ih]
    have e : PyData.eqv (intD' b) (.int a) = decide (b = a) := by
      show PyData.eqv (.int b) (.int a) = _
      rw [PyData.eqv]
      by_cases h : b = a
      · subst h; simp
      · rw [decide_eq_false h]; exact beq_eq_false_iff_ne.mpr fun z => h (by omega)
    rw [e]
    by_cases h1 : b = a
    · subst h1
      rw [decide_eq_true rfl, decide_eq_true List.mem_cons_self]; rfl
    · rw [decide_eq_false h1, Bool.false_or]
      refine decide_eq_decide.mpr ⟨List.mem_cons_of_mem _, fun h => ?_⟩
      rcases List.mem_cons.mp h with h | h
      · exact absurd h.symm h1
      · exact h
theorem notin_nats (a : Nat) (A : List Nat) : notInD (.int a) (.list (A.map intD')) = some (.bool (!decide (a ∈ A))) := by
  have : inB (.int a) (.list (A.map intD')) = some (decide (a ∈ A)) := by
    show (if min (PyData.depthAll (A.map intD')) (PyData.int a).depth ≤ 60 then some ((A.map intD').any fun y => PyData.eqv y (.int a)) else none) = _
    rw [if_pos (Nat.le_trans (Nat.min_le_right _ _) (by simp [PyData.depth])), mem_nats]
  rw [notInD, this]; rfl

/-! ### runs, further -/
theorem join_runs {R : List (Nat × Nat)} (h : (flatR R).length ≤ 1000) : joinD (.str "") [.list (R.map fun r => .str (txt (List.replicate r.2 r.1)))] = some (.str (txt (flatR R))) := by
  have := joinD_txt (ls := R.map fun r => List.replicate r.2 r.1) (by
    rw [List.map_map, show (List.length ∘ fun r : Nat × Nat => List.replicate r.2 r.1) = fun r => r.2 from funext fun r => List.length_replicate, ← flatR_len]
    show _ ≤ 1000000
    omega)
  rw [List.map_map] at this
  rw [show ("" : Str) = txt [] by decide +kernel]
  exact this
theorem zipD_zip (xs ys : List D) : zipD xs ys = (xs.zip ys).map fun p => .tuple [p.1, p.2] := by
  unfold zipD
  apply List.ext_getElem?
  intro i
  rw [List.getElem?_map, List.getElem?_map]
  by_cases h : i < min xs.length ys.length
  · rw [List.getElem?_range h]
    have h1 : i < xs.length := by omega
    have h2 : i < ys.length := by omega
    rw [List.getElem?_eq_getElem (show i < (xs.zip ys).length by rw [List.length_zip]; exact h), List.getElem_zip]
    simp [h1, h2]
  · rw [List.getElem?_eq_none (by rw [List.length_range]; omega), List.getElem?_eq_none (by rw [List.length_zip]; omega)]
    rfl
def pairR (p : (Nat × Nat) × (Nat × Nat)) : D := .tuple [runD p.1, runD p.2]
theorem zip_runs (R : List (Nat × Nat)) : zipM [.list (R.map runD), .list (cutL (R.map runD) (some 1) none)] = Sim.ret ((R.zip (R.drop 1)).map pairR) := by
  show Sim.ret (zipD _ _) = _
  rw [show cutL (R.map runD) (some 1) none = (R.map runD).drop 1 from cutL_from (R.map runD) 1, zipD_zip, ← List.map_drop, List.zip_map, List.map_map]
  rfl
theorem alt_zip : ∀ (R : List (Nat × Nat)) (p : Option Nat), AltP p R → ∀ q ∈ R.zip (R.drop 1), q.1.1 ≠ q.2.1
  | [], _, _, q, hq => by simp at hq
  | [r], _, _, q, hq => by simp at hq
  | r :: s :: t, p, h, q, hq => by
    rw [List.drop_succ_cons, List.drop_zero, List.zip_cons_cons] at hq
    rcases List.mem_cons.mp hq with rfl | hq
    · exact fun z => h.2.2.1 (by rw [← z])
    · exact alt_zip (s :: t) (some r.1) h.2.2 q (by rw [List.drop_succ_cons, List.drop_zero]; exact hq)
theorem sum_runs (R : List (Nat × Nat)) : sumD [.list (R.map fun r => .int r.2)] = some (.int (flatR R).length) := by
  have := sumD_nat (R.map (·.2))
  rw [List.map_map, ← flatR_len] at this
  exact this
theorem eqv_txt1 (a b : Nat) : neD (.str (txt [a])) (.str (txt [b])) = some (.bool (!decide (a = b))) := by
  rw [neD_txt]
  congr 3
  exact decide_eq_decide.mpr (by simp)
theorem in_signs {c : Nat} (h : c = 48 ∨ c = 49) : notInD (.str (txt [c])) (.tuple [.str "0", .str "1"]) = some (.bool false) := by
  rw [show ("0" : Str) = txt [48] by decide +kernel, show ("1" : Str) = txt [49] by decide +kernel]
  have : inB (.str (txt [c])) (.tuple [.str (txt [48]), .str (txt [49])]) = some true := by
    show (if min (PyData.depthAll [PyData.str (txt [48]), .str (txt [49])]) (PyData.str (txt [c])).depth ≤ 60 then some ([PyData.str (txt [48]), .str (txt [49])].any fun y => PyData.eqv y (.str (txt [c]))) else none) = _
    rw [if_pos (by simp [PyData.depth, PyData.depthAll])]
    simp only [List.any_cons, List.any_nil, eqv_str]
    rcases h with rfl | rfl <;> rfl
  rw [notInD, this]; rfl
theorem are_runs_eq {R : List (Nat × Nat)} (h0 : R ≠ []) (ha : AltP none R) (hb : ∀ r ∈ R, r.1 = 48 ∨ r.1 = 49) (hm : ∀ r ∈ R, r.2 ≤ 200) (hl : R.length ≤ 200) : F_are_runs [.d (.list (R.map runD))] = Sim.ret (.bool true) := by
  show seq (g_are_runs [some (.d (.list (R.map runD))), none, none]) finM = _
  unfold g_are_runs
  walk_at "sem"
  rw [show eqD (.list (R.map runD)) (.list []) = some (.bool false) by
    unfold eqD
    rw [if_pos (Nat.le_trans (Nat.min_le_right _ _) (by simp [PyData.depth, PyData.depthAll])), PyData.eqv]
    cases R with
    | nil => exact absurd rfl h0
    | cons r R => simp [PyData.eqvAll]]
  walk_at "sem"
  have hloop : ∃ z, forF (bndN 1) (thenS (ifS (orT (notT (testE (isiE PyData.isTuple (varE 1)))) (orT (testE (opE neD (callB lenD (consE (varE 1) (nilE))) (cE (.int 2)))) (orT (notT (testE (isiE PyData.isStr (opE ixD (varE 1) (cE (.int 0)))))) (testE (opE notInD (opE ixD (varE 1) (cE (.int 0))) (tupE (consE (cE (.str "0")) (consE (cE (.str "1")) (nilE))))))))) (retS (cE (.bool false))) (nextS)) (ifS (notT (testE (callF 3 F_is_whole (consA (opE ixD (varE 1) (cE (.int 1))) (consA (cE (.int 1)) (consA (cE (.int 200)) (nilE))))))) (retS (cE (.bool false))) (nextS))) (R.map runD) [some (.d (.list (R.map runD))), none, none] = Sim.ret (.next [some (.d (.list (R.map runD))), z, none]) := by
    have gen : ∀ (S : List (Nat × Nat)) (z : Option SV), (∀ r ∈ S, r ∈ R) → ∃ z', forF (bndN 1) (thenS (ifS (orT (notT (testE (isiE PyData.isTuple (varE 1)))) (orT (testE (opE neD (callB lenD (consE (varE 1) (nilE))) (cE (.int 2)))) (orT (notT (testE (isiE PyData.isStr (opE ixD (varE 1) (cE (.int 0)))))) (testE (opE notInD (opE ixD (varE 1) (cE (.int 0))) (tupE (consE (cE (.str "0")) (consE (cE (.str "1")) (nilE))))))))) (retS (cE (.bool false))) (nextS)) (ifS (notT (testE (callF 3 F_is_whole (consA (opE ixD (varE 1) (cE (.int 1))) (consA (cE (.int 1)) (consA (cE (.int 200)) (nilE))))))) (retS (cE (.bool false))) (nextS))) (S.map runD) [some (.d (.list (R.map runD))), z, none] = Sim.ret (.next [some (.d (.list (R.map runD))), z', none]) := by
      intro S
      induction S with
      | nil => intro z _; exact ⟨z, rfl⟩
      | cons r S ih =>
        intro z hS
        obtain ⟨z', e⟩ := ih (some (.d (runD r))) fun x hx => hS x (List.mem_cons_of_mem _ hx)
        refine ⟨z', ?_⟩
        have hr := hS r List.mem_cons_self
        have h1 := ha.pos r hr
        have h2 := hm r hr
        simp only [List.map_cons, forF]
        rw [show runD r = .tuple [.str (txt [r.1]), .int r.2] from rfl] at e ⊢
        walk_at "sem"
        rw [in_signs (hb r hr)]
        walk_at "sem"
        rw [whole_eq, decide_eq_true (by omega)]
        walk_at "sem"
        exact e
    exact gen R none fun r hr => hr
  obtain ⟨z, hz⟩ := hloop
  rw [hz]
  walk_at "sem"
  rw [zip_runs]
  walk_at "sem"
  rw [ite_big (by rw [List.length_zip, List.length_drop]; omega)]
  rw [lc_mapf pairR _ (fun _ => .bool true) (R.zip (R.drop 1)) (fun c _ => rfl) (fun p hp => ?_)]
  · walk_at "sem"
    rw [show (R.zip (R.drop 1)).map (fun _ => PyData.bool true) = ((R.zip (R.drop 1)).map fun _ => true).map PyData.bool by rw [List.map_map]; rfl, allD_map]
    walk_at "sem"
    rw [show ((R.zip (R.drop 1)).map fun _ => true).all id = true by simp]
  · simp only [setAll, runD]
    walk_at "sem"
    rw [eqv_txt1, decide_eq_false (alt_zip R none ha p hp)]
    rfl
theorem from_runs_eq {R : List (Nat × Nat)} (h0 : R ≠ []) (ha : AltP none R) (hb : ∀ r ∈ R, r.1 = 48 ∨ r.1 = 49) (hm : ∀ r ∈ R, r.2 ≤ 200) (hl : R.length ≤ 200) (hs : (flatR R).length ≤ 200) : F_from_runs [.d (.list (R.map runD))] = Sim.ret (.str (txt (flatR R))) := by
  show seq (g_from_runs [some (.d (.list (R.map runD))), none, none]) finM = _
  unfold g_from_runs
  walk_at "sem"
  rw [are_runs_eq h0 ha hb hm hl]
  walk_at "sem"
  rw [ite_big (by omega)]
  rw [lc_mapf runD _ (fun r => .int r.2) R (fun c _ => rfl) (fun r _ => rfl)]
  walk_at "sem"
  rw [sum_runs]
  walk_at "sem"
  rw [decide_eq_false (show ¬ (200 : Int) < ((flatR R).length : Int) by omega)]
  walk_at "sem"
  rw [ite_big (by omega)]
  rw [lc_mapf runD _ (fun r => .str (txt (List.replicate r.2 r.1))) R (fun c _ => rfl) (fun r hr => ?_)]
  · walk_at "sem"
    rw [join_runs (by omega)]
    rfl
  · simp only [setAll]
    walk_at "sem"
    rw [mul_bit (by have := hm r hr; omega)]
    rfl
/-! ### slower -/
def slowL (k : Nat) (l : List Nat) : List Nat := l.flatMap fun c => List.replicate k c
theorem slow_len (k : Nat) (l : List Nat) : (slowL k l).length = k * l.length := by
  unfold slowL
  induction l with
  | nil => simp
  | cons c l ih => rw [List.flatMap_cons, List.length_append, List.length_replicate, ih, List.length_cons, Nat.mul_succ]; omega
theorem slow_bin {k : Nat} {l : List Nat} (h : Bin l) : Bin (slowL k l) := fun c hc => by
  obtain ⟨x, hx, hc⟩ := List.mem_flatMap.mp hc
  rw [(List.mem_replicate.mp hc).2]; exact h x hx
theorem slow_rep (k n c : Nat) : slowL k (List.replicate n c) = List.replicate (n * k) c := by
  unfold slowL
  induction n with
  | zero => simp
  | succ n ih => rw [List.replicate_succ, List.flatMap_cons, ih, List.replicate_append_replicate]; congr 1; rw [Nat.succ_mul]; omega
theorem slow_app (k : Nat) (a b : List Nat) : slowL k (a ++ b) = slowL k a ++ slowL k b := by simp [slowL]
theorem slow_flat (k : Nat) (R : List (Nat × Nat)) : slowL k (flatR R) = flatR (R.map fun r => (r.1, r.2 * k)) := by
  unfold flatR
  induction R with
  | nil => rfl
  | cons r R ih => rw [List.flatMap_cons, slow_app, ih, slow_rep, List.map_cons, List.flatMap_cons]
theorem slow_alt {k : Nat} (hk : 1 ≤ k) : ∀ (R : List (Nat × Nat)) (p : Option Nat), AltP p R → AltP p (R.map fun r => (r.1, r.2 * k))
  | [], _, _ => trivial
  | r :: R, p, h => ⟨h.1, by show 1 ≤ r.2 * k; exact Nat.mul_pos h.2.1 hk, slow_alt hk R _ h.2.2⟩
theorem slow_runs {k : Nat} (hk : 1 ≤ k) (l : List Nat) : runsF (slowL k l) = (runsF l).map fun r => (r.1, r.2 * k) := by
  have h := slow_flat k (runsF l)
  rw [runsF_flat] at h
  rw [h, runsF_of (slow_alt hk _ _ (runsF_alt l))]
theorem slow_join {k : Nat} {l : List Nat} (h : k * l.length ≤ 1000) : joinD (.str "") [.list (l.map fun c => .str (txt (List.replicate k c)))] = some (.str (txt (slowL k l))) := by
  have hl : (slowL k l).length = ((l.map fun c => List.replicate k c).map List.length).sum := by
    unfold slowL
    rw [List.length_flatMap, List.map_map]; rfl
  have := joinD_txt (ls := l.map fun c => List.replicate k c) (by rw [← hl, slow_len]; show _ ≤ 1000000; omega)
  rw [List.map_map] at this
  rw [show ("" : Str) = txt [] by decide +kernel]
  exact this
/-! ### every k-th sign -/
theorem fmap_congr {α β : Type} {f g : α → Option β} : ∀ {l : List α}, (∀ a ∈ l, f a = g a) → l.filterMap f = l.filterMap g
  | [], _ => rfl
  | a :: l, h => by
    rw [List.filterMap_cons, List.filterMap_cons, h a List.mem_cons_self, fmap_congr (l := l) fun x hx => h x (List.mem_cons_of_mem _ hx)]
theorem pick_slow (k : Nat) (hk : 1 ≤ k) : ∀ l : List Nat, (List.range l.length).filterMap (fun i => (slowL k l)[k * i]?) = l
  | [] => rfl
  | c :: l => by
    have ih := pick_slow k hk l
    obtain ⟨m, rfl⟩ : ∃ m, k = m + 1 := ⟨k - 1, by omega⟩
    rw [List.length_cons, List.range_succ_eq_map, List.filterMap_cons, List.filterMap_map]
    rw [show slowL (m + 1) (c :: l) = List.replicate (m + 1) c ++ slowL (m + 1) l from rfl]
    rw [Nat.mul_zero, List.replicate_succ, List.cons_append, List.getElem?_cons_zero]
    simp only
    congr 1
    refine Eq.trans (fmap_congr fun i _ => ?_) ih
    simp only [Function.comp, Nat.succ_eq_add_one, Nat.mul_succ]
    rw [← List.cons_append, ← List.replicate_succ, List.getElem?_append_right (by rw [List.length_replicate]; omega), List.length_replicate, Nat.add_sub_cancel]
theorem stepS_slow {k : Nat} (hk : 1 ≤ k) (l : List Nat) : stepS (txt (slowL k l)) none none (k : Int) = txt l := by
  have hn : (txt (slowL k l)).length = k * l.length := by rw [txt_len, slow_len]
  have hidx : Builtin.Str.strSliceIndices none none (k : Int) (k * l.length) = (List.range l.length).map fun i => k * i := by
    unfold Builtin.Str.strSliceIndices sliceRange
    simp only
    rw [if_pos (show (k : Int) > 0 by omega)]
    simp only [if_pos (show (k : Int) > 0 by omega)]
    by_cases h0 : l.length = 0
    · rw [h0]; simp
    · have hpos : 0 < k * l.length := Nat.mul_pos hk (by omega)
      rw [if_pos (by omega)]
      have e : ((((k * l.length : Nat) : Int) - 0 + (k : Int) - 1) / (k : Int)).toNat = l.length := by
        have : (((k * l.length : Nat) : Int) - 0 + (k : Int) - 1) / (k : Int) = ((l.length : Nat) : Int) := by
          rw [show (((k * l.length : Nat) : Int) - 0 + (k : Int) - 1) = ((k - 1 : Nat) : Int) + (k : Int) * (l.length : Int) by rw [Int.natCast_mul]; omega, Int.add_mul_ediv_left _ _ (by omega : (k : Int) ≠ 0)]
          rw [Int.ediv_eq_zero_of_lt (by omega) (by omega)]; omega
        rw [this]; rfl
      rw [e]
      refine List.map_congr_left fun i _ => ?_
      rw [← Int.natCast_mul]; omega
  unfold stepS
  rw [hn, hidx]
  have hp := pick_slow k hk l
  by_cases c : (((k : Int) == 1 && ((List.range l.length).map fun i => k * i).length == k * l.length) = true)
  · rw [if_pos c]
    rw [Bool.and_eq_true] at c
    have h1 : (k : Int) = 1 := eq_of_beq c.1
    have h1 : k = 1 := by omega
    subst h1
    congr 1
    unfold slowL
    simp
  · rw [if_neg c, List.filterMap_map]
    show (⟨(List.filterMap _ _).toArray⟩ : Str) = ⟨l.toArray⟩
    congr 2
    refine Eq.trans ?_ hp
    refine fmap_congr fun i _ => ?_
    show (txt (slowL k l)).cps[k * i]? = _
    simp [txt]
theorem pl_runs (rs : List (Nat × Nat)) : Pl 2 (.list (rs.map runD)) := pl_list fun x hx => by
  obtain ⟨r, _, rfl⟩ := List.mem_map.mp hx
  refine pl_tuple fun y hy => ?_
  simp only [List.mem_cons, List.not_mem_nil, or_false] at hy
  rcases hy with rfl | rfl
  · exact pl_str _ _
  · exact pl_int _ _

/-! ### paces -/
theorem rising_len {hi : Int} : ∀ {l : List Int} {lo : Int}, l.Pairwise (· < ·) → (∀ z ∈ l, lo ≤ z ∧ z ≤ hi) → (l.length : Int) ≤ max 0 (hi - lo + 1)
  | [], _, _, _ => by simp; omega
  | a :: l, lo, h, hb => by
    obtain ⟨h1, h2⟩ := List.pairwise_cons.mp h
    have ih := rising_len (hi := hi) (l := l) (lo := a + 1) h2 fun z hz => ⟨by have := h1 z hz; omega, (hb z (List.mem_cons_of_mem _ hz)).2⟩
    have := hb a List.mem_cons_self
    simp only [List.length_cons]
    omega
def fitsL (l : List Nat) : List Fm := AFS.filter fun f => (f.readL l).isSome
def pacesL (l : List Nat) : List Int := setSortL ((fitsL l).map fun f => (f.p : Int))
theorem fits_len (l : List Nat) : (fitsL l).length ≤ 216 := by
  unfold fitsL
  exact Nat.le_trans (List.length_filter_le _ _) (by rw [AFS_len]; exact Nat.le_refl _)
theorem paces_len (l : List Nat) : (pacesL l).length < 64 := by
  have h := rising_len (hi := 6) (lo := 1) (l := pacesL l) (pw_setSort _) fun z hz => by
    obtain ⟨f, hf, rfl⟩ := List.mem_map.mp (mem_setSort.mp hz)
    have hok := AFS_ok f (List.mem_filter.mp hf).1
    have := hok.p1
    have := hok.p2
    omega
  omega
theorem sortSet_ints {ns : List Int} (h1 : ns.length ≤ 1000) (h2 : (setSortL ns).length < 64) : sortSetM (.list (ns.map PyData.int)) = Sim.ret (.list ((setSortL ns).map PyData.int)) := by
  simp only [sortSetM, intsOf_map]
  rw [if_pos ⟨h1, h2⟩]
theorem paces_list (l : List Nat) : sortSetM (.list ((fitsL l).map fun f => PyData.int f.p)) = Sim.ret (.list ((pacesL l).map PyData.int)) := by
  have h := sortSet_ints (ns := (fitsL l).map fun f : Fm => (f.p : Int)) (by rw [List.length_map]; have := fits_len l; omega) (paces_len l)
  rw [List.map_map] at h
  exact h
theorem paces_eq {l : List Nat} (hb : Bin l) (h1 : 1 ≤ l.length) (hl : l.length ≤ 200) : F_paces [.d (.str (txt l))] = Sim.ret (.list ((pacesL l).map PyData.int)) := by
  show seq (g_paces [some (.d (.str (txt l))), none]) finM = _
  unfold g_paces
  walk_at "sem"
  rw [forms_for_eq hb h1 hl]
  rw [show (AFS.filter fun f => (f.readL l).isSome) = fitsL l from rfl]
  walk_at "sem"
  rw [ite_big (by have := fits_len l; omega)]
  rw [lc_mapf Fm.d _ (fun f => PyData.int f.p) (fitsL l) (fun c _ => rfl) (fun f _ => rfl)]
  walk_at "sem"
  rw [paces_list]
  rfl
theorem mem_ints (a : Int) (A : List Int) : (A.map PyData.int).any (fun y => PyData.eqv y (.int a)) = decide (a ∈ A) := by
  induction A with
  | nil => rfl
  | cons b A ih =>
    rw [List.map_cons, List.any_cons, ih, PyData.eqv]
    by_cases h1 : b = a
    · subst h1
      rw [decide_eq_true List.mem_cons_self]; simp
    · rw [show (b == a) = false from beq_eq_false_iff_ne.mpr h1, Bool.false_or]
      refine decide_eq_decide.mpr ⟨List.mem_cons_of_mem _, fun h => ?_⟩
      rcases List.mem_cons.mp h with h | h
      · exact absurd h.symm h1
      · exact h
theorem inB_ints (a : Int) (A : List Int) : inB (.int a) (.list (A.map PyData.int)) = some (decide (a ∈ A)) := by
  show (if min (PyData.depthAll (A.map PyData.int)) (PyData.int a).depth ≤ 60 then some ((A.map PyData.int).any fun y => PyData.eqv y (.int a)) else none) = _
  rw [if_pos (Nat.le_trans (Nat.min_le_right _ _) (by simp [PyData.depth])), mem_ints]
theorem in_ints (a : Int) (A : List Int) : inD (.int a) (.list (A.map PyData.int)) = some (.bool (decide (a ∈ A))) := by rw [inD, inB_ints]; rfl
theorem notin_ints (a : Int) (A : List Int) : notInD (.int a) (.list (A.map PyData.int)) = some (.bool (!decide (a ∈ A))) := by rw [notInD, inB_ints]; rfl
theorem pl_ints (A : List Int) : Pl 1 (.list (A.map PyData.int)) := pl_list fun x hx => by
  obtain ⟨a, _, rfl⟩ := List.mem_map.mp hx
  exact pl_int _ _
theorem mem_paces {l : List Nat} {f : Fm} (hf : f.Ok) (h : (f.readL l).isSome = true) : (f.p : Int) ∈ pacesL l := mem_setSort.mpr (List.mem_map.mpr ⟨f, List.mem_filter.mpr ⟨AFS_mem hf, h⟩, rfl⟩)
/-! ### slower samples of a form -/
theorem slow_fr (f : Fm) (k w : Nat) : slowL k (f.fr w) = (f.pac (k * f.p)).fr w := by
  show slowL k ((f.row w).flatMap fun x => List.replicate f.p (48 + x)) = (f.row w).flatMap fun x => List.replicate (k * f.p) (48 + x)
  generalize f.row w = r
  induction r with
  | nil => rfl
  | cons x r ih => rw [List.flatMap_cons, slow_app, ih, slow_rep, List.flatMap_cons, Nat.mul_comm]
def slowR (k : Nat) (r : Nat × Nat) : Nat × Nat := (k * r.1, r.2)
theorem slow_sent (f : Fm) (k : Nat) (rs : List (Nat × Nat)) (rest : Nat) : slowL k (f.sentL rs rest) = (f.pac (k * f.p)).sentL (rs.map (slowR k)) (k * rest) := by
  unfold Fm.sentL
  rw [slow_app, slow_rep, Nat.mul_comm rest k]
  congr 1
  induction rs with
  | nil => rfl
  | cons r rs ih =>
    rw [List.flatMap_cons, slow_app, ih, List.map_cons, List.flatMap_cons]
    congr 1
    unfold Fm.part
    rw [slow_app, slow_rep, slow_fr, Nat.mul_comm]; rfl

/-! ### a listener's state -/
def upS (s : Sta) (k : Nat) (l : LS) : Sta := { s with ls := s.ls.set k l }
theorem upS_self {s : Sta} {k : Nat} {l : LS} (h : s.ls[k]? = some l) : upS s k l = s := by
  obtain ⟨n, ls⟩ := s
  have h : ls[k]? = some l := h
  show (⟨n, ls.set k l⟩ : Sta) = ⟨n, ls⟩
  congr 1
  apply List.ext_getElem?
  intro i
  by_cases e : k = i
  · subst e
    rw [List.getElem?_set_self (List.getElem?_eq_some_iff.mp h).1, h]
  · rw [List.getElem?_set_ne e]
theorem upS_up (s : Sta) (k : Nat) (l l' : LS) : upS (upS s k l) k l' = upS s k l' := by simp [upS, List.set_set]
theorem up_get {s : Sta} {k : Nat} (l : LS) (hk : k < s.ls.length) : (upS s k l).ls[k]? = some l := by simp [upS, hk]
section
variable {s : Sta} {k : Nat} (hk : k < s.ls.length) {β : Type}
include hk
theorem lisK_up {α : Type} (h : Nat → LS → M α) (l : LS) : lisK h (some (some (.lis k))) (upS s k l) = h k l (upS s k l) := by
  simp only [lisK, up_get l hk]
theorem fld_up (f : Fd) (env : Sim.Env) (g : D → M β) (l : LS) : seq (fldE 0 f (some (.lis k) :: env)) g (upS s k l) = g (l.get f) (upS s k l) := by
  simp only [seq, fldE, List.getElem?_cons_zero, lisK_up hk, Sim.ret]
theorem put_up (f : Fd) (d : D) (env : Sim.Env) (g : Fl → M β) (l : LS) (hd : noList d = true) : seq (putM f d env (some (some (.lis k)))) g (upS s k l) = g (.next env) (upS s k (l.put f d)) := by
  simp only [seq, putM, lisK_up hk, if_pos hd]
  exact congrArg (g (.next env)) (upS_up s k l _)
theorem past_up (fa : Sim.Env → M D) (env : Sim.Env) (g : Fl → M β) (l : LS) : seq (pastS 0 fa (some (.lis k) :: env)) g (upS s k l) = seq (fa (some (.lis k) :: env)) (fun d => seq (pastM d (some (.lis k) :: env) (some (some (.lis k)))) g) (upS s k l) := by
  rw [← Sim.seq_assoc]
  simp only [seq, pastS, List.getElem?_cons_zero, lisK_up hk]
theorem past_put (d : D) (env : Sim.Env) (g : Fl → M β) (l : LS) (hd : noList d = true) (hl : l.past.length < 1000000) : seq (pastM d env (some (some (.lis k)))) g (upS s k l) = g (.next env) (upS s k { l with past := l.past ++ [d] }) := by
  have e : (noList d = true ∧ l.past.length < big) = True := eq_true ⟨hd, hl⟩
  simp only [seq, pastM, lisK_up hk, e, if_true]
  exact congrArg (g (.next env)) (upS_up s k l _)
theorem meth_up (np : Nat) (F : List SV → M D) (fs : Sim.Env → M (List SV)) (env : Sim.Env) (g : D → M β) (l : LS) : seq (methL 0 np F fs (some (.lis k) :: env)) g (upS s k l) = seq (seq (fs (some (.lis k) :: env)) fun as => if as.length + 1 = np then F (.lis k :: as) else fault) g (upS s k l) := by
  simp only [seq, methL, List.getElem?_cons_zero, lisK_up hk]
end
theorem setF_0 (f : Fd) (fa : Sim.Env → M D) (x : Option SV) (env : Sim.Env) : setF 0 f fa (x :: env) = seq (fa (x :: env)) fun d => putM f d (x :: env) (some x) := rfl

/-! ### what a listener tells, in plain words -/
structure Li where
  t : Option Nat
  bs : List Nat
  td : List (Option Nat)
def Li.ls (f : Fm) (x : Li) (past : List D) : LS := ⟨f.d, optD x.t, .tuple (x.bs.map intD'), .tuple (x.td.map optD), past⟩
def Li.row (x : Li) (c : Nat) : D := .tuple [optD x.t, .tuple (x.bs.map intD'), .tuple (x.td.map optD), .str (txt [c])]
def Fm.tell (f : Fm) (bs : List Nat) : Option Nat := if bs.headD 1 = 0 ∧ bs.drop (1 + f.b) = f.parL ((bs.drop 1).take f.b) ++ List.replicate f.s 1 then some (f.wordB ((bs.drop 1).take f.b)) else none
def ansD : Option (Option Nat) → D
  | none => .none
  | some (some w) => .tuple [.str "word", .int w]
  | some none => .tuple [.str "fault"]
theorem noL_nats : ∀ l : List Nat, noLists (l.map intD') = true
  | [] => rfl
  | _ :: l => by rw [List.map_cons, noLists, noL_nats l]; rfl
theorem noL_opts : ∀ l : List (Option Nat), noLists (l.map optD) = true
  | [] => rfl
  | o :: l => by rw [List.map_cons, noLists, noL_opts l]; cases o <;> rfl
theorem noL_tn (l : List Nat) : noList (.tuple (l.map intD')) = true := by rw [noList]; exact noL_nats l
theorem noL_to (l : List (Option Nat)) : noList (.tuple (l.map optD)) = true := by rw [noList]; exact noL_opts l
theorem noL_o (o : Option Nat) : noList (optD o) = true := by cases o <;> rfl
theorem noL_row (x : Li) (c : Nat) : noList (x.row c) = true := by
  unfold Li.row
  rw [noList, noLists, noLists, noLists, noLists, noL_o, noL_tn, noL_to]; rfl
theorem form_five (f : Fm) (env : Sim.Env) : bndT [1, 2, 3, 4, 5] f.d env = some (setAll [1, 2, 3, 4, 5] [.int f.p, .int f.b, .str (ordT f.lo), .str (parT f.q), .int f.s] env) := rfl
theorem listD_t (xs : List D) : listD [.tuple xs] = some (.list xs) := rfl
theorem ended_eq {f : Fm} (hf : f.Ok) {s : Sta} {k : Nat} (hk : k < s.ls.length) (tk : D) (bs : List Nat) (td : List (Option Nat)) (past : List D) (htd : td.length < 900000) :
    F_L_ended [.lis k] (upS s k ⟨f.d, tk, .tuple (bs.map intD'), .tuple (td.map optD), past⟩) = if bs.length < f.cnt then .ok .none (upS s k ⟨f.d, tk, .tuple (bs.map intD'), .tuple (td.map optD), past⟩) else .ok (ansD (some (f.tell bs))) (upS s k (Li.ls f ⟨none, [], td ++ [f.tell bs]⟩ past)) := by
  have hpar := fun r => parity_eq hf r
  have hwo := fun r => word_of_eq (f := f) r
  have hC := Fm.cnt_le hf
  obtain ⟨p1, p2, b1, b2, q2, s1, s2⟩ := hf
  show seq (g_L_ended [some (.lis k), none, none, none, none, none, none, none, none]) finM (upS s k _) = _
  unfold g_L_ended
  walk_at "sem"
  rw [fld_up hk]
  simp only [LS.get, form_five, setAll]
  walk_at "sem"
  rw [fld_up hk]
  simp only [LS.get, lenD_t]
  walk_at "sem"
  rw [par_none q2]
  walk_at "sem"
  rw [show intD [.bool (decide (f.q ≠ 0))] = some (.int (if f.q = 0 then 0 else 1)) by by_cases h : f.q = 0 <;> simp [intD, h]]
  walk_at "sem"
  have hc : (1 : Int) + (f.b : Int) + (if f.q = 0 then 0 else 1) + (f.s : Int) = (f.cnt : Int) := by unfold Fm.cnt; split <;> omega
  rw [hc]
  by_cases hlt : bs.length < f.cnt
  · rw [decide_eq_true (show (bs.length : Int) < (f.cnt : Int) by omega), if_pos hlt]
    walk_at "sem"
    rfl
  · rw [decide_eq_false (show ¬ (bs.length : Int) < (f.cnt : Int) by omega), if_neg hlt]
    walk_at "sem"
    rw [fld_up hk]
    simp only [LS.get]
    walk_at "sem"
    rw [show (1 : Int) + (f.b : Int) = ((1 + f.b : Nat) : Int) by omega, show (1 : Int) = ((1 : Nat) : Int) from rfl, cutL_mid, Nat.add_sub_cancel_left, ← List.map_drop, ← List.map_take, listD_t]
    walk_at "sem"
    rw [fld_up hk]
    simp only [LS.get]
    obtain ⟨b0, br, rfl⟩ : ∃ b0 br, bs = b0 :: br := by
      cases bs with
      | nil => simp at hlt; omega
      | cons a r => exact ⟨a, r, rfl⟩
    rw [List.map_cons, show intD' b0 = PyData.int b0 from rfl]
    walk_at "sem"
    have fin : ∀ (gd : Bool) (x6 : Option SV) (w : Option Nat), (gd = true → ∃ n, w = some n) → (gd = false → w = none) →
      seq (setF 0 Fd.told (opE addD (fldE 0 Fd.told) (tupE (consE (varE 8) nilE))) [some (SV.lis k), some (SV.d (PyData.int f.p)), some (SV.d (PyData.int f.b)), some (SV.d (PyData.str (ordT f.lo))), some (SV.d (PyData.str (parT f.q))), some (SV.d (PyData.int f.s)), x6, some (SV.d (.bool gd)), some (SV.d (optD w))])
        (fun a => seq (thenM (thenS (setF 0 Fd.tick (cE PyData.none)) (thenS (setF 0 Fd.bits (tupE nilE)) (retS (ifE (testE (varE 7)) (tupE (consE (cE (PyData.str "word")) (consE (varE 8) nilE))) (tupE (consE (cE (PyData.str "fault")) nilE)))))) a) finM)
        (upS s k { form := f.d, tick := tk, bits := PyData.tuple (PyData.int b0 :: List.map intD' br), told := PyData.tuple (List.map optD td), past := past }) = R.ok (ansD (some w)) (upS s k (Li.ls f ⟨none, [], td ++ [w]⟩ past)) := by
      intro gd x6 w h1 h2
      rw [setF_0]
      walk_at "sem"
      rw [fld_up hk]
      simp only [LS.get]
      rw [addD_tt (by simp only [List.length_map, List.length_cons, List.length_nil, big]; omega)]
      walk_at "sem"
      rw [show td.map optD ++ [optD w] = (td ++ [w]).map optD by simp, put_up hk _ _ _ _ _ (noL_to _)]
      simp only [LS.put]
      walk_at "sem"
      rw [setF_0]
      walk_at "sem"
      rw [put_up hk _ _ _ _ _ rfl]
      simp only [LS.put]
      walk_at "sem"
      rw [setF_0]
      walk_at "sem"
      rw [put_up hk _ _ _ _ _ rfl]
      simp only [LS.put]
      walk_at "sem"
      cases gd with
      | true =>
        obtain ⟨m, rfl⟩ := h1 rfl
        walk_at "sem"
        rfl
      | false =>
        rw [h2 rfl]
        walk_at "sem"
        rfl
    have hh : ((b0 :: br).headD 1 = 0) = (b0 = 0) := rfl
    by_cases h0 : b0 = 0
    · subst h0
      walk_at "sem"
      rw [fld_up hk]
      simp only [LS.get]
      walk_at "sem"
      rw [cutL_from, Nat.add_comm 1 f.b, List.drop_succ_cons, ← List.map_drop, listD_t]
      walk_at "sem"
      rw [fld_up hk]
      simp only [LS.get]
      rw [hpar]
      walk_at "sem"
      rw [mul_ones (by omega)]
      walk_at "sem"
      rw [addD_ll (by
        simp only [List.length_map, List.length_replicate]
        split
        · simp [big]; omega
        · split <;> (simp [big]; omega))]
      walk_at "sem"
      rw [← List.map_append, eq_nats]
      rw [show (if f.q = 0 then [] else if f.q = 1 then [(List.take f.b (List.drop 1 (0 :: br))).sum % 2] else [1 - (List.take f.b (List.drop 1 (0 :: br))).sum % 2]) = f.parL (List.take f.b (List.drop 1 (0 :: br))) from rfl]
      walk_at "sem"
      by_cases h2 : List.drop f.b br = f.parL (List.take f.b (List.drop 1 (0 :: br))) ++ List.replicate f.s 1
      · rw [decide_eq_true h2]
        walk_at "sem"
        rw [fld_up hk]
        simp only [LS.get]
        rw [hwo]
        walk_at "sem"
        have e := fin true (some (SV.d (PyData.list (List.map intD' (List.take f.b (List.drop 1 (0 :: br))))))) (some (f.wordB (List.take f.b (List.drop 1 (0 :: br))))) (fun _ => ⟨_, rfl⟩) (fun z => by cases z)
        have et : f.tell (0 :: br) = some (f.wordB (List.take f.b (List.drop 1 (0 :: br)))) := by
          unfold Fm.tell
          rw [Nat.add_comm 1 f.b, List.drop_succ_cons, if_pos ⟨rfl, h2⟩]
        rw [et]
        exact e
      · rw [decide_eq_false h2]
        walk_at "sem"
        have e := fin false (some (SV.d (PyData.list (List.map intD' (List.take f.b (List.drop 1 (0 :: br))))))) none (fun z => by cases z) (fun _ => rfl)
        have et : f.tell (0 :: br) = none := by
          unfold Fm.tell
          rw [Nat.add_comm 1 f.b, List.drop_succ_cons, if_neg fun z => h2 z.2]
        rw [et]
        exact e
    · rw [decide_eq_false (show ¬ ((b0 : Int) = 0) by omega)]
      walk_at "sem"
      have e := fin false (some (SV.d (PyData.list (List.map intD' (List.take f.b (List.drop 1 (b0 :: br))))))) none (fun z => by cases z) (fun _ => rfl)
      have et : f.tell (b0 :: br) = none := by
        unfold Fm.tell
        rw [if_neg fun z => h0 z.1]
      rw [et]
      exact e
/-- a sample is heard -/
def Fm.hearL (f : Fm) (x : Li) (c : Nat) : Option (Option Nat) × Li :=
  if x.t = none ∧ c = 49 then (none, x) else
    if (if x.t.getD 0 % f.p = f.p / 2 then x.bs ++ [c - 48] else x.bs).length < f.cnt then (none, ⟨some (x.t.getD 0 + 1), if x.t.getD 0 % f.p = f.p / 2 then x.bs ++ [c - 48] else x.bs, x.td⟩)
    else (some (f.tell (if x.t.getD 0 % f.p = f.p / 2 then x.bs ++ [c - 48] else x.bs)), ⟨none, [], x.td ++ [f.tell (if x.t.getD 0 % f.p = f.p / 2 then x.bs ++ [c - 48] else x.bs)]⟩)
theorem notin_01 {c : Nat} (h : c = 48 ∨ c = 49) : notInD (.str (txt [c])) (.tuple [.str "0", .str "1"]) = some (.bool false) := by
  rcases h with rfl | rfl <;> rfl
theorem eq_one {c : Nat} (h : c = 48 ∨ c = 49) : eqD (.str (txt [c])) (.str "1") = some (.bool (decide (c = 49))) := by
  rcases h with rfl | rfl <;> rfl
theorem isN_opt (o : Option Nat) : isNoneD (optD o) = decide (o = none) := by cases o <;> rfl
/-- the rest of hear, from a tick on -/
theorem hear_tail {f : Fm} (hf : f.Ok) {s : Sta} {k : Nat} (hk : k < s.ls.length) (t : Nat) (bs : List Nat) (td : List (Option Nat)) (past : List D) {c : Nat} (hc : c = 48 ∨ c = 49) (h1 : bs.length ≤ 900000) (h2 : td.length < 900000) (z : Option SV) :
    seq (thenS (setS 2 (opE ixD (fldE 0 Fd.form) (cE (PyData.int 0)))) (thenS (ifS (testE (opE eqD (opE modD (fldE 0 Fd.tick) (varE 2)) (opE fdivD (varE 2) (cE (PyData.int 2))))) (setF 0 Fd.bits (opE addD (fldE 0 Fd.bits) (tupE (consE (callB intD (consE (varE 1) nilE)) nilE)))) nextS)
      (thenS (setF 0 Fd.tick (opE addD (fldE 0 Fd.tick) (cE (PyData.int 1)))) (retS (methL 0 1 F_L_ended nilE)))) [some (SV.lis k), some (SV.d (PyData.str (txt [c]))), z]) finM
      (upS s k ⟨f.d, .int t, .tuple (bs.map intD'), .tuple (td.map optD), past⟩) =
    if (if t % f.p = f.p / 2 then bs ++ [c - 48] else bs).length < f.cnt then .ok .none (upS s k (Li.ls f ⟨some (t + 1), if t % f.p = f.p / 2 then bs ++ [c - 48] else bs, td⟩ past))
    else .ok (ansD (some (f.tell (if t % f.p = f.p / 2 then bs ++ [c - 48] else bs)))) (upS s k (Li.ls f ⟨none, [], td ++ [f.tell (if t % f.p = f.p / 2 then bs ++ [c - 48] else bs)]⟩ past)) := by
  have hee := ended_eq hf hk
  have hfp : ixD f.d (.int 0) = some (.int f.p) := by unfold Fm.d; rw [ixD_t, atI_0]
  obtain ⟨p1, p2, b1, b2, q2, s1, s2⟩ := hf
  walk_at "sem"
  rw [fld_up hk]
  simp only [LS.get, hfp]
  walk_at "sem"
  rw [fld_up hk]
  simp only [LS.get]
  rw [modD_ii (by omega)]
  walk_at "sem"
  rw [fdivD_ii (by decide)]
  walk_at "sem"
  have e1 : ((t : Int) % (f.p : Int) = (f.p : Int) / 2) = (t % f.p = f.p / 2) := by
    apply propext
    have a1 : (t : Int) % (f.p : Int) = ((t % f.p : Nat) : Int) := by simp
    have a2 : (f.p : Int) / 2 = ((f.p / 2 : Nat) : Int) := by simp
    rw [a1, a2]; exact Int.ofNat_inj
  simp only [e1]
  have fin : ∀ (bs' : List Nat) (z' : Option SV), seq (setF 0 Fd.tick (opE addD (fldE 0 Fd.tick) (cE (PyData.int 1))) [some (SV.lis k), some (SV.d (PyData.str (txt [c]))), z']) (fun a => seq (thenM (retS (methL 0 1 F_L_ended nilE)) a) finM) (upS s k ⟨f.d, .int t, .tuple (bs'.map intD'), .tuple (td.map optD), past⟩) =
      if bs'.length < f.cnt then .ok .none (upS s k (Li.ls f ⟨some (t + 1), bs', td⟩ past)) else .ok (ansD (some (f.tell bs'))) (upS s k (Li.ls f ⟨none, [], td ++ [f.tell bs']⟩ past)) := by
    intro bs' z'
    rw [setF_0]
    walk_at "sem"
    rw [fld_up hk]
    simp only [LS.get]
    walk_at "sem"
    rw [put_up hk _ _ _ _ _ rfl]
    simp only [LS.put]
    walk_at "sem"
    rw [meth_up hk]
    walk_at "sem"
    have h := hee (.int ((t : Int) + 1)) bs' td past h2
    by_cases hl : bs'.length < f.cnt
    · rw [if_pos hl] at h ⊢
      simp only [seq, h]
      rfl
    · rw [if_neg hl] at h ⊢
      simp only [seq, h]
      rfl
  by_cases hm : t % f.p = f.p / 2
  · simp only [hm, decide_true, if_true]
    try walk_at "sem"
    rw [setF_0]
    walk_at "sem"
    rw [fld_up hk]
    simp only [LS.get]
    rw [int_sign hc]
    simp only [lift_s, seq_r]
    rw [addD_tt (by simp only [List.length_map, List.length_cons, List.length_nil, big]; omega)]
    walk_at "sem"
    rw [show bs.map intD' ++ [PyData.int ((c - 48 : Nat) : Int)] = (bs ++ [c - 48]).map intD' by simp [intD'], put_up hk _ _ _ _ _ (noL_tn _)]
    simp only [LS.put]
    walk_at "sem"
    exact fin (bs ++ [c - 48]) _
  · simp only [hm, decide_false, if_false, Bool.false_eq_true]
    try walk_at "sem"
    exact fin bs _
theorem hear_same (f : Fm) (x : Li) (c t : Nat) (past : List D) (s : Sta) (k : Nat) (ht : x.t.getD 0 = t) (hn : ¬ (x.t = none ∧ c = 49)) :
    (if (if t % f.p = f.p / 2 then x.bs ++ [c - 48] else x.bs).length < f.cnt then R.ok PyData.none (upS s k (Li.ls f ⟨some (t + 1), if t % f.p = f.p / 2 then x.bs ++ [c - 48] else x.bs, x.td⟩ past))
    else .ok (ansD (some (f.tell (if t % f.p = f.p / 2 then x.bs ++ [c - 48] else x.bs)))) (upS s k (Li.ls f ⟨none, [], x.td ++ [f.tell (if t % f.p = f.p / 2 then x.bs ++ [c - 48] else x.bs)]⟩ past))) = .ok (ansD (f.hearL x c).1) (upS s k ((f.hearL x c).2.ls f past)) := by
  subst ht
  unfold Fm.hearL
  rw [if_neg hn]
  generalize (if x.t.getD 0 % f.p = f.p / 2 then x.bs ++ [c - 48] else x.bs) = B
  by_cases h : B.length < f.cnt
  · rw [if_pos h, if_pos h]; rfl
  · rw [if_neg h, if_neg h]
theorem hear_eq {f : Fm} (hf : f.Ok) {s : Sta} {k : Nat} (hk : k < s.ls.length) (x : Li) (past : List D) {c : Nat} (hc : c = 48 ∨ c = 49) (h1 : x.bs.length ≤ 900000) (h2 : x.td.length < 900000) (h3 : past.length < 900000) :
    F_L_hear [.lis k, .d (.str (txt [c]))] (upS s k (x.ls f past)) = .ok (ansD (f.hearL x c).1) (upS s k ((f.hearL x c).2.ls f (past ++ [x.row c]))) := by
  have htl := fun (t : Nat) (z : Option SV) => hear_tail hf hk t x.bs x.td (past ++ [x.row c]) hc h1 h2 z
  rcases x with ⟨_ | t, bs, td⟩
  · show seq (g_L_hear [some (.lis k), some (.d (.str (txt [c]))), none]) finM (upS s k _) = _
    unfold g_L_hear
    walk_at "sem"
    rw [notin_01 hc]
    walk_at "sem"
    rw [past_up hk]
    walk_at "sem"
    rw [fld_up hk, fld_up hk, fld_up hk]
    simp only [LS.get, Li.ls, optD]
    rw [show PyData.tuple [.none, .tuple (bs.map intD'), .tuple (td.map optD), .str (txt [c])] = Li.row ⟨none, bs, td⟩ c from rfl]
    rw [past_put hk _ _ _ _ (noL_row _ c) (by show past.length < 1000000; omega)]
    walk_at "sem"
    rw [fld_up hk]
    simp only [LS.get]
    walk_at "sem"
    rw [eq_one hc]
    walk_at "sem"
    by_cases h49 : c = 49
    · rw [decide_eq_true h49]
      walk_at "sem"
      have e : f.hearL ⟨none, bs, td⟩ c = (none, ⟨none, bs, td⟩) := by unfold Fm.hearL; rw [if_pos ⟨rfl, h49⟩]
      rw [e]
      rfl
    · rw [decide_eq_false h49]
      walk_at "sem"
      rw [fld_up hk]
      simp only [LS.get]
      walk_at "sem"
      rw [setF_0]
      walk_at "sem"
      rw [put_up hk _ _ _ _ _ rfl]
      simp only [LS.put]
      rw [thenM_n]
      refine (htl 0 none).trans ?_
      exact hear_same f ⟨none, bs, td⟩ c 0 (past ++ [Li.row ⟨none, bs, td⟩ c]) s k rfl (fun z => h49 z.2)
  · show seq (g_L_hear [some (.lis k), some (.d (.str (txt [c]))), none]) finM (upS s k _) = _
    unfold g_L_hear
    walk_at "sem"
    rw [notin_01 hc]
    walk_at "sem"
    rw [past_up hk]
    walk_at "sem"
    rw [fld_up hk, fld_up hk, fld_up hk]
    simp only [LS.get, Li.ls, optD]
    rw [show PyData.tuple [.int (t : Int), .tuple (bs.map intD'), .tuple (td.map optD), .str (txt [c])] = Li.row ⟨some t, bs, td⟩ c from rfl]
    rw [past_put hk _ _ _ _ (noL_row _ c) (by show past.length < 1000000; omega)]
    walk_at "sem"
    rw [fld_up hk]
    simp only [LS.get]
    walk_at "sem"
    rw [fld_up hk]
    simp only [LS.get, isNoneD, Bool.false_eq_true, if_false]
    rw [seq_r, thenM_n]
    refine (htl t none).trans ?_
    exact hear_same f ⟨some t, bs, td⟩ c t (past ++ [Li.row ⟨some t, bs, td⟩ c]) s k rfl (fun z => by cases z.1)
/-! ### what a listener tells of samples -/
def Fm.lisL (f : Fm) : Nat → Li → List Nat → List (Nat × Option Nat)
  | _, _, [] => []
  | i, x, c :: l => (match (f.hearL x c).1 with | none => [] | some w => [(i, w)]) ++ f.lisL (i + 1) (f.hearL x c).2 l
def hrow (r : Nat × Option Nat) : D := .tuple [.int r.1, optD r.2]
def Fm.heard (f : Fm) (l : List Nat) : List (Nat × Option Nat) := f.lisL 0 ⟨none, [], []⟩ l
def enumF : Nat → List Nat → List D
  | _, [] => []
  | i, c :: l => .tuple [.int i, .str (txt [c])] :: enumF (i + 1) l
theorem enumF_len : ∀ (i : Nat) (l : List Nat), (enumF i l).length = l.length
  | _, [] => rfl
  | i, _ :: l => congrArg (· + 1) (enumF_len (i + 1) l)
theorem enumF_get : ∀ (l : List Nat) (i j : Nat), (enumF i l)[j]? = (l[j]?).map fun c => .tuple [.int ((i + j : Nat) : Int), .str (txt [c])]
  | [], _, _ => by simp [enumF]
  | c :: l, i, 0 => by simp [enumF]
  | c :: l, i, j + 1 => by
    rw [enumF, List.getElem?_cons_succ, enumF_get l (i + 1) j, List.getElem?_cons_succ, show i + 1 + j = i + (j + 1) by omega]
theorem enum_txt (l : List Nat) : enumD (signsOf (txt l)) = enumF 0 l := by
  apply List.ext_getElem?
  intro j
  rw [enumF_get, signs_txt]
  unfold enumD
  by_cases h : j < l.length
  · rw [List.getElem?_map, List.getElem?_range (by simpa using h), List.getElem?_eq_getElem h]
    simp [h]
  · rw [List.getElem?_eq_none (by simpa using h), List.getElem?_eq_none (by omega)]
    rfl
theorem hear_bs (f : Fm) (x : Li) (c : Nat) : (f.hearL x c).2.bs.length ≤ x.bs.length + 1 ∧ (f.hearL x c).2.td.length ≤ x.td.length + 1 := by
  unfold Fm.hearL
  by_cases h : x.t = none ∧ c = 49
  · rw [if_pos h]; exact ⟨by simp, by simp⟩
  · rw [if_neg h]
    have e : (if x.t.getD 0 % f.p = f.p / 2 then x.bs ++ [c - 48] else x.bs).length ≤ x.bs.length + 1 := by split <;> simp
    generalize (if x.t.getD 0 % f.p = f.p / 2 then x.bs ++ [c - 48] else x.bs) = B at e
    split
    · exact ⟨e, by simp⟩
    · exact ⟨by simp, by simp⟩
theorem enumSM_txt {l : List Nat} (h : l.length ≤ 1000000) : enumSM [.str (txt l)] = Sim.ret (enumF 0 l) := by
  show (if (txt l).length ≤ big then ret (enumD (signsOf (txt l))) else fault) = _
  rw [txt_len, if_pos (show l.length ≤ big from h), enum_txt]
theorem ans_isN (o : Option (Option Nat)) : isNoneD (ansD o) = o.isNone := by
  rcases o with _ | _ | _ <;> rfl
theorem heard_loop {f : Fm} (hf : f.Ok) {s : Sta} {k : Nat} (hk : k < s.ls.length) (a b : Option SV) : ∀ (l : List Nat) (i : Nat) (x : Li) (past : List D) (acc : List (Nat × Option Nat)) (z4 z5 z6 : Option SV), Bin l → x.bs.length + l.length ≤ 900000 → x.td.length + l.length < 900000 → past.length + l.length < 900000 → acc.length + l.length < 900000 →
    ∃ (y4 y5 y6 : Option SV) (x' : Li) (past' : List D), forF (bndT [4, 5]) (thenS (setS 6 (methL 2 2 F_L_hear (consA (varE 5) (nilE)))) (ifS (testE (notNE (varE 6))) (appS 3 (tupE (consE (varE 4) (consE (ifE (testE (opE eqD (opE ixD (varE 6) (cE (.int 0))) (cE (.str "word")))) (opE ixD (varE 6) (cE (.int 1))) (cE .none)) (nilE))))) (nextS))) (enumF i l)
      [a, b, some (.lis k), some (.own (acc.map hrow)), z4, z5, z6] (upS s k (x.ls f past)) = .ok (.next [a, b, some (.lis k), some (.own ((acc ++ f.lisL i x l).map hrow)), y4, y5, y6]) (upS s k (x'.ls f past'))
  | [], i, x, past, acc, z4, z5, z6, _, _, _, _, _ => ⟨z4, z5, z6, x, past, by simp [enumF, forF, Fm.lisL, Sim.ret]⟩
  | c :: l, i, x, past, acc, z4, z5, z6, hb, h1, h2, h3, h4 => by
    have hc := hb c List.mem_cons_self
    simp only [List.length_cons] at h1 h2 h3 h4
    have hh := hear_eq hf hk x past hc (by omega) (by omega) (by omega)
    have hbs := hear_bs f x c
    have ih := fun (acc' : List (Nat × Option Nat)) (z4 z5 z6 : Option SV) (h : acc'.length ≤ acc.length + 1) => heard_loop hf hk a b l (i + 1) (f.hearL x c).2 (past ++ [x.row c]) acc' z4 z5 z6 (fun y hy => hb y (List.mem_cons_of_mem _ hy)) (by omega) (by omega) (by simp; omega) (by omega)
    have step : ∀ g : D → M Fl, seq (methL 2 2 F_L_hear (consA (varE 5) nilE) [a, b, some (.lis k), some (.own (acc.map hrow)), some (.d (.int i)), some (.d (.str (txt [c]))), z6]) g (upS s k (x.ls f past)) = g (ansD (f.hearL x c).1) (upS s k ((f.hearL x c).2.ls f (past ++ [x.row c]))) := by
      intro g
      simp only [seq, methL, List.getElem?_cons_succ, List.getElem?_cons_zero, lisK_up hk, consA, varE, varM, nilE, Sim.ret, List.length_cons, List.length_nil, if_true, hh]
    rw [enumF, forF]
    rcases hr : (f.hearL x c).1 with _ | w
    · obtain ⟨y4, y5, y6, x', past', e⟩ := ih acc (some (.d (.int i))) (some (.d (.str (txt [c])))) (some (.d .none)) (by omega)
      refine ⟨y4, y5, y6, x', past', ?_⟩
      walk_at "sem"
      rw [step, hr]
      simp only [ansD]
      walk_at "sem"
      rw [e]
      simp only [Fm.lisL, hr, List.nil_append]
    · obtain ⟨y4, y5, y6, x', past', e⟩ := ih (acc ++ [(i, w)]) (some (.d (.int i))) (some (.d (.str (txt [c])))) (some (.d (ansD (some w)))) (by simp)
      refine ⟨y4, y5, y6, x', past', ?_⟩
      walk_at "sem"
      rw [step, hr]
      rcases w with _ | w
      · simp only [ansD]
        walk_at "sem"
        rw [show eqD (.str "fault") (.str "word") = some (.bool false) from rfl]
        walk_at "sem"
        rw [ite_lt_big (by omega)]
        walk_at "sem"
        rw [show acc.map hrow ++ [PyData.tuple [.int i, .none]] = (acc ++ [(i, none)]).map hrow by simp [hrow, optD]]
        simp only [ansD] at e
        rw [e]
        simp only [Fm.lisL, hr, List.append_assoc]
      · simp only [ansD]
        walk_at "sem"
        rw [show eqD (.str "word") (.str "word") = some (.bool true) from rfl]
        walk_at "sem"
        rw [ite_lt_big (by omega)]
        walk_at "sem"
        rw [show acc.map hrow ++ [PyData.tuple [.int i, .int w]] = (acc ++ [(i, some w)]).map hrow by simp [hrow, optD]]
        simp only [ansD] at e
        rw [e]
        simp only [Fm.lisL, hr, List.append_assoc]
theorem heard_of_eq {f : Fm} (hf : f.Ok) {l : List Nat} (hb : Bin l) (hl : l.length ≤ 800000) : F_heard_of [.d f.d, .d (.str (txt l))] = Sim.ret (.list ((f.heard l).map hrow)) := by
  funext s
  have hk : s.ls.length < (⟨s.n, s.ls ++ [newLS f.d]⟩ : Sta).ls.length := by simp
  have h0 : upS ⟨s.n, s.ls ++ [newLS f.d]⟩ s.ls.length (Li.ls f ⟨none, [], []⟩ []) = ⟨s.n, s.ls ++ [newLS f.d]⟩ := upS_self (by
    show (s.ls ++ [newLS f.d])[s.ls.length]? = _
    simp [newLS, Li.ls, optD])
  obtain ⟨y4, y5, y6, x', past', e⟩ := heard_loop hf hk (some (.d f.d)) (some (.d (.str (txt l)))) l 0 ⟨none, [], []⟩ [] [] none none none hb (by simp; omega) (by simp; omega) (by simp; omega) (by simp; omega)
  rw [h0] at e
  show seq (g_heard_of [some (.d f.d), some (.d (.str (txt l))), none, none, none, none, none]) finM s = _
  have key : (thenS (setN 3 (lstN (nilE))) (thenS (forS (rngE enumSM (consE (varE 1) (nilE))) (bndT [4, 5]) (thenS (setS 6 (methL 2 2 F_L_hear (consA (varE 5) (nilE)))) (ifS (testE (notNE (varE 6))) (appS 3 (tupE (consE (varE 4) (consE (ifE (testE (opE eqD (opE ixD (varE 6) (cE (.int 0))) (cE (.str "word")))) (opE ixD (varE 6) (cE (.int 1))) (cE .none)) (nilE))))) (nextS)))) (freezeS 3 (retS (varE 3)))))
      [some (.d f.d), some (.d (.str (txt l))), some (.lis s.ls.length), none, none, none, none] ⟨s.n, s.ls ++ [newLS f.d]⟩ = .ok (.ret (.list ((f.heard l).map hrow))) (upS ⟨s.n, s.ls ++ [newLS f.d]⟩ s.ls.length (x'.ls f past')) := by
    walk_at "sem"
    rw [enumSM_txt (by omega)]
    walk_at "sem"
    have e2 : seq (forF (bndT [4, 5]) (thenS (setS 6 (methL 2 2 F_L_hear (consA (varE 5) (nilE)))) (ifS (testE (notNE (varE 6))) (appS 3 (tupE (consE (varE 4) (consE (ifE (testE (opE eqD (opE ixD (varE 6) (cE (.int 0))) (cE (.str "word")))) (opE ixD (varE 6) (cE (.int 1))) (cE .none)) (nilE))))) (nextS))) (enumF 0 l)
      [some (.d f.d), some (.d (.str (txt l))), some (.lis s.ls.length), some (.own []), none, none, none]) (thenM (freezeS 3 (retS (varE 3)))) ⟨s.n, s.ls ++ [newLS f.d]⟩ = .ok (.ret (.list ((f.heard l).map hrow))) (upS ⟨s.n, s.ls ++ [newLS f.d]⟩ s.ls.length (x'.ls f past')) := by
      simp only [List.map_nil] at e
      simp only [seq, e]
      rw [thenM_n]
      walk_at "sem"
      rfl
    exact e2
  unfold g_heard_of newS
  simp only [varE, List.getElem?_cons_zero, varM, seq_r]
  unfold makeM
  rw [need_form_eq hf, seq_r, if_pos (show noList f.d = true from rfl)]
  simp only [seq, newL, List.set_cons_succ, List.set_cons_zero, key, isRet, if_true, finM, Sim.ret, upS]
  congr 1
  obtain ⟨n, ls⟩ := s
  simp

theorem heard_eq {f : Fm} (hf : f.Ok) {l : List Nat} (hb : Bin l) (h1 : 1 ≤ l.length) (hl : l.length ≤ 200) : F_heard [.d f.d, .d (.str (txt l))] = Sim.ret (.list ((f.heard l).map hrow)) := by
  show seq (g_heard [some (.d f.d), some (.d (.str (txt l)))]) finM = _
  unfold g_heard
  walk_at "sem"
  rw [need_form_eq hf]
  walk_at "sem"
  rw [need_samples_eq h1 hl hb]
  walk_at "sem"
  rw [heard_of_eq hf hb (by omega)]
  walk_at "sem"

/-! ### what is heard, frame by frame -/
def Fm.endT (f : Fm) : Nat := (f.cnt - 1) * f.p + f.p / 2
def Fm.mids (f : Fm) (l : List Nat) : List Nat := (List.range f.cnt).map fun k => l.getD (k * f.p + f.p / 2) 0 - 48
theorem lis_td (f : Fm) : ∀ (l : List Nat) (i : Nat) (t : Option Nat) (bs : List Nat) (td td' : List (Option Nat)), f.lisL i ⟨t, bs, td⟩ l = f.lisL i ⟨t, bs, td'⟩ l
  | [], _, _, _, _, _ => rfl
  | c :: l, i, t, bs, td, td' => by
    simp only [Fm.lisL, Fm.hearL]
    by_cases h : t = none ∧ c = 49
    · simp only [if_pos h]
      rw [lis_td f l (i + 1) t bs td td']
    · simp only [if_neg h]
      generalize (if t.getD 0 % f.p = f.p / 2 then bs ++ [c - 48] else bs) = B
      by_cases h2 : B.length < f.cnt
      · simp only [if_pos h2]
        rw [lis_td f l (i + 1) (some (t.getD 0 + 1)) B td td']
      · simp only [if_neg h2]
        rw [lis_td f l (i + 1) none [] (td ++ [f.tell B]) (td' ++ [f.tell B])]
def bitsU (f : Fm) (L : List Nat) (t : Nat) : List Nat := ((List.range t).filter fun j => decide (j % f.p = f.p / 2)).map fun j => L.getD j 0 - 48
theorem bitsU_succ (f : Fm) (L : List Nat) (t : Nat) : bitsU f L (t + 1) = if t % f.p = f.p / 2 then bitsU f L t ++ [L.getD t 0 - 48] else bitsU f L t := by
  unfold bitsU
  rw [List.range_succ, List.filter_append, List.map_append]
  by_cases h : t % f.p = f.p / 2
  · rw [if_pos h, List.filter_cons_of_pos (by simpa using h)]; rfl
  · rw [if_neg h, List.filter_cons_of_neg (by simpa using h)]; simp
theorem bitsU_len {f : Fm} (hf : f.Ok) (L : List Nat) : ∀ t, (bitsU f L t).length = (t + f.p - 1 - f.p / 2) / f.p
  | 0 => by
    have h1 := hf.p1; have h2 := hf.p2
    rw [Nat.div_eq_of_lt (by omega)]; rfl
  | t + 1 => by
    rw [bitsU_succ]
    have ih := bitsU_len hf L t
    have h1 := hf.p1; have h2 := hf.p2
    by_cases h : t % f.p = f.p / 2
    · rw [if_pos h, List.length_append, ih]
      simp only [List.length_cons, List.length_nil]
      generalize f.p = p at *
      match p, h1, h2 with
      | 1, _, _ => omega
      | 2, _, _ => omega
      | 3, _, _ => omega
      | 4, _, _ => omega
      | 5, _, _ => omega
      | 6, _, _ => omega
    · rw [if_neg h, ih]
      generalize f.p = p at *
      match p, h1, h2 with
      | 1, _, _ => omega
      | 2, _, _ => omega
      | 3, _, _ => omega
      | 4, _, _ => omega
      | 5, _, _ => omega
      | 6, _, _ => omega
theorem cnt_iff {f : Fm} (hf : f.Ok) (L : List Nat) (t : Nat) : (bitsU f L (t + 1)).length < f.cnt ↔ t < f.endT := by
  rw [bitsU_len hf, Nat.div_lt_iff_lt_mul hf.p1]
  have hc := Fm.cnt_le hf
  have h1 := hf.p1
  unfold Fm.endT
  have e : f.cnt * f.p = (f.cnt - 1) * f.p + f.p := by rw [← Nat.succ_mul]; congr 1; omega
  rw [e]
  omega
theorem bitsU_full {f : Fm} (hf : f.Ok) (L : List Nat) : bitsU f L (f.endT + 1) = f.mids L := by
  have h1 := hf.p1
  have hc := Fm.cnt_le hf
  have key : ∀ n, (List.range (n * f.p)).filter (fun j => decide (j % f.p = f.p / 2)) = (List.range n).map fun k => k * f.p + f.p / 2 := by
    intro n
    induction n with
    | zero => simp
    | succ n ih =>
      rw [Nat.succ_mul, List.range_add, List.filter_append, ih, List.range_succ, List.map_append]
      congr 1
      have e : ∀ j, j < f.p → (n * f.p + j) % f.p = j := fun j hj => by rw [Nat.mul_comm, Nat.mul_add_mod]; exact Nat.mod_eq_of_lt hj
      rw [List.filter_map]
      have e2 : (List.range f.p).filter ((fun j => decide (j % f.p = f.p / 2)) ∘ fun x => n * f.p + x) = (List.range f.p).filter (fun j => decide (j = f.p / 2)) := List.filter_congr fun j hj => by
        simp only [Function.comp]
        rw [e j (List.mem_range.mp hj)]
      rw [e2]
      have h2 := hf.p2
      generalize f.p = p at *
      match p, h1, h2 with
      | 1, _, _ => rfl
      | 2, _, _ => rfl
      | 3, _, _ => rfl
      | 4, _, _ => rfl
      | 5, _, _ => rfl
      | 6, _, _ => rfl
  unfold bitsU Fm.mids Fm.endT
  have hlast : (List.range ((f.cnt - 1) * f.p + f.p / 2 + 1)).filter (fun j => decide (j % f.p = f.p / 2)) = (List.range f.cnt).map fun k => k * f.p + f.p / 2 := by
    rw [Nat.add_assoc, List.range_add, List.filter_append, key]
    have e0 : List.range f.cnt = List.range (f.cnt - 1) ++ [f.cnt - 1] := by rw [← List.range_succ]; congr 1; omega
    rw [e0, List.map_append]
    congr 1
    have e : ∀ j, j < f.p → ((f.cnt - 1) * f.p + j) % f.p = j := fun j hj => by rw [Nat.mul_comm, Nat.mul_add_mod]; exact Nat.mod_eq_of_lt hj
    rw [List.filter_map]
    have hp2 : f.p / 2 + 1 ≤ f.p := by omega
    have e2 : (List.range (f.p / 2 + 1)).filter ((fun j => decide (j % f.p = f.p / 2)) ∘ fun x => (f.cnt - 1) * f.p + x) = (List.range (f.p / 2 + 1)).filter (fun j => decide (j = f.p / 2)) := List.filter_congr fun j hj => by
      simp only [Function.comp]
      rw [e j (by have := List.mem_range.mp hj; omega)]
    rw [e2]
    have h2 := hf.p2
    generalize f.p = p at *
    match p, h1, h2 with
    | 1, _, _ => rfl
    | 2, _, _ => rfl
    | 3, _, _ => rfl
    | 4, _, _ => rfl
    | 5, _, _ => rfl
    | 6, _, _ => rfl
  rw [hlast, List.map_map]
  rfl
/-- within a frame -/
theorem lis_in {f : Fm} (hf : f.Ok) (L : List Nat) (i : Nat) : ∀ (m t : Nat) (x : Option Nat), t + m = f.endT + 1 → 1 ≤ m → x.getD 0 = t → t ≤ L.length → (x = none → L.head? = some 48) →
    f.lisL (i + t) ⟨x, bitsU f L t, []⟩ (L.drop t) = if f.endT < L.length then (i + f.endT, f.tell (f.mids L)) :: f.lisL (i + f.endT + 1) ⟨none, [], []⟩ (L.drop (f.endT + 1)) else []
  | 0, t, x, h, h1, _, _, _ => absurd h1 (by decide)
  | m + 1, t, x, h, h1, hx, hl, hs => by
    by_cases hd : t < L.length
    · rw [List.drop_eq_getElem_cons hd]
      have hne : ¬ (x = none ∧ L[t] = 49) := by
        rintro ⟨rfl, e⟩
        have ht : t = 0 := hx.symm
        subst ht
        have := hs rfl
        rw [List.head?_eq_getElem?, List.getElem?_eq_getElem hd] at this
        have := Option.some.inj this
        omega
      simp only [Fm.lisL, Fm.hearL, if_neg hne, hx]
      have eb : (if t % f.p = f.p / 2 then bitsU f L t ++ [L[t] - 48] else bitsU f L t) = bitsU f L (t + 1) := by
        rw [bitsU_succ]
        have : L.getD t 0 = L[t] := by rw [List.getD_eq_getElem?_getD, List.getElem?_eq_getElem hd]; rfl
        rw [this]
      rw [eb]
      by_cases he : t < f.endT
      · rw [if_pos ((cnt_iff hf L t).mpr he)]
        simp only [List.nil_append]
        have ih := lis_in hf L i m (t + 1) (some (t + 1)) (by omega) (by omega) rfl (by omega) (fun z => by cases z)
        rw [show i + t + 1 = i + (t + 1) by omega]
        exact ih
      · have hte : t = f.endT := by omega
        rw [if_neg (fun z => he ((cnt_iff hf L t).mp z))]
        subst hte
        rw [if_pos hd, bitsU_full hf, lis_td f _ _ _ _ _ []]
        rfl
    · rw [List.drop_eq_nil_of_le (by omega), if_neg (by omega)]
      rfl
theorem lis_frame {f : Fm} (hf : f.Ok) (l : List Nat) (i : Nat) (td : List (Option Nat)) : f.lisL i ⟨none, [], td⟩ (48 :: l) = if f.endT < (48 :: l).length then (i + f.endT, f.tell (f.mids (48 :: l))) :: f.lisL (i + f.endT + 1) ⟨none, [], []⟩ ((48 :: l).drop (f.endT + 1)) else [] := by
  have h := lis_in hf (48 :: l) i (f.endT + 1) 0 none (by omega) (by omega) rfl (by omega) (fun _ => rfl)
  rw [lis_td f _ i none [] td []]
  exact h
theorem lis_one (f : Fm) (l : List Nat) (i : Nat) (td : List (Option Nat)) : f.lisL i ⟨none, [], td⟩ (49 :: l) = f.lisL (i + 1) ⟨none, [], []⟩ l := by
  have e : f.hearL ⟨none, [], td⟩ 49 = (none, ⟨none, [], td⟩) := by unfold Fm.hearL; rw [if_pos ⟨rfl, rfl⟩]
  rw [Fm.lisL, e]
  exact lis_td f l (i + 1) none [] td []
theorem lis_ones (f : Fm) (l : List Nat) : ∀ (k i : Nat) (td : List (Option Nat)), f.lisL i ⟨none, [], td⟩ (List.replicate k 49 ++ l) = f.lisL (i + k) ⟨none, [], []⟩ l
  | 0, i, td => lis_td f l i none [] td []
  | k + 1, i, td => by
    rw [List.replicate_succ, List.cons_append, lis_one, lis_ones f l k (i + 1) [], show i + 1 + k = i + (k + 1) by omega]
/-! ### of what is sent -/
theorem Fm.cnt_row (f : Fm) (w : Nat) : (f.row w).length = f.cnt := f.row_len w
theorem Fm.wordB_row {f : Fm} {w : Nat} (hw : w < 2 ^ f.b) : f.wordB (((f.row w).drop 1).take f.b) = w := by
  have e : ((f.row w).drop 1).take f.b = if f.lo then bitsL f.b w else (bitsL f.b w).reverse := by
    unfold Fm.row
    simp only [List.append_assoc, List.singleton_append, List.cons_append, List.nil_append, List.drop_succ_cons, List.drop_zero]
    exact List.take_left' (by split <;> simp [bits_len])
  rw [e]
  unfold Fm.wordB
  cases f.lo
  · simp [val_bits, Nat.mod_eq_of_lt hw]
  · simp [val_bits, Nat.mod_eq_of_lt hw]
theorem Fm.tell_row {f : Fm} {w : Nat} (hw : w < 2 ^ f.b) : f.tell (f.row w) = some w := by
  unfold Fm.tell
  obtain ⟨bits, hl, e⟩ := f.row_cut w
  have e1 : (f.row w).headD 1 = 0 := by rw [e]; rfl
  have e2 : ((f.row w).drop 1).take f.b = bits := by rw [e, List.drop_succ_cons, List.drop_zero, List.take_left' hl]
  have e3 : (f.row w).drop (1 + f.b) = f.parL bits ++ List.replicate f.s 1 := by
    rw [e, Nat.add_comm, List.drop_succ_cons, List.drop_left' hl]
  have hwb := Fm.wordB_row hw
  rw [e2] at hwb ⊢
  rw [if_pos ⟨e1, e3⟩, hwb]
theorem Fm.tell_some {f : Fm} (hf : f.Ok) {bs : List Nat} (hl : bs.length = f.cnt) (hb : ∀ x ∈ bs, x ≤ 1) {w : Nat} (h : f.tell bs = some w) : w < 2 ^ f.b ∧ f.row w = bs := by
  unfold Fm.tell at h
  split at h
  · rename_i hh
    have hw := (Option.some.inj h).symm
    have hc := Fm.cnt_le hf
    have hcb : f.b + 1 ≤ f.cnt := by unfold Fm.cnt; omega
    have hlen : ((bs.drop 1).take f.b).length = f.b := by rw [List.length_take, List.length_drop]; omega
    have hle : ∀ x ∈ (bs.drop 1).take f.b, x ≤ 1 := fun x hx => hb x (List.mem_of_mem_drop (List.mem_of_mem_take hx))
    refine ⟨by rw [hw]; exact Fm.wordB_lt hlen hle, ?_⟩
    rw [hw, Fm.row_wordB hlen hle, List.append_assoc, ← hh.2]
    cases bs with
    | nil => simp at hl; omega
    | cons a bs =>
      have ha : a = 0 := hh.1
      subst ha
      rw [List.drop_succ_cons, List.drop_zero, Nat.add_comm 1 f.b, List.drop_succ_cons, List.append_assoc, List.take_append_drop]
      rfl
  · cases h
theorem Fm.fr_get (f : Fm) (hf : f.Ok) {r : List Nat} (t : List Nat) {k j : Nat} (hk : k < r.length) (hj : j < f.p) : ((r.flatMap fun x => List.replicate f.p (48 + x)) ++ t).getD (k * f.p + j) 0 = 48 + r[k] := by
  induction r generalizing k with
  | nil => simp at hk
  | cons a r ih =>
    rw [List.flatMap_cons, List.append_assoc]
    cases k with
    | zero =>
      rw [List.getD_eq_getElem?_getD, List.getElem?_append_left (by simp; omega), List.getElem?_replicate, if_pos (by omega)]
      rfl
    | succ k =>
      have := ih (k := k) (by simpa using hk)
      rw [List.getD_eq_getElem?_getD, List.getElem?_append_right (by rw [List.length_replicate, Nat.succ_mul]; omega), List.length_replicate, show (k + 1) * f.p + j - f.p = k * f.p + j by rw [Nat.succ_mul]; omega, ← List.getD_eq_getElem?_getD, this]
      rfl
theorem Fm.mids_fr {f : Fm} (hf : f.Ok) (w : Nat) (t : List Nat) : f.mids (f.fr w ++ t) = f.row w := by
  have hl := f.cnt_row w
  have h1 := hf.p1
  unfold Fm.mids Fm.fr
  apply List.ext_getElem?
  intro k
  by_cases hk : k < f.cnt
  · rw [List.getElem?_map, List.getElem?_range hk]
    simp only [Option.map_some]
    rw [Fm.fr_get f hf t (by omega) (by omega), List.getElem?_eq_getElem (by omega)]
    simp
  · rw [List.getElem?_eq_none (by simp; omega), List.getElem?_eq_none (by omega)]
theorem Fm.end_lt {f : Fm} (hf : f.Ok) : f.endT < f.long := by
  have h1 := hf.p1
  have hc := Fm.cnt_le hf
  have e : f.long = (f.cnt - 1) * f.p + f.p := by
    show f.p * f.cnt = _
    rw [Nat.mul_comm, ← Nat.succ_mul]; congr 1; omega
  unfold Fm.endT
  rw [e]; omega
/-- behind the middle of the last stop a frame is rest -/
theorem Fm.fr_drop {f : Fm} (hf : f.Ok) (w : Nat) : (f.fr w).drop (f.endT + 1) = List.replicate (f.long - (f.endT + 1)) 49 := by
  have h1 := hf.p1
  have hs := hf.s1
  have hc := Fm.cnt_le hf
  have hend := Fm.end_lt hf
  have hlen : (f.fr w).length = f.long := f.fr_len w
  apply List.ext_getElem?
  intro j
  rw [List.getElem?_drop]
  by_cases hj : f.endT + 1 + j < f.long
  · rw [List.getElem?_replicate, if_pos (by omega), List.getElem?_eq_getElem (by omega)]
    congr 1
    have e : f.endT + 1 + j = (f.cnt - 1) * f.p + (f.p / 2 + 1 + j) := by unfold Fm.endT; omega
    have hlt : f.p / 2 + 1 + j < f.p := by
      have : f.long = (f.cnt - 1) * f.p + f.p := by
        show f.p * f.cnt = _
        rw [Nat.mul_comm, ← Nat.succ_mul]; congr 1; omega
      omega
    have hrl := f.cnt_row w
    have hg := Fm.fr_get f hf (r := f.row w) [] (k := f.cnt - 1) (j := f.p / 2 + 1 + j) (by omega) hlt
    rw [List.append_nil, ← e] at hg
    have hg' : (f.fr w).getD (f.endT + 1 + j) 0 = 48 + (f.row w)[f.cnt - 1]'(by omega) := hg
    rw [List.getD_eq_getElem?_getD, List.getElem?_eq_getElem (by omega)] at hg'
    simp only [Option.getD_some] at hg'
    rw [hg']
    have hlast : (f.row w)[f.cnt - 1]'(by omega) = 1 := by
      obtain ⟨bits, hl, er⟩ := f.row_cut w
      have e3 : f.row w = (0 :: (bits ++ f.parL bits)) ++ List.replicate f.s 1 := by rw [er]; simp
      have hl3 : (0 :: (bits ++ f.parL bits)).length = f.cnt - f.s := by
        have := congrArg List.length e3
        rw [List.length_append, List.length_replicate, hrl] at this
        omega
      have : (f.row w)[f.cnt - 1]? = some 1 := by
        rw [e3, List.getElem?_append_right (by omega), List.getElem?_replicate, if_pos (by have := congrArg List.length e3; rw [List.length_append, List.length_replicate, hrl] at this; omega)]
      rw [List.getElem?_eq_getElem (by omega)] at this
      exact Option.some.inj this
    rw [hlast]
  · rw [List.getElem?_eq_none (by omega), List.getElem?_eq_none (by rw [List.length_replicate]; omega)]
def Fm.tickS (f : Fm) : Nat → List (Nat × Nat) → List (Nat × Option Nat)
  | _, [] => []
  | i, r :: rs => (i + r.1 + f.endT, some r.2) :: f.tickS (i + r.1 + f.long) rs
theorem lis_rest (f : Fm) (k i : Nat) (td : List (Option Nat)) : f.lisL i ⟨none, [], td⟩ (List.replicate k 49) = [] := by
  have := lis_ones f [] k i td
  rw [List.append_nil] at this
  rw [this]; rfl
theorem lis_sent {f : Fm} (hf : f.Ok) (rest : Nat) : ∀ (rs : List (Nat × Nat)) (i : Nat), (∀ r ∈ rs, r.2 < 2 ^ f.b) → f.lisL i ⟨none, [], []⟩ (f.sentL rs rest) = f.tickS i rs
  | [], i, _ => by
    have : f.sentL [] rest = List.replicate rest 49 := by simp [Fm.sentL]
    rw [this, lis_rest]; rfl
  | r :: rs, i, h => by
    rw [sentL_cons, lis_ones]
    have hw := h r List.mem_cons_self
    obtain ⟨t, ht⟩ := Fm.fr_head f hf r.2
    have hend := Fm.end_lt hf
    have hlen : (f.fr r.2).length = f.long := f.fr_len r.2
    have e : f.fr r.2 ++ f.sentL rs rest = 48 :: (t ++ f.sentL rs rest) := by rw [ht]; rfl
    rw [e, lis_frame hf, ← e, if_pos (by rw [List.length_append, hlen]; omega), Fm.mids_fr hf, Fm.tell_row hw]
    rw [List.drop_append_of_le_length (by omega), Fm.fr_drop hf, lis_ones, show i + r.1 + f.endT + 1 + (f.long - (f.endT + 1)) = i + r.1 + f.long by omega, lis_sent hf rest rs (i + r.1 + f.long) fun q hq => h q (List.mem_cons_of_mem _ hq)]
    rfl

/-! ### packets -/
inductive Ly where
  | fix (n : Nat)
  | len
  | mark (m : Nat)
inductive Ck where
  | no
  | sum
  | xor
def Ly.d : Ly → D
  | .fix n => .tuple [.str "fixed", .int n]
  | .len => .tuple [.str "length"]
  | .mark m => .tuple [.str "mark", .int m]
def Ck.d : Ck → D
  | .no => .str "none"
  | .sum => .str "sum"
  | .xor => .str "xor"
def wD (ws : List Nat) : D := .tuple (ws.map intD')
def pkD (ps : List (List Nat)) : D := .list (ps.map wD)
def chkF (k : Nat) (c : Ck) (t w : Nat) : Nat := match c with
  | .sum => (t + w) % 2 ^ k
  | _ => t ^^^ w
def chk (k : Nat) (c : Ck) (p : List Nat) : Nat := p.foldl (chkF k c) 0
def chkL (k : Nat) (c : Ck) (p : List Nat) : List Nat := match c with
  | .no => []
  | c => [chk k c p]
def full (k : Nat) (c : Ck) (p : List Nat) : List Nat := p ++ chkL k c p
def Ly.enc : Ly → List Nat → List Nat
  | .fix _, q => q
  | .len, q => q.length :: q
  | .mark m, q => q ++ [m]
def Ly.fit : Ly → List Nat → Prop
  | .fix n, q => q.length = n
  | .len, _ => True
  | .mark m, q => m ∉ q
instance (L : Ly) (q : List Nat) : Decidable (L.fit q) := by cases L <;> unfold Ly.fit <;> infer_instance
def Ly.first : Ly → List Nat → Option (List Nat × List Nat)
  | .fix n, ws => if ws.length < n then none else some (ws.take n, ws.drop n)
  | .len, [] => none
  | .len, w :: r => if r.length < w then none else some (r.take w, r.drop w)
  | .mark m, ws => if m ∈ ws then some (ws.take (ws.idxOf m), ws.drop (ws.idxOf m + 1)) else none
def chked (k : Nat) (c : Ck) (q : List Nat) : Option (List Nat) := match c with
  | .no => if q = [] then none else some q
  | c => if q.length < 2 then none else if chk k c q.dropLast = q.getLastD 0 then some q.dropLast else none
def partsL (k : Nat) (L : Ly) (c : Ck) : Nat → List Nat → Option (List (List Nat))
  | _, [] => some []
  | 0, _ :: _ => none
  | n + 1, w :: ws => match L.first (w :: ws) with
    | none => none
    | some (q, r) => match chked k c q with
      | none => none
      | some p => (partsL k L c n r).map (p :: ·)
def wordsL (k : Nat) (L : Ly) (c : Ck) (ps : List (List Nat)) : List Nat := ps.flatMap fun p => L.enc (full k c p)
theorem first_enc {L : Ly} {q : List Nat} (h : L.fit q) (r : List Nat) : L.first (L.enc q ++ r) = some (q, r) := by
  cases L with
  | fix n =>
    have h : q.length = n := h
    show (if (q ++ r).length < n then none else some ((q ++ r).take n, (q ++ r).drop n)) = _
    rw [if_neg (by rw [List.length_append]; omega), List.take_left' h, List.drop_left' h]
  | len =>
    show (if (q ++ r).length < q.length then none else some ((q ++ r).take q.length, (q ++ r).drop q.length)) = _
    rw [if_neg (by rw [List.length_append]; omega), List.take_left' rfl, List.drop_left' rfl]
  | mark m =>
    have h : m ∉ q := h
    show (if m ∈ (q ++ [m]) ++ r then some (((q ++ [m]) ++ r).take (((q ++ [m]) ++ r).idxOf m), ((q ++ [m]) ++ r).drop (((q ++ [m]) ++ r).idxOf m + 1)) else none) = _
    have hi : ((q ++ [m]) ++ r).idxOf m = q.length := by
      rw [List.append_assoc, List.idxOf_append, if_neg h, List.singleton_append, List.idxOf_cons_self]; omega
    rw [if_pos (by simp), hi, List.append_assoc, List.take_left' rfl, ← List.append_assoc, List.drop_left' (by simp)]
theorem first_sound {L : Ly} {ws q r : List Nat} (h : L.first ws = some (q, r)) : L.fit q ∧ ws = L.enc q ++ r := by
  cases L with
  | fix n =>
    have h : (if ws.length < n then none else some (ws.take n, ws.drop n)) = some (q, r) := h
    split at h
    · cases h
    · cases h
      exact ⟨show (ws.take n).length = n by rw [List.length_take]; omega, (List.take_append_drop n ws).symm⟩
  | len =>
    cases ws with
    | nil => cases h
    | cons w t =>
      have h : (if t.length < w then none else some (t.take w, t.drop w)) = some (q, r) := h
      split at h
      · cases h
      · cases h
        refine ⟨trivial, ?_⟩
        show w :: t = (t.take w).length :: t.take w ++ t.drop w
        rw [List.length_take, List.cons_append, List.take_append_drop, show min w t.length = w by omega]
  | mark m =>
    have h : (if m ∈ ws then some (ws.take (ws.idxOf m), ws.drop (ws.idxOf m + 1)) else none) = some (q, r) := h
    split at h
    · rename_i hm
      cases h
      have hl : ws.idxOf m < ws.length := List.idxOf_lt_length_of_mem hm
      refine ⟨fun z => ?_, ?_⟩
      · obtain ⟨i, hi, e⟩ := List.getElem_of_mem z
        have hi2 : i < ws.idxOf m := by rw [List.length_take] at hi; omega
        rw [List.getElem_take] at e
        have := List.not_of_lt_findIdx (p := (· == m)) (xs := ws) (i := i) hi2
        simp [e] at this
      · show ws = (ws.take (ws.idxOf m) ++ [m]) ++ ws.drop (ws.idxOf m + 1)
        conv => lhs; rw [← List.take_append_drop (ws.idxOf m) ws]
        rw [List.append_assoc, List.drop_eq_getElem_cons hl, List.getElem_idxOf]
        rfl
    · cases h
theorem chked_full {k : Nat} {c : Ck} {p : List Nat} (h : p ≠ []) : chked k c (full k c p) = some p := by
  have hp : 0 < p.length := List.length_pos_iff.mpr h
  cases c with
  | no =>
    show (if p ++ [] = [] then none else some (p ++ [])) = some p
    rw [List.append_nil, if_neg h]
  | sum =>
    show (if (p ++ [chk k .sum p]).length < 2 then none else if chk k .sum (p ++ [chk k .sum p]).dropLast = (p ++ [chk k .sum p]).getLastD 0 then some (p ++ [chk k .sum p]).dropLast else none) = some p
    rw [if_neg (by simp; omega), List.dropLast_concat, List.getLastD_concat, if_pos rfl]
  | xor =>
    show (if (p ++ [chk k .xor p]).length < 2 then none else if chk k .xor (p ++ [chk k .xor p]).dropLast = (p ++ [chk k .xor p]).getLastD 0 then some (p ++ [chk k .xor p]).dropLast else none) = some p
    rw [if_neg (by simp; omega), List.dropLast_concat, List.getLastD_concat, if_pos rfl]
theorem last_app {q : List Nat} (h : ¬ q.length < 2) : q.dropLast ++ [q.getLastD 0] = q := by
  have hn : q ≠ [] := fun z => h (by rw [z]; decide)
  rw [List.getLastD_eq_getLast?, List.getLast?_eq_getLast hn]
  exact List.dropLast_concat_getLast hn
theorem chked_sound {k : Nat} {c : Ck} {q p : List Nat} (h : chked k c q = some p) : q = full k c p ∧ p ≠ [] := by
  cases c with
  | no =>
    have h : (if q = [] then none else some q) = some p := h
    split at h
    · cases h
    · cases h; exact ⟨(List.append_nil _).symm, by assumption⟩
  | sum =>
    have h : (if q.length < 2 then none else if chk k .sum q.dropLast = q.getLastD 0 then some q.dropLast else none) = some p := h
    split at h
    · cases h
    · rename_i h2
      split at h
      · rename_i e
        cases h
        refine ⟨?_, fun z => ?_⟩
        · show q = q.dropLast ++ [chk k .sum q.dropLast]
          rw [e, last_app h2]
        · have := congrArg List.length z
          rw [List.length_dropLast] at this
          simp at this; omega
      · cases h
  | xor =>
    have h : (if q.length < 2 then none else if chk k .xor q.dropLast = q.getLastD 0 then some q.dropLast else none) = some p := h
    split at h
    · cases h
    · rename_i h2
      split at h
      · rename_i e
        cases h
        refine ⟨?_, fun z => ?_⟩
        · show q = q.dropLast ++ [chk k .xor q.dropLast]
          rw [e, last_app h2]
        · have := congrArg List.length z
          rw [List.length_dropLast] at this
          simp at this; omega
      · cases h
theorem enc_ne {L : Ly} {k : Nat} {c : Ck} {p : List Nat} (h : p ≠ []) : L.enc (full k c p) ≠ [] := by
  have h2 : full k c p ≠ [] := by unfold full; simp [h]
  cases L with
  | fix n => exact h2
  | len => simp [Ly.enc]
  | mark m => simp [Ly.enc]
theorem parts_sound {k : Nat} {L : Ly} {c : Ck} : ∀ {n : Nat} {ws : List Nat} {ps : List (List Nat)}, partsL k L c n ws = some ps → (∀ p ∈ ps, p ≠ [] ∧ L.fit (full k c p)) ∧ ws = wordsL k L c ps
  | n, [], ps, h => by
    have h : some [] = some ps := by cases n <;> exact h
    cases h
    exact ⟨fun p hp => (by cases hp), rfl⟩
  | 0, _ :: _, ps, h => by cases h
  | n + 1, w :: ws, ps, h => by
    rw [partsL] at h
    cases e1 : L.first (w :: ws) with
    | none => rw [e1] at h; cases h
    | some qr =>
      obtain ⟨q, r⟩ := qr
      rw [e1] at h
      simp only at h
      cases e2 : chked k c q with
      | none => rw [e2] at h; cases h
      | some p =>
        rw [e2] at h
        simp only at h
        cases e3 : partsL k L c n r with
        | none => rw [e3] at h; cases h
        | some ps' =>
          rw [e3] at h
          cases h
          obtain ⟨f1, f2⟩ := first_sound e1
          obtain ⟨c1, c2⟩ := chked_sound e2
          obtain ⟨i1, i2⟩ := parts_sound e3
          refine ⟨fun x hx => ?_, ?_⟩
          · rcases List.mem_cons.mp hx with rfl | hx
            · exact ⟨c2, c1 ▸ f1⟩
            · exact i1 x hx
          · show w :: ws = L.enc (full k c p) ++ wordsL k L c ps'
            rw [f2, ← c1, ← i2]
theorem parts_full {k : Nat} {L : Ly} {c : Ck} : ∀ {n : Nat} {ps : List (List Nat)}, (∀ p ∈ ps, p ≠ [] ∧ L.fit (full k c p)) → ps.length ≤ n → partsL k L c n (wordsL k L c ps) = some ps
  | n, [], _, _ => by cases n <;> rfl
  | 0, _ :: _, _, h => by simp at h
  | n + 1, p :: ps, h, hl => by
    obtain ⟨h1, h2⟩ := h p List.mem_cons_self
    have e : wordsL k L c (p :: ps) = L.enc (full k c p) ++ wordsL k L c ps := rfl
    have hn : wordsL k L c (p :: ps) ≠ [] := by rw [e]; simp [enc_ne h1]
    cases ew : wordsL k L c (p :: ps) with
    | nil => exact absurd ew hn
    | cons w ws =>
      rw [partsL, ← ew, e, first_enc h2]
      simp only
      rw [chked_full h1]
      simp only
      rw [parts_full (fun x hx => h x (List.mem_cons_of_mem _ hx)) (by simpa using hl)]
      rfl
theorem first_len {L : Ly} {ws q r : List Nat} (hq : q ≠ []) (h : L.first ws = some (q, r)) : r.length < ws.length ∧ q.length ≤ ws.length := by
  obtain ⟨_, e⟩ := first_sound h
  have hp : 0 < q.length := List.length_pos_iff.mpr hq
  rw [e, List.length_append]
  cases L with
  | fix n => simp only [Ly.enc]; omega
  | len => simp only [Ly.enc, List.length_cons]; omega
  | mark m => simp only [Ly.enc, List.length_append, List.length_cons, List.length_nil]; omega

/-! ### the check's words -/
def xrL : Nat → Nat → Nat → Nat → Nat → Nat
  | 0, _, _, _, t => t
  | n + 1, a, b, w, t => xrL n (a / 2) (b / 2) (2 * w) (t + w * (if a % 2 = b % 2 then 0 else 1))
theorem xrL_0 : ∀ (n w t : Nat), xrL n 0 0 w t = t
  | 0, _, _ => rfl
  | n + 1, w, t => by show xrL n (0 / 2) (0 / 2) (2 * w) (t + w * 0) = t; exact xrL_0 n (2 * w) t
theorem xr_all : ∀ a < 64, ∀ b < 64, xrL 6 a b 1 0 = a ^^^ b := by decide +kernel
def lxL (a b : Nat) : Nat := ([1, 2, 4, 8, 16, 32].filter fun w => !decide (a / w % 2 = b / w % 2)).sum
theorem lx_all : ∀ a < 64, ∀ b < 64, lxL a b = a ^^^ b := by decide +kernel
theorem xor_lt {k a b : Nat} (ha : a < 2 ^ k) (hb : b < 2 ^ k) : a ^^^ b < 2 ^ k := Nat.xor_lt_two_pow ha hb
abbrev xoC : Sim.Env → M Bool := orT (testE (opE gtD (varE 0) (cE (.int 0)))) (testE (opE gtD (varE 1) (cE (.int 0))))
abbrev xoG : Sim.Env → M Fl := thenS (setS 2 (opE addD (varE 2) (opE mulD (varE 3) (callB intD (consE (opE neD (opE modD (varE 0) (cE (.int 2))) (opE modD (varE 1) (cE (.int 2)))) (nilE)))))) (parS [0, 1, 3] (consE (opE fdivD (varE 0) (cE (.int 2))) (consE (opE fdivD (varE 1) (cE (.int 2))) (consE (opE mulD (cE (.int 2)) (varE 3)) (nilE)))))
theorem whileF_p (gc : Sim.Env → M Bool) (gb : Sim.Env → M Fl) (k : Nat) (env : Sim.Env) : whileF gc gb (k + 1) env = seq (gc env) fun c => if c = true then seq (gb env) (loopM (whileF gc gb k)) else Sim.ret (.next env) := rfl
theorem xor_stop (fu w t : Nat) : whileF xoC xoG (fu + 1) [some (.d (.int (0 : Nat))), some (.d (.int (0 : Nat))), some (.d (.int t)), some (.d (.int w))] = Sim.ret (.next [some (.d (.int (0 : Nat))), some (.d (.int (0 : Nat))), some (.d (.int t)), some (.d (.int w))]) := by
  rw [whileF_p]
  walk_at "sem"
theorem xor_loop : ∀ (m fu a b w t : Nat), a < 2 ^ m → b < 2 ^ m → ∃ w' : Nat, whileF xoC xoG (m + fu + 1) [some (.d (.int a)), some (.d (.int b)), some (.d (.int t)), some (.d (.int w))] = Sim.ret (.next [some (.d (.int (0 : Nat))), some (.d (.int (0 : Nat))), some (.d (.int (xrL m a b w t))), some (.d (.int w'))])
  | 0, fu, a, b, w, t, ha, hb => by
    have e1 : a = 0 := by simpa using ha
    have e2 : b = 0 := by simpa using hb
    subst e1 e2
    exact ⟨w, xor_stop (0 + fu) w t⟩
  | m + 1, fu, a, b, w, t, ha, hb => by
    by_cases h0 : a = 0 ∧ b = 0
    · obtain ⟨rfl, rfl⟩ := h0
      rw [xrL_0]
      exact ⟨w, xor_stop (m + 1 + fu) w t⟩
    · have hp : 2 ^ (m + 1) = 2 * 2 ^ m := by rw [Nat.pow_succ]; omega
      obtain ⟨w', ih⟩ := xor_loop m fu (a / 2) (b / 2) (2 * w) (t + w * (if a % 2 = b % 2 then 0 else 1)) (by omega) (by omega)
      refine ⟨w', ?_⟩
      rw [show m + 1 + fu + 1 = (m + fu + 1) + 1 by omega, whileF_p]
      have hc : xoC [some (.d (.int a)), some (.d (.int b)), some (.d (.int t)), some (.d (.int w))] = Sim.ret true := by
        unfold xoC
        walk_at "sem"
        by_cases ha0 : a = 0
        · rw [decide_eq_false (show ¬ ((0 : Int) < (a : Int)) by omega), decide_eq_true (show ((0 : Int) < (b : Int)) by omega)]
          walk_at "sem"
        · rw [decide_eq_true (show ((0 : Int) < (a : Int)) by omega)]
          walk_at "sem"
      rw [hc]
      have hg : xoG [some (.d (.int a)), some (.d (.int b)), some (.d (.int t)), some (.d (.int w))] = Sim.ret (.next [some (.d (.int (a / 2 : Nat))), some (.d (.int (b / 2 : Nat))), some (.d (.int (t + w * (if a % 2 = b % 2 then 0 else 1) : Nat))), some (.d (.int (2 * w : Nat)))]) := by
        unfold xoG
        walk_at "sem"
        rw [modD_ii (show (0 : Int) < 2 by decide), modD_ii (show (0 : Int) < 2 by decide)]
        walk_at "sem"
        have ei : intD [.bool (!decide ((a : Int) % 2 = (b : Int) % 2))] = some (.int (if a % 2 = b % 2 then 0 else 1 : Nat)) := by
          by_cases h : a % 2 = b % 2
          · rw [decide_eq_true (show (a : Int) % 2 = (b : Int) % 2 by omega), if_pos h]; rfl
          · rw [decide_eq_false (show ¬ (a : Int) % 2 = (b : Int) % 2 by omega), if_neg h]; rfl
        rw [ei]
        walk_at "sem"
        rw [mulD_ii (.inr (by split <;> decide))]
        walk_at "sem"
        rw [fdivD_ii (show (0 : Int) < 2 ∧ (2 : Int) < 1073741824 by decide), fdivD_ii (show (0 : Int) < 2 ∧ (2 : Int) < 1073741824 by decide), mulD_ii (.inl (by decide))]
        walk_at "sem"
        rw [← Int.natCast_mul, ← Int.natCast_add]
        rfl
      rw [hg]
      exact ih
theorem xor_of_eq {k a b : Nat} (hk : k ≤ 6) (ha : a < 2 ^ k) (hb : b < 2 ^ k) : F_xor_of [.d (.int a), .d (.int b)] = Sim.ret (.int (a ^^^ b : Nat)) := by
  have hp : 2 ^ k ≤ 2 ^ 6 := Nat.pow_le_pow_right (by decide) hk
  show seq (g_xor_of [some (.d (.int a)), some (.d (.int b)), none, none]) finM = _
  obtain ⟨w', e⟩ := xor_loop 6 993 a b 1 0 (Nat.lt_of_lt_of_le ha hp) (Nat.lt_of_lt_of_le hb hp)
  rw [xr_all a (Nat.lt_of_lt_of_le ha hp) b (Nat.lt_of_lt_of_le hb hp)] at e
  have e : whileF xoC xoG 1000 [some (.d (.int a)), some (.d (.int b)), some (.d (.int 0)), some (.d (.int 1))] = _ := e
  unfold g_xor_of
  walk_at "sem"
  rw [e]
  walk_at "sem"
def Ck.isSum : Ck → Bool
  | .sum => true
  | _ => false
def Ck.isNo : Ck → Bool
  | .no => true
  | _ => false
theorem ck_sum (c : Ck) : eqD c.d (.str "sum") = some (.bool c.isSum) := by
  cases c <;> (simp only [Ck.d]; rw [eqD_ss]; exact congrArg (fun b => some (PyData.bool b)) (by decide +kernel))
theorem ck_no (c : Ck) : eqD c.d (.str "none") = some (.bool c.isNo) := by
  cases c <;> (simp only [Ck.d]; rw [eqD_ss]; exact congrArg (fun b => some (PyData.bool b)) (by decide +kernel))
theorem ck_nno (c : Ck) : neD c.d (.str "none") = some (.bool (!c.isNo)) := by
  cases c <;> (simp only [Ck.d]; rw [neD_ss]; exact congrArg (fun b => some (PyData.bool b)) (by decide +kernel))
def Ly.isFix : Ly → Bool
  | .fix _ => true
  | _ => false
def Ly.isLen : Ly → Bool
  | .len => true
  | _ => false
def Ly.isMark : Ly → Bool
  | .mark _ => true
  | _ => false
theorem chkF_lt {k : Nat} {c : Ck} {t w : Nat} (ht : t < 2 ^ k) (hw : w < 2 ^ k) : chkF k c t w < 2 ^ k := by
  cases c with
  | no => exact xor_lt ht hw
  | sum => exact Nat.mod_lt _ (Nat.two_pow_pos k)
  | xor => exact xor_lt ht hw
theorem fold_lt {k : Nat} {c : Ck} : ∀ (p : List Nat) (t : Nat), t < 2 ^ k → (∀ w ∈ p, w < 2 ^ k) → p.foldl (chkF k c) t < 2 ^ k
  | [], t, h, _ => h
  | w :: p, t, h, hp => fold_lt p _ (chkF_lt h (hp w List.mem_cons_self)) fun x hx => hp x (List.mem_cons_of_mem _ hx)
theorem chk_lt {k : Nat} {c : Ck} {p : List Nat} (h : ∀ w ∈ p, w < 2 ^ k) : chk k c p < 2 ^ k := fold_lt p 0 (Nat.two_pow_pos k) h
abbrev chG : Sim.Env → M Fl := setS 3 (ifE (testE (opE eqD (varE 2) (cE (.str "sum")))) (opE modD (opE addD (varE 3) (varE 4)) (opE addD (callF 1 F_top_of (consA (varE 0) (nilE))) (cE (.int 1)))) (callF 2 F_xor_of (consA (varE 3) (consA (varE 4) (nilE)))))
theorem chk_loop {k : Nat} (h1 : 4 ≤ k) (h2 : k ≤ 6) (c : Ck) (x : D) : ∀ (p : List Nat) (t : Nat) (z : Option SV), t < 2 ^ k → (∀ w ∈ p, w < 2 ^ k) → ∃ z', forF (bndN 4) chG (p.map intD') [some (.d (.int k)), some (.d x), some (.d c.d), some (.d (.int t)), z] = Sim.ret (.next [some (.d (.int k)), some (.d x), some (.d c.d), some (.d (.int (p.foldl (chkF k c) t : Nat))), z'])
  | [], t, z, _, _ => ⟨z, rfl⟩
  | w :: p, t, z, ht, hp => by
    have hw := hp w List.mem_cons_self
    obtain ⟨z', ih⟩ := chk_loop h1 h2 c x p (chkF k c t w) (some (.d (.int w))) (chkF_lt ht hw) fun y hy => hp y (List.mem_cons_of_mem _ hy)
    refine ⟨z', ?_⟩
    rw [List.map_cons, forF, List.foldl_cons, ← ih]
    have hg : chG [some (.d (.int k)), some (.d x), some (.d c.d), some (.d (.int t)), some (.d (.int w))] = Sim.ret (.next [some (.d (.int k)), some (.d x), some (.d c.d), some (.d (.int (chkF k c t w : Nat))), some (.d (.int w))]) := by
      unfold chG
      walk_at "sem"
      rw [ck_sum]
      walk_at "sem"
      cases c with
      | sum =>
        simp only [Ck.isSum, if_true]
        rw [top_eq h1 h2]
        walk_at "sem"
        rw [show ((2 ^ k : Nat) : Int) - 1 + 1 = ((2 ^ k : Nat) : Int) by omega, modD_ii (by have := Nat.two_pow_pos k; omega), ← Int.natCast_add, ← Int.natCast_emod]
        rfl
      | no =>
        simp only [Ck.isSum, Bool.false_eq_true, if_false]
        rw [xor_of_eq h2 ht hw]
        rfl
      | xor =>
        simp only [Ck.isSum, Bool.false_eq_true, if_false]
        rw [xor_of_eq h2 ht hw]
        rfl
    show seq (lift (some ([some (.d (.int k)), some (.d x), some (.d c.d), some (.d (.int t)), some (.d (.int w))] : Sim.Env))) _ = _
    rw [lift_s, seq_r, hg, seq_r, loopM_n]
theorem check_of_eq {k : Nat} (h1 : 4 ≤ k) (h2 : k ≤ 6) (c : Ck) {p : List Nat} (hp : ∀ w ∈ p, w < 2 ^ k) : F_check_of [.d (.int k), .d (wD p), .d c.d] = Sim.ret (wD (chkL k c p)) := by
  show seq (g_check_of [some (.d (.int k)), some (.d (wD p)), some (.d c.d), none, none]) finM = _
  obtain ⟨z', e⟩ := chk_loop h1 h2 c (wD p) p 0 none (Nat.two_pow_pos k) hp
  have e : forF (bndN 4) chG (p.map intD') [some (.d (.int k)), some (.d (.tuple (p.map intD'))), some (.d c.d), some (.d (.int 0)), none] = _ := e
  unfold g_check_of
  simp only [wD]
  walk_at "sem"
  rw [e]
  walk_at "sem"
  rw [ck_no]
  cases c <;> rfl

/-! ### parting -/
theorem eqv_pnat (a b : Nat) : PyData.eqv (.int a) (.int b) = decide (a = b) := by
  rw [PyData.eqv]
  by_cases h : a = b
  · subst h; simp
  · rw [decide_eq_false h]; exact beq_eq_false_iff_ne.mpr fun z => h (by omega)
theorem depth_pnats (A : List Nat) : PyData.depthAll (A.map intD') = 0 := by
  induction A with
  | nil => rfl
  | cons a A ih => rw [List.map_cons, PyData.depthAll, ih]; rfl
theorem eqv_pnats : ∀ A B : List Nat, PyData.eqvAll (A.map intD') (B.map intD') = decide (A = B)
  | [], [] => rfl
  | [], b :: B => by simp [PyData.eqvAll]
  | a :: A, [] => by simp [PyData.eqvAll]
  | a :: A, b :: B => by
    rw [List.map_cons, List.map_cons, PyData.eqvAll, eqv_pnats A B, show PyData.eqv (intD' a) (intD' b) = _ from eqv_pnat a b]
    by_cases h1 : a = b <;> by_cases h2 : A = B <;> simp [h1, h2]
theorem eqv_w (A B : List Nat) : PyData.eqv (wD A) (wD B) = decide (A = B) := by
  unfold wD; rw [PyData.eqv, eqv_pnats]
theorem depth_w (A : List Nat) : (wD A).depth = 1 := by unfold wD; rw [PyData.depth, depth_pnats]
theorem ne_w (A B : List Nat) : neD (wD A) (wD B) = some (.bool (!decide (A = B))) := by
  unfold neD
  rw [if_pos (by rw [depth_w]; exact Nat.le_trans (Nat.min_le_left _ _) (by decide)), eqv_w]
theorem eq_w (A B : List Nat) : eqD (wD A) (wD B) = some (.bool (decide (A = B))) := by
  unfold eqD
  rw [if_pos (by rw [depth_w]; exact Nat.le_trans (Nat.min_le_left _ _) (by decide)), eqv_w]
theorem ne_w_nil (A : List Nat) : neD (wD A) (.tuple []) = some (.bool (!decide (A = []))) := ne_w A []
theorem mem_pnats (a : Nat) (A : List Nat) : (A.map intD').any (fun y => PyData.eqv y (.int a)) = decide (a ∈ A) := by
  induction A with
  | nil => rfl
  | cons b A ih =>
    rw [List.map_cons, List.any_cons, ih, show PyData.eqv (intD' b) (.int a) = _ from eqv_pnat b a]
    by_cases h1 : b = a
    · subst h1
      rw [decide_eq_true rfl, decide_eq_true List.mem_cons_self]; rfl
    · rw [decide_eq_false h1, Bool.false_or]
      refine decide_eq_decide.mpr ⟨List.mem_cons_of_mem _, fun h => ?_⟩
      rcases List.mem_cons.mp h with h | h
      · exact absurd h.symm h1
      · exact h
theorem inB_w (a : Nat) (A : List Nat) : inB (.int a) (.tuple (A.map intD')) = some (decide (a ∈ A)) := by
  show (if min (PyData.depthAll (A.map intD')) (PyData.int a).depth ≤ 60 then some ((A.map intD').any fun y => PyData.eqv y (.int a)) else none) = _
  rw [if_pos (Nat.le_trans (Nat.min_le_right _ _) (by simp [PyData.depth])), mem_pnats]
theorem in_w (a : Nat) (A : List Nat) : inD (.int a) (.tuple (A.map intD')) = some (.bool (decide (a ∈ A))) := by rw [inD, inB_w]; rfl
theorem notin_w (a : Nat) (A : List Nat) : notInD (.int a) (.tuple (A.map intD')) = some (.bool (!decide (a ∈ A))) := by rw [notInD, inB_w]; rfl
theorem index_w {a : Nat} {A : List Nat} (hl : A.length ≤ 1000000) (h : a ∈ A) : tindexD (.tuple (A.map intD')) [.int a] = some (.int (A.idxOf a)) := by
  show (if min (PyData.depthAll (A.map intD')) (PyData.int a).depth ≤ 60 ∧ (A.map intD').length ≤ big then ((A.map intD').findIdx? fun y => PyData.eqv y (.int a)).map fun j => PyData.int (j : Int) else none) = _
  rw [if_pos ⟨Nat.le_trans (Nat.min_le_left _ _) (by rw [depth_pnats]; decide), by rw [List.length_map]; exact hl⟩, List.findIdx?_map]
  rw [show ((fun y => PyData.eqv y (.int a)) ∘ intD') = fun y => y == a from funext fun y => by
    show PyData.eqv (.int y) (.int a) = _
    rw [eqv_pnat]; rfl]
  rw [show A.findIdx? (fun y => y == a) = some (A.idxOf a) from List.findIdx?_eq_some_iff_findIdx_eq.mpr ⟨List.idxOf_lt_length_of_mem h, rfl⟩]
  rfl
def firstD : Option (List Nat × List Nat) → D
  | none => .none
  | some (q, r) => .tuple [wD q, wD r]
theorem len_w (A : List Nat) : lenD [.tuple (A.map intD')] = some (.int A.length) := by rw [lenD_t, List.length_map]
theorem first_of_eq (L : Ly) {ws : List Nat} (h0 : ws ≠ []) (hl : ws.length ≤ 1000000) : F_first_of [.d L.d, .d (wD ws)] = Sim.ret (firstD (L.first ws)) := by
  show seq (g_first_of [some (.d L.d), some (.d (.tuple (ws.map intD'))), none, none, none]) finM = _
  unfold g_first_of
  cases L with
  | mark m =>
    simp only [Ly.d]
    walk_at "sem"
    rw [notin_w]
    walk_at "sem"
    show _ = Sim.ret (firstD (if m ∈ ws then some (ws.take (ws.idxOf m), ws.drop (ws.idxOf m + 1)) else none))
    by_cases hm : m ∈ ws
    · rw [decide_eq_true hm, if_pos hm]
      walk_at "sem"
      rw [index_w hl hm]
      walk_at "sem"
      rw [show ((ws.idxOf m : Nat) : Int) + 1 = ((ws.idxOf m + 1 : Nat) : Int) by omega, cutL_to, cutL_from, ← List.map_take, ← List.map_drop]
      rfl
    · rw [decide_eq_false hm, if_neg hm]
      walk_at "sem"
      rfl
  | fix n =>
    simp only [Ly.d]
    walk_at "sem"
    rw [Int.zero_add]
    show _ = Sim.ret (firstD (if ws.length < n then none else some (ws.take n, ws.drop n)))
    by_cases hn : ws.length < n
    · rw [decide_eq_true (show (ws.length : Int) < (n : Int) by omega), if_pos hn]
      walk_at "sem"
      rfl
    · rw [decide_eq_false (show ¬ (ws.length : Int) < (n : Int) by omega), if_neg hn]
      walk_at "sem"
      rw [Int.zero_add, show (0 : Int) = ((0 : Nat) : Int) from rfl, cutL_mid, cutL_from, List.drop_zero, Nat.sub_zero, ← List.map_take, ← List.map_drop]
      rfl
  | len =>
    cases ws with
    | nil => exact absurd rfl h0
    | cons w r =>
      simp only [Ly.d, List.map_cons]
      walk_at "sem"
      simp only [intD']
      walk_at "sem"
      show _ = Sim.ret (firstD (if r.length < w then none else some (r.take w, r.drop w)))
      by_cases hn : r.length < w
      · rw [decide_eq_true (show ((r.length + 1 : Nat) : Int) < 1 + (w : Int) by omega), if_pos hn]
        walk_at "sem"
        rfl
      · rw [decide_eq_false (show ¬ ((r.length + 1 : Nat) : Int) < 1 + (w : Int) by omega), if_neg hn]
        walk_at "sem"
        rw [show (1 : Int) + (w : Int) = ((w + 1 : Nat) : Int) by omega, show (1 : Int) = ((1 : Nat) : Int) from rfl, cutL_mid, cutL_from, List.drop_succ_cons, List.drop_zero, Nat.add_sub_cancel, List.drop_succ_cons]
        show Sim.ret (PyData.tuple [PyData.tuple ((r.map intD').take w), PyData.tuple ((r.map intD').drop w)]) = _
        rw [← List.map_take, ← List.map_drop]
        rfl

theorem cutL_but {α : Type} (l : List α) (h : 1 ≤ l.length) : cutL l none (some (-1)) = l.dropLast := by
  have e : HT.sIx l.length l.length (some (-1)) = l.length - 1 := by
    show (if (-1 : Int) < 0 then (-1 + (l.length : Int)).toNat else min (Int.toNat (-1)) l.length) = l.length - 1
    rw [if_pos (by decide)]
    omega
  unfold cutL
  rw [e, HT.sIx_none, List.drop_zero, Nat.sub_zero, List.dropLast_eq_take]
theorem atI_lastQ {q : List Nat} (h : ¬ q.length < 2) : atI (q.map intD') (-1) = some (.int (q.getLastD 0)) := by
  have e := last_app h
  have hl : (q.map intD').length = q.length := List.length_map _
  have h1 : atI (q.map intD') (-1) = (q.map intD')[q.length - 1]? := by
    unfold atI ixN
    rw [hl, if_neg (by omega), if_pos (by omega)]
    rw [show (-1 + (q.length : Int)).toNat = q.length - 1 by omega]
    rfl
  rw [h1, List.getElem?_map]
  have h2 : q[q.length - 1]? = some (q.getLastD 0) := by
    rw [← List.getLast?_eq_getElem?, List.getLastD_eq_getLast?]
    cases hq : q.getLast? with
    | none =>
      have : q = [] := List.getLast?_eq_none_iff.mp hq
      rw [this] at h; simp at h
    | some v => rfl
  rw [h2]; rfl
def optW : Option (List Nat) → D
  | none => .none
  | some p => wD p
theorem checked_eq {k : Nat} (h1 : 4 ≤ k) (h2 : k ≤ 6) (c : Ck) {q : List Nat} (hq : ∀ w ∈ q, w < 2 ^ k) : F_checked [.d (.int k), .d (wD q), .d c.d] = Sim.ret (optW (chked k c q)) := by
  have main : ∀ c : Ck, c.isNo = false → chked k c q = (if q.length < 2 then none else if chk k c q.dropLast = q.getLastD 0 then some q.dropLast else none) → (∀ b : Sim.Env → M Fl, True) → eqD c.d (.str "none") = some (.bool false) → F_checked [.d (.int k), .d (wD q), .d c.d] = Sim.ret (optW (chked k c q)) := by
    intro c hn hc _ e0
    show seq (g_checked [some (.d (.int k)), some (.d (wD q)), some (.d c.d), none, none]) finM = _
    unfold g_checked
    rw [hc]
    walk_at "sem"
    rw [e0]
    walk_at "sem"
    rw [show lenD [wD q] = _ from len_w q]
    walk_at "sem"
    by_cases hl : q.length < 2
    · rw [decide_eq_true (show (q.length : Int) < 2 by omega), if_pos hl]
      walk_at "sem"
      rfl
    · rw [decide_eq_false (show ¬ (q.length : Int) < 2 by omega), if_neg hl]
      walk_at "sem"
      rw [show sliceD (wD q) none (some (-1)) = some (.tuple (cutL (q.map intD') none (some (-1)))) from rfl, cutL_but _ (by rw [List.length_map]; omega), ← List.map_dropLast]
      walk_at "sem"
      obtain ⟨z', e⟩ := chk_loop h1 h2 c (wD q) q.dropLast 0 none (Nat.two_pow_pos k) fun w hw => hq w (List.dropLast_subset _ hw)
      have e : forF (bndN 4) chG (q.dropLast.map intD') [some (.d (.int k)), some (.d (wD q)), some (.d c.d), some (.d (.int 0)), none] = _ := e
      rw [e]
      walk_at "sem"
      rw [show ixD (wD q) (.int (-1)) = atI (q.map intD') (-1) from rfl, atI_lastQ hl]
      walk_at "sem"
      show (seq (if decide ((chk k c q.dropLast : Int) = (q.getLastD 0 : Int)) = true then _ else _) _) = _
      by_cases he : chk k c q.dropLast = q.getLastD 0
      · rw [decide_eq_true (show (chk k c q.dropLast : Int) = (q.getLastD 0 : Int) by rw [he]), if_pos rfl, if_pos he]
        rw [show sliceD (wD q) none (some (-1)) = some (.tuple (cutL (q.map intD') none (some (-1)))) from rfl, cutL_but _ (by rw [List.length_map]; omega), ← List.map_dropLast]
        rfl
      · rw [decide_eq_false (show ¬ (chk k c q.dropLast : Int) = (q.getLastD 0 : Int) by omega), if_neg he]
        rfl
  cases c with
  | no =>
    show seq (g_checked [some (.d (.int k)), some (.d (wD q)), some (.d (.str "none")), none, none]) finM = Sim.ret (optW (if q = [] then none else some q))
    unfold g_checked
    walk_at "sem"
    rw [ne_w_nil]
    by_cases hn : q = []
    · rw [decide_eq_true hn, if_pos hn]; rfl
    · rw [decide_eq_false hn, if_neg hn]; rfl
  | sum => exact main .sum rfl rfl (fun _ => trivial) ks_sum_none
  | xor => exact main .xor rfl rfl (fun _ => trivial) ks_xor_none
abbrev pkC : Sim.Env → M Bool := testE (opE neD (varE 1) (tupE (nilE)))
abbrev pkG : Sim.Env → M Fl := thenS (setS 5 (callF 2 F_first_of (consA (varE 2) (consA (varE 1) (nilE))))) (thenS (ifS (testE (isNE (varE 5))) (retS (cE .none)) (nextS)) (thenS (setS 6 (callF 3 F_checked (consA (varE 0) (consA (opE ixD (varE 5) (cE (.int 0))) (consA (varE 3) (nilE)))))) (thenS (ifS (testE (isNE (varE 6))) (retS (cE .none)) (nextS)) (thenS (appS 4 (varE 6)) (setS 1 (opE ixD (varE 5) (cE (.int 1))))))))
theorem wD_none (q : List Nat) : isNoneD (wD q) = false := rfl
theorem pk_loop {k : Nat} (h1 : 4 ≤ k) (h2 : k ≤ 6) (L : Ly) (c : Ck) : ∀ (n j : Nat) (ws : List Nat) (acc : List (List Nat)) (a b : Option SV), ws.length ≤ n → n ≤ 1000 → acc.length + n ≤ 1000 → (∀ w ∈ ws, w < 2 ^ k) →
    (∀ ps, partsL k L c n ws = some ps → ∃ a' b', whileF pkC pkG (n + 1 + j) [some (.d (.int k)), some (.d (wD ws)), some (.d L.d), some (.d c.d), some (.own (acc.map wD)), a, b] = Sim.ret (.next [some (.d (.int k)), some (.d (wD [])), some (.d L.d), some (.d c.d), some (.own ((acc ++ ps).map wD)), a', b'])) ∧
    (partsL k L c n ws = none → whileF pkC pkG (n + 1 + j) [some (.d (.int k)), some (.d (wD ws)), some (.d L.d), some (.d c.d), some (.own (acc.map wD)), a, b] = Sim.ret (.ret .none))
  | n, j, [], acc, a, b, _, _, _, _ => by
    have hp : partsL k L c n [] = some [] := by cases n <;> rfl
    rw [hp]
    refine ⟨fun ps e => ?_, fun e => (by cases e)⟩
    cases e
    refine ⟨a, b, ?_⟩
    rw [show n + 1 + j = (n + j) + 1 by omega, whileF_p]
    walk_at "sem"
    rw [ne_w_nil]
    rw [decide_eq_true rfl, List.append_nil]
    rfl
  | 0, j, w :: ws, acc, a, b, h, _, _, _ => by simp at h
  | n + 1, j, w :: ws, acc, a, b, hl, hn, ha, hw => by
    rw [show n + 1 + 1 + j = (n + 1 + j) + 1 by omega, whileF_p, partsL]
    walk_at "sem"
    rw [ne_w_nil, decide_eq_false (show ¬ (w :: ws) = [] by simp)]
    walk_at "sem"
    rw [first_of_eq L (by simp) (by omega)]
    cases e1 : L.first (w :: ws) with
    | none =>
      simp only [firstD]
      walk_at "sem"
      exact ⟨fun ps e => (by cases e), fun _ => trivial⟩
    | some qr =>
      obtain ⟨q, r⟩ := qr
      obtain ⟨f1, f2⟩ := first_sound e1
      have hqw : ∀ x ∈ q, x < 2 ^ k := fun x hx => hw x (by
        rw [f2]
        refine List.mem_append_left _ ?_
        cases L with
        | fix n => exact hx
        | len => exact List.mem_cons_of_mem _ hx
        | mark m => exact List.mem_append_left _ hx)
      have hrw : ∀ x ∈ r, x < 2 ^ k := fun x hx => hw x (by rw [f2]; exact List.mem_append_right _ hx)
      simp only [firstD]
      walk_at "sem"
      rw [checked_eq h1 h2 c hqw]
      cases e2 : chked k c q with
      | none =>
        simp only [optW]
        walk_at "sem"
        exact ⟨fun ps e => (by cases e), fun _ => trivial⟩
      | some p =>
        obtain ⟨P, hP⟩ : ∃ P, wD p = .tuple P := ⟨_, rfl⟩
        simp only [optW]
        rw [hP]
        walk_at "sem"
        rw [← hP]
        rw [if_pos (show acc.length < big from (show acc.length < 1000000 by omega))]
        walk_at "sem"
        have hq0 : q ≠ [] := fun z => by
          obtain ⟨c1, c2⟩ := chked_sound e2
          rw [z] at c1
          have := congrArg List.length c1
          unfold full at this
          rw [List.length_append] at this
          have := List.length_pos_iff.mpr c2
          simp at *
          omega
        have hr := (first_len hq0 e1).1
        obtain ⟨i1, i2⟩ := pk_loop h1 h2 L c n j r (acc ++ [p]) (some (.d (.tuple [wD q, wD r]))) (some (.d (wD p))) (by simp at hl hr; omega) (by omega) (by simp; omega) hrw
        rw [show (acc ++ [p]).map wD = acc.map wD ++ [wD p] by simp] at i1 i2
        refine ⟨fun ps e => ?_, fun e => ?_⟩
        · cases e3 : partsL k L c n r with
          | none => rw [e3] at e; cases e
          | some ps' =>
            rw [e3] at e
            cases e
            obtain ⟨a', b', i3⟩ := i1 ps' e3
            refine ⟨a', b', ?_⟩
            rw [i3, List.append_assoc]
            rfl
        · cases e3 : partsL k L c n r with
          | none => rw [i2 e3]
          | some ps' => rw [e3] at e; cases e
def optP : Option (List (List Nat)) → D
  | none => .none
  | some ps => pkD ps
theorem packets_in_eq {k : Nat} (h1 : 4 ≤ k) (h2 : k ≤ 6) (L : Ly) (c : Ck) {ws : List Nat} (hl : ws.length ≤ 900) (hw : ∀ w ∈ ws, w < 2 ^ k) : F_packets_in [.d (.int k), .d (wD ws), .d L.d, .d c.d] = Sim.ret (optP (partsL k L c 900 ws)) := by
  obtain ⟨i1, i2⟩ := pk_loop h1 h2 L c 900 99 ws [] none none hl (by decide) (by decide) hw
  show seq (g_packets_in [some (.d (.int k)), some (.d (wD ws)), some (.d L.d), some (.d c.d), none, none, none]) finM = _
  unfold g_packets_in
  walk_at "sem"
  cases e : partsL k L c 900 ws with
  | none =>
    have i2 : whileF pkC pkG 1000 [some (.d (.int k)), some (.d (wD ws)), some (.d L.d), some (.d c.d), some (.own []), none, none] = _ := i2 e
    rw [i2]
    rfl
  | some ps =>
    obtain ⟨a', b', i3⟩ := i1 ps e
    have i3 : whileF pkC pkG 1000 [some (.d (.int k)), some (.d (wD ws)), some (.d L.d), some (.d c.d), some (.own []), none, none] = _ := i3
    rw [i3]
    rfl
def Ly.Ok (k : Nat) : Ly → Prop
  | .fix n => 1 ≤ n ∧ n ≤ 9
  | .len => True
  | .mark m => m < 2 ^ k
theorem is_layer_eq {k : Nat} (h1 : 4 ≤ k) (h2 : k ≤ 6) {L : Ly} (h : L.Ok k) : F_is_layer [.d (.int k), .d L.d] = Sim.ret (.bool true) := by
  show seq (g_is_layer [some (.d (.int k)), some (.d L.d)]) finM = _
  unfold g_is_layer
  cases L with
  | fix n =>
    have h : 1 ≤ n ∧ n ≤ 9 := h
    simp only [Ly.d]
    rw [show (PyData.tuple [.str "fixed", .int n]) = PyData.tuple [.str "fixed", .int n] from rfl]
    walk_at "sem"
    rw [show eqD (PyData.tuple [.str "fixed", .int n]) (.tuple []) = some (.bool false) from rfl]
    walk_at "sem"
    rw [whole_eq, decide_eq_true (by omega)]
    try walk_at "sem"
  | len =>
    simp only [Ly.d]
    walk_at "sem"
    rw [show eqD (PyData.tuple [.str "length"]) (.tuple []) = some (.bool false) from rfl]
    walk_at "sem"
  | mark m =>
    have h : m < 2 ^ k := h
    simp only [Ly.d]
    walk_at "sem"
    rw [show eqD (PyData.tuple [.str "mark", .int m]) (.tuple []) = some (.bool false) from rfl]
    walk_at "sem"
    rw [top_eq h1 h2]
    walk_at "sem"
    rw [whole_eq, decide_eq_true (by omega)]
    try walk_at "sem"
theorem in_checks (c : Ck) : F_is_one_of [.d c.d, .d (.tuple [.str "none", .str "sum", .str "xor"])] = Sim.ret (.bool true) := by
  cases c <;> (unfold Ck.d; refine one_eq ?_; simp [inD, inB, PyData.eqv, PyData.depth, PyData.depthAll])
theorem all_whole {k : Nat} (h1 : 4 ≤ k) (h2 : k ≤ 6) {env : Sim.Env} {i j : Nat} (e : ∀ d, bndN j d (wipeE env [j]) = some ((wipeE env [j]).set j (some (.d d)))) {fe : Sim.Env → M D} {p : List Nat} (hp : ∀ w ∈ p, w < 2 ^ k)
    (he : ∀ w : Nat, w < 2 ^ k → fe ((wipeE env [j]).set j (some (.d (.int w)))) = Sim.ret (.bool true)) : lcF (bndN j) yesT fe (wipeE env [j]) (p.map intD') = Sim.ret ((p.map fun _ => true).map .bool) := by
  rw [lc_mapf intD' (fun w => (wipeE env [j]).set j (some (.d (.int w)))) (fun _ => .bool true) p (fun w _ => e _) (fun w hw => he w (hp w hw)), List.map_map]
  rfl
theorem all_true (p : List Nat) : allD [.list ((p.map fun _ => true).map .bool)] = some (.bool true) := by
  rw [allD_map]
  congr 2
  rw [List.all_map]
  exact List.all_eq_true.mpr fun _ _ => rfl
def PkOk (k : Nat) (ps : List (List Nat)) : Prop := (1 ≤ ps.length ∧ ps.length ≤ 10) ∧ ∀ p ∈ ps, (1 ≤ p.length ∧ p.length ≤ 40) ∧ ∀ w ∈ p, w < 2 ^ k
theorem are_packets_loop {k : Nat} (h1 : 4 ≤ k) (h2 : k ≤ 6) (x : D) : ∀ (ps : List (List Nat)) (a b : Option SV), (∀ p ∈ ps, (1 ≤ p.length ∧ p.length ≤ 40) ∧ ∀ w ∈ p, w < 2 ^ k) → ∃ a' b', forF (bndN 2) (thenS (ifS (orT (notT (testE (isiE PyData.isTuple (varE 2)))) (notT (testE (chainE leD leD (cE (.int 1)) (callB lenD (consE (varE 2) (nilE))) (cE (.int 40)))))) (retS (cE (.bool false))) (nextS)) (ifS (notT (testE (callB allD (consE (listE (lcE (itemsE (varE 2)) [3] (bndN 3) (yesT) (callF 3 F_is_whole (consA (varE 3) (consA (cE (.int 0)) (consA (callF 1 F_top_of (consA (varE 0) (nilE))) (nilE))))))) (nilE))))) (retS (cE (.bool false))) (nextS))) (ps.map wD) [some (.d (.int k)), some (.d x), a, b] = Sim.ret (.next [some (.d (.int k)), some (.d x), a', b'])
  | [], a, b, _ => ⟨a, b, rfl⟩
  | p :: ps, a, b, h => by
    obtain ⟨⟨p1, p2⟩, pw⟩ := h p List.mem_cons_self
    obtain ⟨a', b', ih⟩ := are_packets_loop h1 h2 x ps (some (.d (wD p))) b fun y hy => h y (List.mem_cons_of_mem _ hy)
    refine ⟨a', b', ?_⟩
    rw [List.map_cons, forF, ← ih]
    show seq (lift (some ([some (.d (.int k)), some (.d x), some (.d (.tuple (p.map intD'))), b] : Sim.Env))) _ = forF _ _ _ [some (.d (.int k)), some (.d x), some (.d (.tuple (p.map intD'))), b]
    rw [lift_s, seq_r]
    generalize forF (bndN 2) _ (ps.map wD) = T
    walk_at "sem"
    rw [decide_eq_true (show (1 : Int) ≤ (p.length : Int) by omega), decide_eq_true (show (p.length : Int) ≤ 40 by omega)]
    walk_at "sem"
    rw [if_pos (show p.length ≤ big from (show p.length ≤ 1000000 by omega))]
    rw [lc_mapf intD' (fun w => [some (.d (.int k)), some (.d x), some (.d (.tuple (p.map intD'))), some (.d (.int w))]) (fun _ => .bool true) p (fun w _ => rfl) (fun w hw => ?_)]
    · walk_at "sem"
      rw [show (p.map fun _ => PyData.bool true) = (p.map fun _ => true).map PyData.bool by rw [List.map_map]; rfl, all_true]
      walk_at "sem"
    · walk_at "sem"
      rw [top_eq h1 h2]
      walk_at "sem"
      rw [whole_eq, decide_eq_true (by have := pw w hw; omega)]
theorem are_packets_eq {k : Nat} (h1 : 4 ≤ k) (h2 : k ≤ 6) {ps : List (List Nat)} (h : PkOk k ps) : F_are_packets [.d (.int k), .d (pkD ps)] = Sim.ret (.bool true) := by
  obtain ⟨⟨l1, l2⟩, hp⟩ := h
  obtain ⟨a', b', e⟩ := are_packets_loop h1 h2 (pkD ps) ps none none hp
  show seq (g_are_packets [some (.d (.int k)), some (.d (pkD ps)), none, none]) finM = _
  unfold g_are_packets
  rw [show pkD ps = .list (ps.map wD) from rfl] at e ⊢
  walk_at "sem"
  rw [decide_eq_true (show (1 : Int) ≤ (ps.length : Int) by omega), decide_eq_true (show (ps.length : Int) ≤ 10 by omega)]
  walk_at "sem"
  rw [e]
  walk_at "sem"
theorem need_all_eq {k : Nat} (h1 : 4 ≤ k) (h2 : k ≤ 6) {ps : List (List Nat)} (h : PkOk k ps) {L : Ly} (hL : L.Ok k) (c : Ck) : F_need_all [.d (.int k), .d (pkD ps), .d L.d, .d c.d] = Sim.ret .none := by
  show seq (g_need_all [some (.d (.int k)), some (.d (pkD ps)), some (.d L.d), some (.d c.d)]) finM = _
  unfold g_need_all
  walk_at "sem"
  rw [whole_eq, decide_eq_true (by omega)]
  walk_at "sem"
  rw [are_packets_eq h1 h2 h]
  walk_at "sem"
  rw [is_layer_eq h1 h2 hL]
  walk_at "sem"
  rw [in_checks]
  walk_at "sem"
theorem one_packed_eq (L : Ly) {q : List Nat} (h : q.length ≤ 1000) : F_one_packed [.d L.d, .d (wD q)] = Sim.ret (wD (L.enc q)) := by
  show seq (g_one_packed [some (.d L.d), some (.d (.tuple (q.map intD')))]) finM = _
  unfold g_one_packed
  cases L with
  | fix n =>
    simp only [Ly.d]
    walk_at "sem"
    rfl
  | len =>
    simp only [Ly.d]
    walk_at "sem"
    rw [addD_tt (by simp; show 1 + q.length ≤ 1000000; omega)]
    rfl
  | mark m =>
    simp only [Ly.d]
    walk_at "sem"
    rw [addD_tt (by simp; show q.length + 1 ≤ 1000000; omega)]
    walk_at "sem"
    rw [show q.map intD' ++ [PyData.int m] = (q ++ [m]).map intD' by simp [intD']]
    rfl

/-! ### packing -/
theorem eqv_pks : ∀ A B : List (List Nat), PyData.eqvAll (A.map wD) (B.map wD) = decide (A = B)
  | [], [] => rfl
  | [], b :: B => by simp [PyData.eqvAll]
  | a :: A, [] => by simp [PyData.eqvAll]
  | a :: A, b :: B => by
    rw [List.map_cons, List.map_cons, PyData.eqvAll, eqv_pks A B, eqv_w]
    by_cases h1 : a = b <;> by_cases h2 : A = B <;> simp [h1, h2]
theorem depth_pks (A : List (List Nat)) : PyData.depthAll (A.map wD) ≤ 1 := by
  induction A with
  | nil => exact Nat.zero_le _
  | cons a A ih => rw [List.map_cons, PyData.depthAll, depth_w]; omega
theorem depth_pk (A : List (List Nat)) : (pkD A).depth ≤ 2 := by
  unfold pkD; rw [PyData.depth]; have := depth_pks A; omega
theorem eqv_pk (A B : List (List Nat)) : PyData.eqv (pkD A) (pkD B) = decide (A = B) := by
  unfold pkD; rw [PyData.eqv, eqv_pks]
theorem eq_pk (A B : List (List Nat)) : eqD (pkD A) (pkD B) = some (.bool (decide (A = B))) := by
  unfold eqD
  rw [if_pos (by have := depth_pk A; omega), eqv_pk]
theorem ne_optP (o : Option (List (List Nat))) (B : List (List Nat)) : neD (optP o) (pkD B) = some (.bool (!decide (o = some B))) := by
  cases o with
  | none =>
    unfold neD optP
    rw [if_pos (by rw [PyData.depth]; omega), decide_eq_false (by simp)]
    unfold pkD
    rw [PyData.eqv]
    all_goals simp
  | some A =>
    show neD (pkD A) (pkD B) = _
    unfold neD
    rw [if_pos (by have := depth_pk A; omega), eqv_pk]
    simp
theorem full_len (k : Nat) (c : Ck) (p : List Nat) : (full k c p).length ≤ p.length + 1 := by
  unfold full
  rw [List.length_append]
  cases c <;> simp [chkL]
theorem enc_len (L : Ly) (q : List Nat) : (L.enc q).length ≤ q.length + 1 := by
  cases L <;> simp [Ly.enc]
theorem full_lt {k : Nat} {c : Ck} {p : List Nat} (h : ∀ w ∈ p, w < 2 ^ k) : ∀ w ∈ full k c p, w < 2 ^ k := fun w hw => by
  unfold full at hw
  rcases List.mem_append.mp hw with hw | hw
  · exact h w hw
  · cases c with
    | no => cases hw
    | sum => rw [List.mem_singleton.mp hw]; exact chk_lt h
    | xor => rw [List.mem_singleton.mp hw]; exact chk_lt h
theorem enc_lt {k : Nat} {L : Ly} (hL : L.Ok k) {q : List Nat} (h : ∀ w ∈ q, w < 2 ^ k) : (∀ w ∈ L.enc q, w < 2 ^ k) ↔ (L.isLen = true → q.length < 2 ^ k) := by
  cases L with
  | fix n => exact ⟨fun _ z => (by cases z), fun _ => h⟩
  | len =>
    refine ⟨fun z _ => z _ List.mem_cons_self, fun z w hw => ?_⟩
    rcases List.mem_cons.mp hw with rfl | hw
    · exact z rfl
    · exact h w hw
  | mark m =>
    refine ⟨fun _ z => (by cases z), fun _ w hw => ?_⟩
    rcases List.mem_append.mp hw with hw | hw
    · exact h w hw
    · rw [List.mem_singleton.mp hw]; exact hL
theorem words_len (k : Nat) (L : Ly) (c : Ck) : ∀ {ps : List (List Nat)} {n : Nat}, (∀ p ∈ ps, p.length ≤ n) → (wordsL k L c ps).length ≤ ps.length * (n + 2)
  | [], n, _ => Nat.zero_le _
  | p :: ps, n, h => by
    have ih := words_len k L c (ps := ps) (n := n) fun x hx => h x (List.mem_cons_of_mem _ hx)
    have h1 := h p List.mem_cons_self
    have h2 := full_len k c p
    have h3 := enc_len L (full k c p)
    show (L.enc (full k c p) ++ wordsL k L c ps).length ≤ (ps.length + 1) * (n + 2)
    rw [List.length_append, Nat.add_mul, Nat.one_mul]
    omega
abbrev paG : Sim.Env → M Fl := setS 4 (opE addD (varE 4) (callF 2 F_one_packed (consA (varE 2) (consA (opE addD (varE 5) (callF 3 F_check_of (consA (varE 0) (consA (varE 5) (consA (varE 3) (nilE)))))) (nilE)))))
theorem pa_loop {k : Nat} (h1 : 4 ≤ k) (h2 : k ≤ 6) (L : Ly) (c : Ck) (x : D) (y : Option SV) : ∀ (ps : List (List Nat)) (acc : List Nat) (z : Option SV), (∀ p ∈ ps, p.length ≤ 40 ∧ ∀ w ∈ p, w < 2 ^ k) → acc.length + ps.length * 42 ≤ 1000 → ∃ z', forF (bndN 5) paG (ps.map wD) [some (.d (.int k)), some (.d x), some (.d L.d), some (.d c.d), some (.d (wD acc)), z, y] = Sim.ret (.next [some (.d (.int k)), some (.d x), some (.d L.d), some (.d c.d), some (.d (wD (acc ++ wordsL k L c ps))), z', y])
  | [], acc, z, _, _ => ⟨z, by rw [show wordsL k L c [] = [] from rfl, List.append_nil]; rfl⟩
  | p :: ps, acc, z, h, hl => by
    obtain ⟨p2, pw⟩ := h p List.mem_cons_self
    have e1 := full_len k c p
    have e2 := enc_len L (full k c p)
    have hl' : acc.length + (ps.length + 1) * 42 ≤ 1000 := hl
    obtain ⟨z', ih⟩ := pa_loop h1 h2 L c x y ps (acc ++ L.enc (full k c p)) (some (.d (wD p))) (fun q hq => h q (List.mem_cons_of_mem _ hq)) (by rw [List.length_append]; omega)
    refine ⟨z', ?_⟩
    rw [List.map_cons, forF, show acc ++ wordsL k L c (p :: ps) = acc ++ L.enc (full k c p) ++ wordsL k L c ps from by rw [List.append_assoc]; rfl, ← ih]
    show seq (lift (some ([some (.d (.int k)), some (.d x), some (.d L.d), some (.d c.d), some (.d (wD acc)), some (.d (wD p)), y] : Sim.Env))) _ = _
    rw [lift_s, seq_r]
    have hg : paG [some (.d (.int k)), some (.d x), some (.d L.d), some (.d c.d), some (.d (wD acc)), some (.d (wD p)), y] = Sim.ret (.next [some (.d (.int k)), some (.d x), some (.d L.d), some (.d c.d), some (.d (wD (acc ++ L.enc (full k c p)))), some (.d (wD p)), y]) := by
      unfold paG
      walk_at "sem"
      rw [check_of_eq h1 h2 c pw]
      walk_at "sem"
      rw [show addD (wD p) (wD (chkL k c p)) = some (wD (full k c p)) by
        unfold wD full
        rw [addD_tt (by rw [List.length_map, List.length_map, ← List.length_append]; show (full k c p).length ≤ 1000000; omega), List.map_append]]
      walk_at "sem"
      rw [one_packed_eq L (by omega)]
      walk_at "sem"
      rw [show addD (wD acc) (wD (L.enc (full k c p))) = some (wD (acc ++ L.enc (full k c p))) by
        unfold wD
        rw [addD_tt (by rw [List.length_map, List.length_map]; show acc.length + (L.enc (full k c p)).length ≤ 1000000; omega), List.map_append]]
      walk_at "sem"
    rw [hg, seq_r, loopM_n]
def Fits (k : Nat) (L : Ly) (c : Ck) (ps : List (List Nat)) : Prop := ∀ p ∈ ps, L.fit (full k c p) ∧ (L.isLen = true → (full k c p).length < 2 ^ k)
instance (k : Nat) (L : Ly) (c : Ck) (ps : List (List Nat)) : Decidable (Fits k L c ps) := by unfold Fits; infer_instance
def packR (k : Nat) (L : Ly) (c : Ck) (ps : List (List Nat)) : M D := if Fits k L c ps then (if (wordsL k L c ps).length ≤ 40 then Sim.ret (wD (wordsL k L c ps)) else raiseM 5) else raiseM 9
theorem words_lt {k : Nat} {L : Ly} (hL : L.Ok k) {c : Ck} {ps : List (List Nat)} (h : ∀ p ∈ ps, ∀ w ∈ p, w < 2 ^ k) : (∀ w ∈ wordsL k L c ps, w < 2 ^ k) ↔ ∀ p ∈ ps, L.isLen = true → (full k c p).length < 2 ^ k := by
  refine ⟨fun z p hp => (enc_lt hL (full_lt (h p hp))).mp fun w hw => z w (List.mem_flatMap.mpr ⟨p, hp, hw⟩), fun z w hw => ?_⟩
  obtain ⟨p, hp, hw⟩ := List.mem_flatMap.mp hw
  exact (enc_lt hL (full_lt (h p hp))).mpr (z p hp) w hw
theorem packed_eq {k : Nat} (h1 : 4 ≤ k) (h2 : k ≤ 6) {ps : List (List Nat)} (h : PkOk k ps) {L : Ly} (hL : L.Ok k) (c : Ck) : F_packed [.d (.int k), .d (pkD ps), .d L.d, .d c.d] = packR k L c ps := by
  have hw : ∀ p ∈ ps, ∀ w ∈ p, w < 2 ^ k := fun p hp => (h.2 p hp).2
  have hlen : (wordsL k L c ps).length ≤ 420 := by
    have a1 := words_len k L c (ps := ps) (n := 40) fun p hp => (h.2 p hp).1.2
    have a2 := Nat.mul_le_mul_right 42 h.1.2
    omega
  obtain ⟨z', e⟩ := pa_loop h1 h2 L c (pkD ps) none ps [] none (fun p hp => ⟨(h.2 p hp).1.2, hw p hp⟩) (by have := h.1.2; simp; omega)
  show seq (g_packed [some (.d (.int k)), some (.d (pkD ps)), some (.d L.d), some (.d c.d), none, none, none]) finM = _
  unfold g_packed
  walk_at "sem"
  rw [need_all_eq h1 h2 h hL]
  walk_at "sem"
  rw [show itemsM (pkD ps) = Sim.ret (ps.map wD) from rfl]
  walk_at "sem"
  have e : forF (bndN 5) paG (ps.map wD) [some (.d (.int k)), some (.d (pkD ps)), some (.d L.d), some (.d c.d), some (.d (.tuple [])), none, none] = _ := e
  rw [e]
  walk_at "sem"
  rw [List.nil_append, show itemsM (wD (wordsL k L c ps)) = Sim.ret ((wordsL k L c ps).map intD') from rfl]
  walk_at "sem"
  rw [if_pos (show (wordsL k L c ps).length ≤ big from (show (wordsL k L c ps).length ≤ 1000000 by omega))]
  rw [lc_mapf intD' (fun w => [some (.d (.int k)), some (.d (pkD ps)), some (.d L.d), some (.d c.d), some (.d (wD (wordsL k L c ps))), z', some (.d (.int w))]) (fun w => .bool (decide (w < 2 ^ k))) _ (fun w _ => rfl) (fun w _ => ?_)]
  · walk_at "sem"
    rw [show ((wordsL k L c ps).map fun w => PyData.bool (decide (w < 2 ^ k))) = ((wordsL k L c ps).map fun w => decide (w < 2 ^ k)).map PyData.bool by rw [List.map_map]; rfl, allD_map]
    walk_at "sem"
    rw [List.all_map]
    unfold packR
    by_cases hin : ∀ w ∈ wordsL k L c ps, w < 2 ^ k
    · rw [show (wordsL k L c ps).all (id ∘ fun w => decide (w < 2 ^ k)) = true from List.all_eq_true.mpr fun w hw => decide_eq_true (hin w hw)]
      walk_at "sem"
      rw [packets_in_eq h1 h2 L c (by omega) hin]
      walk_at "sem"
      rw [ne_optP]
      walk_at "sem"
      have hb := (words_lt hL hw).mp hin
      by_cases hf : Fits k L c ps
      · rw [if_pos hf, parts_full (fun p hp => ⟨fun z => by have := (h.2 p hp).1.1; rw [z] at this; simp at this, (hf p hp).1⟩) (by have := h.1.2; omega), decide_eq_true rfl]
        walk_at "sem"
        rw [show lenD [wD (wordsL k L c ps)] = _ from len_w _]
        walk_at "sem"
        by_cases hl : (wordsL k L c ps).length ≤ 40
        · rw [decide_eq_false (show ¬ (40 : Int) < ((wordsL k L c ps).length : Int) by omega), if_pos hl]
          walk_at "sem"
        · rw [decide_eq_true (show (40 : Int) < ((wordsL k L c ps).length : Int) by omega), if_neg hl]
          walk_at "sem"
      · rw [if_neg hf, decide_eq_false (fun z => hf fun p hp => ⟨((parts_sound z).1 p hp).2, hb p hp⟩)]
        walk_at "sem"
    · rw [show (wordsL k L c ps).all (id ∘ fun w => decide (w < 2 ^ k)) = false from by
        rw [Bool.eq_false_iff]
        intro z
        exact hin fun w hw => of_decide_eq_true (List.all_eq_true.mp z w hw)]
      walk_at "sem"
      rw [if_neg fun hf => hin ((words_lt hL hw).mpr fun p hp => (hf p hp).2)]
  · walk_at "sem"
    rw [top_eq h1 h2]
    walk_at "sem"
    congr 2
    exact decide_eq_decide.mpr (by omega)
theorem words_1 {k : Nat} {L : Ly} {c : Ck} {ps : List (List Nat)} (h : PkOk k ps) : 1 ≤ (wordsL k L c ps).length := by
  obtain ⟨⟨l1, _⟩, hp⟩ := h
  cases ps with
  | nil => simp at l1
  | cons p ps =>
    have h1 : p ≠ [] := fun z => by have := (hp p List.mem_cons_self).1.1; rw [z] at this; simp at this
    have h2 := List.length_pos_iff.mpr (enc_ne (L := L) (k := k) (c := c) h1)
    show 1 ≤ (L.enc (full k c p) ++ wordsL k L c ps).length
    rw [List.length_append]; omega

/-! ### the law's own packing -/
theorem need_words_eq {k : Nat} (h1 : 4 ≤ k) (h2 : k ≤ 6) {ws : List Nat} (l1 : 1 ≤ ws.length) (l2 : ws.length ≤ 40) (hw : ∀ w ∈ ws, w < 2 ^ k) : F_need_words [.d (.int k), .d (wD ws)] = Sim.ret .none := by
  show seq (g_need_words [some (.d (.int k)), some (.d (.tuple (ws.map intD'))), none]) finM = _
  unfold g_need_words
  walk_at "sem"
  rw [whole_eq, decide_eq_true (by omega)]
  walk_at "sem"
  rw [decide_eq_true (show (1 : Int) ≤ (ws.length : Int) by omega), decide_eq_true (show (ws.length : Int) ≤ 40 by omega)]
  walk_at "sem"
  rw [if_pos (show ws.length ≤ big from (show ws.length ≤ 1000000 by omega))]
  rw [lc_mapf intD' (fun w => [some (.d (.int k)), some (.d (.tuple (ws.map intD'))), some (.d (.int w))]) (fun _ => .bool true) ws (fun w _ => rfl) (fun w hx => ?_)]
  · walk_at "sem"
    rw [show (ws.map fun _ => PyData.bool true) = (ws.map fun _ => true).map PyData.bool by rw [List.map_map]; rfl, all_true]
    walk_at "sem"
  · walk_at "sem"
    rw [top_eq h1 h2]
    walk_at "sem"
    rw [whole_eq, decide_eq_true (by have := hw w hx; omega)]
abbrev lcG : Sim.Env → M Fl := ifS (testE (opE eqD (varE 2) (cE (.str "sum")))) (setS 3 (opE modD (opE addD (varE 3) (varE 4)) (opE ixD (listE (lstN (consE (cE (.int 16)) (consE (cE (.int 32)) (consE (cE (.int 64)) (nilE)))))) (opE subD (varE 0) (cE (.int 4)))))) (setS 3 (callB sumD (consE (listE (lcE (itemsE (tupE (consE (cE (.int 1)) (consE (cE (.int 2)) (consE (cE (.int 4)) (consE (cE (.int 8)) (consE (cE (.int 16)) (consE (cE (.int 32)) (nilE))))))))) [5] (bndN 5) (testE (opE neD (opE modD (opE fdivD (varE 3) (varE 5)) (cE (.int 2))) (opE modD (opE fdivD (varE 4) (varE 5)) (cE (.int 2))))) (varE 5))) (nilE))))
theorem lawx_eq {k : Nat} (h2 : k ≤ 6) {t w : Nat} (ht : t < 2 ^ k) (hw : w < 2 ^ k) (x : D) (c : D) (y : Option SV) (hc : eqD c (.str "sum") = some (.bool false)) : lcG [some (.d (.int k)), some (.d x), some (.d c), some (.d (.int t)), some (.d (.int w)), y] = Sim.ret (.next [some (.d (.int k)), some (.d x), some (.d c), some (.d (.int (t ^^^ w : Nat))), some (.d (.int w)), y]) := by
  have hp : 2 ^ k ≤ 2 ^ 6 := Nat.pow_le_pow_right (by decide) h2
  unfold lcG
  walk_at "sem"
  rw [hc]
  walk_at "sem"
  rw [show [PyData.int 1, .int 2, .int 4, .int 8, .int 16, .int 32] = [1, 2, 4, 8, 16, 32].map intD' from rfl]
  rw [lc_filterf intD' (fun v => [some (.d (.int k)), some (.d x), some (.d c), some (.d (.int t)), some (.d (.int w)), some (.d (.int v))]) (fun v => !decide (t / v % 2 = w / v % 2)) intD' _ (fun v _ => rfl) (fun v hv => ?_) (fun v _ _ => rfl)]
  · walk_at "sem"
    rw [sumD_nat, show (([1, 2, 4, 8, 16, 32] : List Nat).filter fun v => !decide (t / v % 2 = w / v % 2)).sum = t ^^^ w from lx_all t (Nat.lt_of_lt_of_le ht hp) w (Nat.lt_of_lt_of_le hw hp)]
    walk_at "sem"
  · have hv0 : 0 < v ∧ v ≤ 32 := by
      simp only [List.mem_cons, List.not_mem_nil, or_false] at hv
      omega
    walk_at "sem"
    rw [fdivD_ii ⟨by omega, by omega⟩, fdivD_ii ⟨by omega, by omega⟩]
    walk_at "sem"
    rw [modD_ii (by decide), modD_ii (by decide)]
    walk_at "sem"
    congr 2
    refine decide_eq_decide.mpr ?_
    rw [← Int.natCast_ediv, ← Int.natCast_ediv]
    omega
theorem lcheck_loop {k : Nat} (h1 : 4 ≤ k) (h2 : k ≤ 6) (c : Ck) (x : D) (y : Option SV) : ∀ (p : List Nat) (t : Nat) (z : Option SV), t < 2 ^ k → (∀ w ∈ p, w < 2 ^ k) → ∃ z', forF (bndN 4) lcG (p.map intD') [some (.d (.int k)), some (.d x), some (.d c.d), some (.d (.int t)), z, y] = Sim.ret (.next [some (.d (.int k)), some (.d x), some (.d c.d), some (.d (.int (p.foldl (chkF k c) t : Nat))), z', y])
  | [], t, z, _, _ => ⟨z, rfl⟩
  | w :: p, t, z, ht, hp => by
    have hw := hp w List.mem_cons_self
    obtain ⟨z', ih⟩ := lcheck_loop h1 h2 c x y p (chkF k c t w) (some (.d (.int w))) (chkF_lt ht hw) fun y hy => hp y (List.mem_cons_of_mem _ hy)
    refine ⟨z', ?_⟩
    rw [List.map_cons, forF, List.foldl_cons, ← ih]
    have hg : lcG [some (.d (.int k)), some (.d x), some (.d c.d), some (.d (.int t)), some (.d (.int w)), y] = Sim.ret (.next [some (.d (.int k)), some (.d x), some (.d c.d), some (.d (.int (chkF k c t w : Nat))), some (.d (.int w)), y]) := by
      cases c with
      | sum =>
        unfold lcG
        simp only [Ck.d]
        walk_at "sem"
        rw [top_at h1 h2]
        walk_at "sem"
        rw [modD_ii (by have := Nat.two_pow_pos k; omega), ← Int.natCast_add, ← Int.natCast_emod]
        rfl
      | no => exact lawx_eq h2 ht hw x _ y ks_none_sum
      | xor => exact lawx_eq h2 ht hw x _ y ks_xor_sum
    show seq (lift (some ([some (.d (.int k)), some (.d x), some (.d c.d), some (.d (.int t)), some (.d (.int w)), y] : Sim.Env))) _ = _
    rw [lift_s, seq_r, hg, seq_r, loopM_n]
def FitP (k : Nat) (L : Ly) (c : Ck) (p : List Nat) : Prop := L.fit (full k c p) ∧ (L.isLen = true → (full k c p).length < 2 ^ k)
/-! ### what is drawn -/
def PkS (k n : Nat) (ps : List (List Nat)) : Prop := ∀ p ∈ ps, (1 ≤ p.length ∧ p.length ≤ n) ∧ ∀ w ∈ p, w < 2 ^ k
theorem ints_of {k : Nat} : ∀ {ds : List D}, (∀ x ∈ ds, ∃ v : Int, x = .int v ∧ 0 ≤ v ∧ v < (2 ^ k : Nat)) → ∃ p : List Nat, ds = p.map intD' ∧ ∀ w ∈ p, w < 2 ^ k
  | [], _ => ⟨[], rfl, fun w hw => by cases hw⟩
  | d :: ds, h => by
    obtain ⟨v, rfl, v0, v1⟩ := h d List.mem_cons_self
    obtain ⟨p, rfl, hp⟩ := ints_of (ds := ds) fun x hx => h x (List.mem_cons_of_mem _ hx)
    refine ⟨v.toNat :: p, ?_, fun w hw => ?_⟩
    · rw [List.map_cons, intD', Int.toNat_of_nonneg v0]
    · rcases List.mem_cons.mp hw with rfl | hw
      · omega
      · exact hp w hw
abbrev ldA : Sim.Env → M Fl := appS 6 (callB tupleD (consE (listE (lcE (rngE rng1M (consE (varE 8) (nilE))) [9] (bndN 9) (yesT) (callF 3 F__law_draw (scrA 0 (townA 1 (consA (opE ixD (listE (lstN (consE (cE (.int 16)) (consE (cE (.int 32)) (consE (cE (.int 64)) (nilE)))))) (opE subD (varE 2) (cE (.int 4)))) (nilE))))))) (nilE)))
abbrev ldS : Sim.Env → M Fl := setS 8 (ifE (testE (opE gtD (varE 4) (cE (.int 0)))) (varE 5) (opE addD (cE (.int 1)) (callF 3 F__law_draw (scrA 0 (townA 1 (consA (cE (.int 5)) (nilE)))))))
theorem ldS_ok (ns : List Int) (e2 e3 : Option SV) {v m : Int} (m0 : 0 ≤ m) (m1 : m < 4) (e6 e7 e8 e9 : Option SV) : Ok 1 (ldS [some (.scr ns), some .town, e2, e3, some (.d (.int v)), some (.d (.int (1 + m))), e6, e7, e8, e9]) fun f => ∃ size : Nat, (1 ≤ size ∧ size ≤ 5) ∧ f = .next [some (.scr ns), some .town, e2, e3, some (.d (.int v)), some (.d (.int (1 + m))), e6, e7, some (.d (.int size)), e9] := by
  unfold ldS
  walk_at "sem"
  by_cases hv : 0 < v
  · rw [decide_eq_true hv]
    walk_at "sem"
    refine Ok.ret ⟨1 + m.toNat, ⟨by omega, by omega⟩, ?_⟩
    rw [show ((1 + m.toNat : Nat) : Int) = 1 + m by omega]
  · rw [decide_eq_false hv]
    walk_at "sem"
    refine Ok.step (draw_ok ns 5 (by decide)) (by decide) fun d hd => ?_
    obtain ⟨n, rfl, n0, n1⟩ := hd
    try walk_at "sem"
    refine Ok.ret ⟨1 + n.toNat, ⟨by omega, by omega⟩, ?_⟩
    rw [show ((1 + n.toNat : Nat) : Int) = 1 + n by omega]
theorem ldA_ok (ns : List Int) {k : Nat} (h1 : 4 ≤ k) (h2 : k ≤ 6) (e3 e4 e5 e7 e9 : Option SV) {ps : List (List Nat)} (hl : ps.length ≤ 1000) {size : Nat} (s2 : size ≤ 5) : Ok 7 (ldA [some (.scr ns), some .town, some (.d (.int k)), e3, e4, e5, some (.own (ps.map wD)), e7, some (.d (.int size)), e9]) fun f => ∃ p : List Nat, (p.length = size ∧ ∀ w ∈ p, w < 2 ^ k) ∧ f = .next [some (.scr ns), some .town, some (.d (.int k)), e3, e4, e5, some (.own ((ps ++ [p]).map wD)), e7, some (.d (.int size)), e9] := by
  unfold ldA
  walk_at "sem"
  rw [rng1_nat (by omega)]
  walk_at "sem"
  rw [if_pos (show size ≤ big from (show size ≤ 1000000 by omega))]
  refine Ok.step (k1 := 5) ((lc_ok (k := 1) (bnd := bndN 9) (fun d => [some (.scr ns), some .town, some (.d (.int k)), e3, e4, e5, some (.own (ps.map wD)), e7, some (.d (.int size)), some (.d d)]) (fun x => ∃ v : Int, x = .int v ∧ 0 ≤ v ∧ v < (2 ^ k : Nat)) _ (fun d _ => rfl) (fun d _ => ?_)).mono (by rw [List.length_map, List.length_range]; omega) fun _ h => h) (by decide) fun ds hds => ?_
  · walk_at "sem"
    rw [top_at h1 h2]
    walk_at "sem"
    exact draw_ok ns _ (by have := Nat.two_pow_pos k; omega)
  · obtain ⟨p, rfl, hp⟩ := ints_of hds.2
    have hpl : p.length = size := by have := hds.1; simpa using this
    rw [show tupleD [.list (p.map intD')] = some (wD p) from rfl]
    walk_at "sem"
    rw [if_pos (show ps.length < big from (show ps.length < 1000000 by omega))]
    refine Ok.ret ⟨p, ⟨hpl, hp⟩, ?_⟩
    rw [List.map_append]; rfl
theorem packets_ok (ns : List Int) {k most : Nat} (h1 : 4 ≤ k) (h2 : k ≤ 6) (hm : 1 ≤ most) (hm2 : most ≤ 10) : Ok 100 (F__law_packets [.scr ns, .town, .d (.int k), .d (.int most)]) fun d => ∃ ps, d = pkD ps ∧ (1 ≤ ps.length ∧ ps.length ≤ most) ∧ PkS k 5 ps := by
  show Ok 100 (seq (g__law_packets [some (.scr ns), some .town, some (.d (.int k)), some (.d (.int most)), none, none, none, none, none, none]) finM) _
  unfold g__law_packets
  walk_at "sem"
  refine Ok.step (draw_ok ns 3 (by decide)) (by decide) fun d hd => ?_
  obtain ⟨v, rfl, v0, v1⟩ := hd
  try walk_at "sem"
  refine Ok.step (draw_ok ns 4 (by decide)) (by decide) fun d hd => ?_
  obtain ⟨m, rfl, m0, m1⟩ := hd
  try walk_at "sem"
  refine Ok.step (draw_ok ns most (by omega)) (by decide) fun d hd => ?_
  obtain ⟨n, rfl, n0, n1⟩ := hd
  try walk_at "sem"
  rw [show (1 : Int) + n = ((1 + n.toNat : Nat) : Int) by omega, rng1_nat (by omega)]
  try walk_at "sem"
  refine Ok.step (k1 := 80) ((for_okm (k := 8) intD' (List.range (1 + n.toNat)) (fun pre env => ∃ (ps : List (List Nat)) (a b : Option SV), ps.length = pre.length ∧ PkS k 5 ps ∧ env = [some (.scr ns), some .town, some (.d (.int k)), some (.d (.int most)), some (.d (.int v)), some (.d (.int (1 + m))), some (.own (ps.map wD)), a, b, none]) ⟨[], none, none, rfl, (fun p hp => by cases hp), rfl⟩ ?_).mono (by rw [List.length_range]; omega) fun _ h => h) (by decide) fun fl hfl => ?_
  · rintro pre x post env hcs ⟨ps, a, b, hlen, hps, rfl⟩
    have hpre : pre.length < 1 + n.toNat := by
      have := congrArg List.length hcs
      rw [List.length_range, List.length_append, List.length_cons] at this
      omega
    refine ⟨_, rfl, ?_⟩
    refine Ok.seq (k1 := 1) (k2 := 7) (x := ldS _) (f := thenM ldA) (ldS_ok ns _ _ m0 m1 _ _ _ _) fun f hf => ?_
    obtain ⟨size, ⟨s1, s2⟩, rfl⟩ := hf
    refine (ldA_ok ns h1 h2 _ _ _ _ _ (by omega) s2).mono (Nat.le_refl _) fun f hf => ?_
    obtain ⟨p, ⟨p1, p2⟩, rfl⟩ := hf
    refine ⟨_, rfl, ps ++ [p], _, _, by simp [hlen], fun q hq => ?_, rfl⟩
    rcases List.mem_append.mp hq with hq | hq
    · exact hps q hq
    · rw [List.mem_singleton.mp hq]
      exact ⟨⟨by omega, by omega⟩, p2⟩
  · obtain ⟨env, rfl, ps, a, b, hlen, hps, rfl⟩ := hfl
    walk_at "sem"
    rw [List.length_range] at hlen
    exact Ok.ret ⟨ps, rfl, ⟨by omega, by omega⟩, hps⟩

/-! ### all layers -/
def laysL (k : Nat) : List Ly := ((List.range 9).map fun i => Ly.fix (1 + i)) ++ [Ly.len] ++ (List.range (2 ^ k)).map Ly.mark
def cks : List Ck := [.no, .sum, .xor]
def lcD (L : Ly) (c : Ck) : D := .tuple [L.d, c.d]
def pairsL (k : Nat) (p : Ly → Ck → Bool) : List (Ly × Ck) := (laysL k).flatMap fun L => (cks.filter (p L)).map fun c => (L, c)
def pairD (x : Ly × Ck) : D := lcD x.1 x.2
theorem lays_ok {k : Nat} {L : Ly} (h : L ∈ laysL k) : L.Ok k := by
  unfold laysL at h
  rcases List.mem_append.mp h with h | h
  · rcases List.mem_append.mp h with h | h
    · obtain ⟨i, hi, rfl⟩ := List.mem_map.mp h
      have := List.mem_range.mp hi
      exact ⟨by omega, by omega⟩
    · rw [List.mem_singleton.mp h]; trivial
  · obtain ⟨i, hi, rfl⟩ := List.mem_map.mp h
    exact List.mem_range.mp hi
theorem fixes_eq : [PyData.tuple [PyData.str "fixed", PyData.int 1], PyData.tuple [PyData.str "fixed", PyData.int 2], PyData.tuple [PyData.str "fixed", PyData.int 3], PyData.tuple [PyData.str "fixed", PyData.int 4], PyData.tuple [PyData.str "fixed", PyData.int 5], PyData.tuple [PyData.str "fixed", PyData.int 6], PyData.tuple [PyData.str "fixed", PyData.int 7], PyData.tuple [PyData.str "fixed", PyData.int 8], PyData.tuple [PyData.str "fixed", PyData.int 9]] = ((List.range 9).map fun i => Ly.fix (1 + i)).map Ly.d := rfl
theorem rng_19 : rng2M [PyData.int 1, PyData.int 10] = Sim.ret ((List.range 9).map fun i => intD' (1 + i)) := rfl
theorem is_packed_eq {k : Nat} (h1 : 4 ≤ k) (h2 : k ≤ 6) {ps : List (List Nat)} (h : PkOk k ps) {L : Ly} (hL : L.Ok k) (c : Ck) : F_is_packed [.d (.int k), .d (pkD ps), .d L.d, .d c.d] = Sim.ret (.bool (decide (Fits k L c ps ∧ (wordsL k L c ps).length ≤ 40))) := by
  have hp := packed_eq h1 h2 h hL c
  unfold packR at hp
  have h0 : wordsL k L c ps ≠ [] := by
    have := words_1 (L := L) (c := c) h
    intro z; rw [z] at this; simp at this
  have key : ∀ (r : M D), F_packed [.d (.int k), .d (pkD ps), .d L.d, .d c.d] = r → F_is_packed [.d (.int k), .d (pkD ps), .d L.d, .d c.d] = seq (fun n => match (seq r fun a => seq (lift (neD a (.tuple []))) fun d => Sim.ret (Fl.ret d)) n with | .exc c m => if c = 9 ∨ c = 5 then .ok (.ret (.bool false)) m else .bad | .ok a m => .ok a m | .bad => .bad) finM := by
    intro r hr
    show seq (g_is_packed [some (.d (.int k)), some (.d (pkD ps)), some (.d L.d), some (.d c.d)]) finM = _
    unfold g_is_packed try2S
    walk_at "sem"
    rw [hr]
    try rfl
  by_cases hf : Fits k L c ps
  · rw [if_pos hf] at hp
    by_cases hl : (wordsL k L c ps).length ≤ 40
    · rw [if_pos hl] at hp
      rw [key _ hp, decide_eq_true ⟨hf, hl⟩, seq_r, ne_w_nil, decide_eq_false h0]
      rfl
    · rw [if_neg hl] at hp
      rw [key _ hp, decide_eq_false (fun z => hl z.2)]
      rfl
  · rw [if_neg hf] at hp
    rw [key _ hp, decide_eq_false (fun z => hf z.1)]
    rfl
abbrev lyG (gt : Sim.Env → M Bool) : Sim.Env → M Fl := extS 3 (listE (lcE (itemsE (cE (.tuple [.str "none", .str "sum", .str "xor"]))) [7] (bndN 7) gt (tupE (consE (varE 4) (consE (varE 7) (nilE))))))
theorem ly_loop (gt : Sim.Env → M Bool) (p : Ly → Ck → Bool) (e0 e1 e2 e5 e6 : Option SV) : ∀ (Ls : List Ly) (acc : List (Ly × Ck)) (z : Option SV), (∀ L ∈ Ls, ∀ (c : Ck) (xs : List D), gt [e0, e1, e2, some (.own xs), some (.d L.d), e5, e6, some (.d c.d)] = Sim.ret (p L c)) → acc.length + 3 * Ls.length ≤ 1000 →
    ∃ z', forF (bndN 4) (lyG gt) (Ls.map Ly.d) [e0, e1, e2, some (.own (acc.map pairD)), z, e5, e6, none] = Sim.ret (.next [e0, e1, e2, some (.own ((acc ++ Ls.flatMap fun L => (cks.filter (p L)).map fun c => (L, c)).map pairD)), z', e5, e6, none])
  | [], acc, z, _, _ => ⟨z, by rw [List.flatMap_nil, List.append_nil]; rfl⟩
  | L :: Ls, acc, z, h, hl => by
    have hfl : (cks.filter (p L)).length ≤ 3 := List.length_filter_le _ _
    have hl' : acc.length + 3 * (Ls.length + 1) ≤ 1000 := hl
    obtain ⟨z', ih⟩ := ly_loop gt p e0 e1 e2 e5 e6 Ls (acc ++ (cks.filter (p L)).map fun c => (L, c)) (some (.d L.d)) (fun M hM => h M (List.mem_cons_of_mem _ hM)) (by rw [List.length_append, List.length_map]; omega)
    refine ⟨z', ?_⟩
    rw [List.map_cons, forF, List.flatMap_cons, ← List.append_assoc, ← ih]
    show seq (lift (some ([e0, e1, e2, some (.own (acc.map pairD)), some (.d L.d), e5, e6, none] : Sim.Env))) _ = _
    rw [lift_s, seq_r]
    have hg : lyG gt [e0, e1, e2, some (.own (acc.map pairD)), some (.d L.d), e5, e6, none] = Sim.ret (.next [e0, e1, e2, some (.own ((acc ++ (cks.filter (p L)).map fun c => (L, c)).map pairD)), some (.d L.d), e5, e6, none]) := by
      unfold lyG
      walk_at "sem"
      rw [show [PyData.str "none", .str "sum", .str "xor"] = cks.map Ck.d from rfl]
      rw [lc_filterf Ck.d (fun c => [e0, e1, e2, some (.own (acc.map pairD)), some (.d L.d), e5, e6, some (.d c.d)]) (p L) (fun c => lcD L c) cks (fun c _ => rfl) (fun c _ => h L List.mem_cons_self c _) (fun c _ _ => rfl)]
      walk_at "sem"
      rw [if_pos (show acc.length + (cks.filter (p L)).length ≤ big from (show _ ≤ 1000000 by omega))]
      rw [List.map_append, List.map_map]
      rfl
    rw [hg, seq_r, loopM_n]
theorem alike_ly : ∀ L M : Ly, PySem.W.alike L.d M.d = true
  | .fix _, .fix _ => rfl
  | .fix _, .len => rfl
  | .fix _, .mark _ => rfl
  | .len, .fix _ => rfl
  | .len, .len => rfl
  | .len, .mark _ => rfl
  | .mark _, .fix _ => rfl
  | .mark _, .len => rfl
  | .mark _, .mark _ => rfl
theorem alike_ck (c e : Ck) : PySem.W.alike c.d e.d = true := by cases c <;> cases e <;> rfl
theorem alike_pair (x y : Ly × Ck) : PySem.W.alike (pairD x) (pairD y) = true := by
  show PySem.W.alike (.tuple [x.1.d, x.2.d]) (.tuple [y.1.d, y.2.d]) = true
  rw [PySem.W.alike, PySem.W.alikeAll, PySem.W.alikeAll, PySem.W.alikeAll, alike_ly, alike_ck]
  rfl
theorem pl_ly (L : Ly) : Pl 1 L.d := by
  cases L <;> refine pl_tuple fun x hx => ?_ <;> simp only [List.mem_cons, List.not_mem_nil, or_false] at hx
  · rcases hx with rfl | rfl
    · exact pl_str _ _
    · exact pl_int _ _
  · subst hx; exact pl_str _ _
  · rcases hx with rfl | rfl
    · exact pl_str _ _
    · exact pl_int _ _
theorem pl_ck (c : Ck) : Pl 1 c.d := by cases c <;> exact pl_str _ _
theorem pl_pair (x : Ly × Ck) : Pl 2 (pairD x) := pl_tuple fun d hd => by
  simp only [List.mem_cons, List.not_mem_nil, or_false] at hd
  rcases hd with rfl | rfl
  · exact pl_ly _
  · exact pl_ck _
theorem sort_pairs {xs : List (Ly × Ck)} (h : xs.length ≤ 1000) : sortedD [.list (xs.map pairD)] = some (.list (sortL (xs.map pairD))) := by
  show (if sortOkB (xs.map pairD) = true then some (PyData.list (sortL (xs.map pairD))) else none) = _
  rw [if_pos]
  unfold sortOkB
  simp only [Bool.and_eq_true, Bool.or_eq_true, decide_eq_true_eq, List.all_eq_true, List.mem_map]
  refine ⟨⟨⟨?_, .inl ?_⟩, ?_⟩, ?_⟩
  · rintro _ ⟨x, _, rfl⟩ _ ⟨y, _, rfl⟩
    exact alike_pair x y
  · rintro _ ⟨x, _, rfl⟩
    rfl
  · rw [List.length_map]; show xs.length ≤ 1000000; omega
  · rintro _ ⟨x, _, rfl⟩
    exact Nat.le_trans (pl_pair x).2 (by decide)
theorem mem_sort {xs : List D} {d : D} : d ∈ sortL xs ↔ d ∈ xs := (List.mergeSort_perm xs _).mem_iff
theorem pairs_len (k : Nat) (p : Ly → Ck → Bool) : (pairsL k p).length ≤ 3 * (laysL k).length := by
  unfold pairsL
  induction laysL k with
  | nil => exact Nat.zero_le _
  | cons L Ls ih =>
    rw [List.flatMap_cons, List.length_append, List.length_map, List.length_cons]
    have hfl : (cks.filter (p L)).length ≤ 3 := List.length_filter_le _ _
    omega
theorem lays_len {k : Nat} (h2 : k ≤ 6) : (laysL k).length ≤ 74 := by
  have hp : 2 ^ k ≤ 2 ^ 6 := Nat.pow_le_pow_right (by decide) h2
  unfold laysL
  rw [List.length_append, List.length_append, List.length_map, List.length_map, List.length_range, List.length_range]
  show 9 + 1 + 2 ^ k ≤ 74
  omega
theorem layers_of_eq {k : Nat} (h1 : 4 ≤ k) (h2 : k ≤ 6) {ps : List (List Nat)} (h : PkOk k ps) : F_layers_of [.d (.int k), .d (pkD ps)] = Sim.ret (.list (sortL ((pairsL k fun L c => decide (Fits k L c ps ∧ (wordsL k L c ps).length ≤ 40)).map pairD))) := by
  have hp : 2 ^ k ≤ 2 ^ 6 := Nat.pow_le_pow_right (by decide) h2
  obtain ⟨z', e⟩ := ly_loop (testE (callF 4 F_is_packed (consA (varE 0) (consA (varE 1) (consA (varE 4) (consA (varE 7) (nilE))))))) (fun L c => decide (Fits k L c ps ∧ (wordsL k L c ps).length ≤ 40)) (some (.d (.int k))) (some (.d (pkD ps))) (some (.d (.list ((laysL k).map Ly.d)))) none none (laysL k) [] none (fun L hL c xs => by
    walk_at "sem"
    rw [is_packed_eq h1 h2 h (lays_ok hL) c]
    walk_at "sem") (by have := lays_len h2; simp; omega)
  show seq (g_layers_of [some (.d (.int k)), some (.d (pkD ps)), none, none, none, none, none, none]) finM = _
  unfold g_layers_of
  walk_at "sem"
  rw [show F_need_all [.d (.int k), .d (pkD ps), .d (.tuple [.str "length"]), .d (.str "none")] = _ from need_all_eq h1 h2 h (L := .len) trivial .no]
  walk_at "sem"
  rw [rng_19]
  walk_at "sem"
  rw [lc_mapf (fun i => intD' (1 + i)) (fun i => [some (.d (.int k)), some (.d (pkD ps)), none, none, none, some (.d (intD' (1 + i))), none, none]) (fun i => (Ly.fix (1 + i)).d) (List.range 9) (fun i _ => rfl) (fun i _ => rfl)]
  walk_at "sem"
  rw [top_eq h1 h2]
  walk_at "sem"
  rw [show ((2 ^ k : Nat) : Int) - 1 + 1 = ((2 ^ k : Nat) : Int) by omega, rng1_nat (by omega)]
  walk_at "sem"
  rw [if_pos (show 2 ^ k ≤ big from (show 2 ^ k ≤ 1000000 by omega))]
  generalize hX : (List.range 9).map (fun i => (Ly.fix (1 + i)).d) ++ [PyData.tuple [PyData.str "length"]] = XS
  have hXl : XS.length = 10 := by rw [← hX]; rfl
  rw [lc_mapf intD' (fun i => [some (.d (.int k)), some (.d (pkD ps)), some (.own XS), none, none, none, some (.d (.int i)), none]) (fun i => (Ly.mark i).d) (List.range (2 ^ k)) (fun i _ => rfl) (fun i _ => rfl)]
  walk_at "sem"
  rw [if_pos (show XS.length + 2 ^ k ≤ big from (show XS.length + 2 ^ k ≤ 1000000 by omega))]
  walk_at "sem"
  rw [show XS ++ (List.range (2 ^ k)).map (fun i => (Ly.mark i).d) = (laysL k).map Ly.d by
    rw [← hX]; unfold laysL; rw [List.map_append, List.map_append, List.map_map, List.map_map]; rfl]
  have e : forF (bndN 4) (lyG (testE (callF 4 F_is_packed (consA (varE 0) (consA (varE 1) (consA (varE 4) (consA (varE 7) (nilE)))))))) ((laysL k).map Ly.d) [some (.d (.int k)), some (.d (pkD ps)), some (.d (.list ((laysL k).map Ly.d))), some (.own []), none, none, none, none] = _ := e
  rw [e]
  walk_at "sem"
  rw [List.nil_append, show ((laysL k).flatMap fun L => (cks.filter fun c => decide (Fits k L c ps ∧ (wordsL k L c ps).length ≤ 40)).map fun c => (L, c)) = pairsL k fun L c => decide (Fits k L c ps ∧ (wordsL k L c ps).length ≤ 40) from rfl]
  rw [sort_pairs (by have a1 := pairs_len k (fun L c => decide (Fits k L c ps ∧ (wordsL k L c ps).length ≤ 40)); have a2 := lays_len h2; omega)]
  walk_at "sem"
theorem layers_for_eq {k : Nat} (h1 : 4 ≤ k) (h2 : k ≤ 6) {ws : List Nat} (l1 : 1 ≤ ws.length) (l2 : ws.length ≤ 40) (hw : ∀ w ∈ ws, w < 2 ^ k) : F_layers_for [.d (.int k), .d (wD ws)] = Sim.ret (.list (sortL ((pairsL k fun L c => (partsL k L c 900 ws).isSome).map pairD))) := by
  have hp : 2 ^ k ≤ 2 ^ 6 := Nat.pow_le_pow_right (by decide) h2
  obtain ⟨z', e⟩ := ly_loop (testE (notNE (callF 4 F_packets_in (consA (varE 0) (consA (varE 1) (consA (varE 4) (consA (varE 7) (nilE)))))))) (fun L c => (partsL k L c 900 ws).isSome) (some (.d (.int k))) (some (.d (wD ws))) (some (.d (.list ((laysL k).map Ly.d)))) none none (laysL k) [] none (fun L hL c xs => by
    walk_at "sem"
    rw [packets_in_eq h1 h2 L c (by omega) hw]
    cases partsL k L c 900 ws <;> rfl) (by have := lays_len h2; simp; omega)
  show seq (g_layers_for [some (.d (.int k)), some (.d (wD ws)), none, none, none, none, none, none]) finM = _
  unfold g_layers_for
  walk_at "sem"
  rw [need_words_eq h1 h2 l1 l2 hw]
  walk_at "sem"
  rw [rng_19]
  walk_at "sem"
  rw [lc_mapf (fun i => intD' (1 + i)) (fun i => [some (.d (.int k)), some (.d (wD ws)), none, none, none, some (.d (intD' (1 + i))), none, none]) (fun i => (Ly.fix (1 + i)).d) (List.range 9) (fun i _ => rfl) (fun i _ => rfl)]
  walk_at "sem"
  rw [top_eq h1 h2]
  walk_at "sem"
  rw [show ((2 ^ k : Nat) : Int) - 1 + 1 = ((2 ^ k : Nat) : Int) by omega, rng1_nat (by omega)]
  walk_at "sem"
  rw [if_pos (show 2 ^ k ≤ big from (show 2 ^ k ≤ 1000000 by omega))]
  generalize hX : (List.range 9).map (fun i => (Ly.fix (1 + i)).d) ++ [PyData.tuple [PyData.str "length"]] = XS
  have hXl : XS.length = 10 := by rw [← hX]; rfl
  rw [lc_mapf intD' (fun i => [some (.d (.int k)), some (.d (wD ws)), some (.own XS), none, none, none, some (.d (.int i)), none]) (fun i => (Ly.mark i).d) (List.range (2 ^ k)) (fun i _ => rfl) (fun i _ => rfl)]
  walk_at "sem"
  rw [if_pos (show XS.length + 2 ^ k ≤ big from (show XS.length + 2 ^ k ≤ 1000000 by omega))]
  walk_at "sem"
  rw [show XS ++ (List.range (2 ^ k)).map (fun i => (Ly.mark i).d) = (laysL k).map Ly.d by
    rw [← hX]; unfold laysL; rw [List.map_append, List.map_append, List.map_map, List.map_map]; rfl]
  have e : forF (bndN 4) (lyG (testE (notNE (callF 4 F_packets_in (consA (varE 0) (consA (varE 1) (consA (varE 4) (consA (varE 7) (nilE))))))))) ((laysL k).map Ly.d) [some (.d (.int k)), some (.d (wD ws)), some (.d (.list ((laysL k).map Ly.d))), some (.own []), none, none, none, none] = _ := e
  rw [e]
  walk_at "sem"
  rw [List.nil_append, show ((laysL k).flatMap fun L => (cks.filter fun c => (partsL k L c 900 ws).isSome).map fun c => (L, c)) = pairsL k fun L c => (partsL k L c 900 ws).isSome from rfl]
  rw [sort_pairs (by have a1 := pairs_len k (fun L c => (partsL k L c 900 ws).isSome); have a2 := lays_len h2; omega)]
  walk_at "sem"

/-! ### ticks, later -/
theorem tickS_add (f : Fm) (a : Nat) : ∀ (rs : List (Nat × Nat)) (i : Nat), f.tickS (i + a) rs = (f.tickS i rs).map fun r => (r.1 + a, r.2)
  | [], _ => rfl
  | r :: rs, i => by
    have := tickS_add f a rs (i + r.1 + f.long)
    rw [Fm.tickS, Fm.tickS, List.map_cons, show i + a + r.1 + f.long = i + r.1 + f.long + a by omega, this]
    congr 2
    omega
theorem tickS_len (f : Fm) : ∀ (rs : List (Nat × Nat)) (i : Nat), (f.tickS i rs).length = rs.length
  | [], _ => rfl
  | _ :: rs, i => congrArg (· + 1) (tickS_len f rs _)
theorem tickS_words (f : Fm) : ∀ (rs : List (Nat × Nat)) (i : Nat), (f.tickS i rs).map (·.2) = rs.map fun r => some r.2
  | [], _ => rfl
  | r :: rs, i => by rw [Fm.tickS, List.map_cons, List.map_cons, tickS_words f rs]
theorem pl_hrows (rs : List (Nat × Option Nat)) : Pl 2 (.list (rs.map hrow)) := pl_list fun x hx => by
  obtain ⟨r, _, rfl⟩ := List.mem_map.mp hx
  refine pl_tuple fun y hy => ?_
  simp only [List.mem_cons, List.not_mem_nil, or_false] at hy
  rcases hy with rfl | rfl
  · exact pl_int _ _
  · rcases r.2 with _ | _
    · exact pl_none _
    · exact pl_int _ _
theorem pl_opts (rs : List (Option Nat)) : Pl 1 (.list (rs.map optD)) := pl_list fun x hx => by
  obtain ⟨r, _, rfl⟩ := List.mem_map.mp hx
  rcases r with _ | _
  · exact pl_none _
  · exact pl_int _ _

theorem sortSet_intsN {ns : List Int} (h1 : ns.length ≤ 1000) (h2 : (setSortL ns).length < 64) : sortSetLM (.list (ns.map PyData.int)) = Sim.ret ((setSortL ns).map PyData.int) := by
  simp only [sortSetLM, intsOf_map]
  rw [if_pos ⟨h1, h2⟩]
theorem paces_listN (l : List Nat) : sortSetLM (.list ((fitsL l).map fun f => PyData.int f.p)) = Sim.ret ((pacesL l).map PyData.int) := by
  have h := sortSet_intsN (ns := (fitsL l).map fun f : Fm => (f.p : Int)) (by rw [List.length_map]; have := fits_len l; omega) (paces_len l)
  rw [List.map_map] at h
  exact h
theorem sort_pairsN {xs : List (Ly × Ck)} (h : xs.length ≤ 1000) : sortedDL [.list (xs.map pairD)] = some (sortL (xs.map pairD)) := by
  have e := sort_pairs h
  by_cases hs : sortOkB (xs.map pairD) = true
  · exact if_pos hs
  · rw [show sortedD [.list (xs.map pairD)] = none from if_neg hs] at e; cases e
theorem runs_of_eqN {l : List Nat} (hl : l.length ≤ 1000) : FN_runs_of [.d (.str (txt l))] = Sim.ret ((runsF l).map runD) := by
  show seq (gN_runs_of [some (.d (.str (txt l))), none, none]) finN = _
  unfold gN_runs_of
  walk_at "sem"
  rw [itemsM_txt (by omega)]
  walk_at "sem"
  obtain ⟨z', e⟩ := runs_loop (.d (.str (txt l))) l [] none (by simpa using hl)
  rw [List.map_nil] at e
  rw [e]
  walk_at "sem"
  rw [runs_fold]
theorem runs_eqN {l : List Nat} (hb : Bin l) (h1 : 1 ≤ l.length) (hl : l.length ≤ 200) : FN_runs [.d (.str (txt l))] = Sim.ret ((runsF l).map runD) := by
  show seq (gN_runs [some (.d (.str (txt l)))]) finN = _
  unfold gN_runs
  walk_at "sem"
  rw [need_samples_eq h1 hl hb]
  walk_at "sem"
  rw [runs_of_eqN (by omega)]
  rfl
theorem falls_walkN {l : List Nat} (hb : Bin l) (h1 : 1 ≤ l.length) (hl : l.length ≤ 200) : FN_falls [.d (.str (txt l))] = Sim.ret ((fallsL l).map intD') := by
  show seq (gN_falls [some (.d (.str (txt l))), none]) finN = _
  unfold gN_falls
  walk_at "sem"
  rw [need_samples_eq h1 hl hb]
  walk_at "sem"
  rw [lenD_txt (show l.length ≤ 1000000 by omega)]
  walk_at "sem"
  rw [rng1_nat (by omega)]
  walk_at "sem"
  rw [ite_big (by omega)]
  rw [lc_filterf intD' _ (fallAt l) intD' (List.range l.length) (fun c _ => rfl) (fun i hi => ?_) (fun c hc _ => rfl)]
  · rfl
  · have hi' := List.mem_range.mp hi
    simp only [intD']
    walk_at "sem"
    rw [ixD_txt (show l.length ≤ 1000000 by omega), atI_lt hi']
    walk_at "sem"
    rw [y0, eqD_txt]
    walk_at "sem"
    unfold fallAt
    rw [List.getElem?_eq_getElem hi']
    by_cases h48 : l[i] = 48
    · rw [decide_eq_true (show [l[i]] = [48] by rw [h48]), decide_eq_true (show some l[i] = some 48 by rw [h48])]
      walk_at "sem"
      by_cases h0 : i = 0
      · rw [decide_eq_true (show (i : Int) = 0 by omega), decide_eq_true h0]
        walk_at "sem"
        rfl
      · rw [decide_eq_false (show ¬ (i : Int) = 0 by omega), decide_eq_false h0]
        walk_at "sem"
        rw [show (i : Int) - 1 = ((i - 1 : Nat) : Int) by omega, ixD_txt (show l.length ≤ 1000000 by omega), atI_lt (show i - 1 < l.length by omega)]
        walk_at "sem"
        rw [y1, eqD_txt, List.getElem?_eq_getElem (show i - 1 < l.length by omega)]
        walk_at "sem"
        simp
    · rw [decide_eq_false (show ¬ [l[i]] = [48] by simpa using h48), decide_eq_false (show ¬ some l[i] = some 48 by simpa using h48)]
      walk_at "sem"
      rfl
theorem paces_eqN {l : List Nat} (hb : Bin l) (h1 : 1 ≤ l.length) (hl : l.length ≤ 200) : FN_paces [.d (.str (txt l))] = Sim.ret ((pacesL l).map PyData.int) := by
  show seq (gN_paces [some (.d (.str (txt l))), none]) finN = _
  unfold gN_paces
  walk_at "sem"
  rw [forms_for_eq hb h1 hl]
  rw [show (AFS.filter fun f => (f.readL l).isSome) = fitsL l from rfl]
  walk_at "sem"
  rw [ite_big (by have := fits_len l; omega)]
  rw [lc_mapf Fm.d _ (fun f => PyData.int f.p) (fitsL l) (fun c _ => rfl) (fun f _ => rfl)]
  walk_at "sem"
  rw [paces_listN]
  rfl
theorem forms_for_eqN {l : List Nat} (hb : Bin l) (h1 : 1 ≤ l.length) (hl : l.length ≤ 200) : FN_forms_for [.d (.str (txt l))] = Sim.ret ((AFS.filter fun f => (f.readL l).isSome).map Fm.d) := by
  show seq (gN_forms_for [some (.d (.str (txt l))), none]) finN = _
  unfold gN_forms_for
  walk_at "sem"
  rw [need_samples_eq h1 hl hb]
  walk_at "sem"
  rw [all_formsS]
  walk_at "sem"
  rw [ite_big (by rw [AFS_len]; decide)]
  rw [lc_filterf Fm.d _ (fun f => (f.readL l).isSome) Fm.d AFS (fun c _ => rfl) (fun f hf => ?_) (fun c hc _ => rfl)]
  · rfl
  · walk_at "sem"
    rw [rows_in_eq (AFS_ok f hf) hb (by omega)]
    walk_at "sem"
    cases f.readL l with
    | none => rfl
    | some x => rfl

theorem layers_of_eqN {k : Nat} (h1 : 4 ≤ k) (h2 : k ≤ 6) {ps : List (List Nat)} (h : PkOk k ps) : FN_layers_of [.d (.int k), .d (pkD ps)] = Sim.ret (sortL ((pairsL k fun L c => decide (Fits k L c ps ∧ (wordsL k L c ps).length ≤ 40)).map pairD)) := by
  have hp : 2 ^ k ≤ 2 ^ 6 := Nat.pow_le_pow_right (by decide) h2
  obtain ⟨z', e⟩ := ly_loop (testE (callF 4 F_is_packed (consA (varE 0) (consA (varE 1) (consA (varE 4) (consA (varE 7) (nilE))))))) (fun L c => decide (Fits k L c ps ∧ (wordsL k L c ps).length ≤ 40)) (some (.d (.int k))) (some (.d (pkD ps))) (some (.d (.list ((laysL k).map Ly.d)))) none none (laysL k) [] none (fun L hL c xs => by
    walk_at "sem"
    rw [is_packed_eq h1 h2 h (lays_ok hL) c]
    walk_at "sem") (by have := lays_len h2; simp; omega)
  show seq (gN_layers_of [some (.d (.int k)), some (.d (pkD ps)), none, none, none, none, none, none]) finN = _
  unfold gN_layers_of
  walk_at "sem"
  rw [show F_need_all [.d (.int k), .d (pkD ps), .d (.tuple [.str "length"]), .d (.str "none")] = _ from need_all_eq h1 h2 h (L := .len) trivial .no]
  walk_at "sem"
  rw [rng_19]
  walk_at "sem"
  rw [lc_mapf (fun i => intD' (1 + i)) (fun i => [some (.d (.int k)), some (.d (pkD ps)), none, none, none, some (.d (intD' (1 + i))), none, none]) (fun i => (Ly.fix (1 + i)).d) (List.range 9) (fun i _ => rfl) (fun i _ => rfl)]
  walk_at "sem"
  rw [top_eq h1 h2]
  walk_at "sem"
  rw [show ((2 ^ k : Nat) : Int) - 1 + 1 = ((2 ^ k : Nat) : Int) by omega, rng1_nat (by omega)]
  walk_at "sem"
  rw [if_pos (show 2 ^ k ≤ big from (show 2 ^ k ≤ 1000000 by omega))]
  generalize hX : (List.range 9).map (fun i => (Ly.fix (1 + i)).d) ++ [PyData.tuple [PyData.str "length"]] = XS
  have hXl : XS.length = 10 := by rw [← hX]; rfl
  rw [lc_mapf intD' (fun i => [some (.d (.int k)), some (.d (pkD ps)), some (.own XS), none, none, none, some (.d (.int i)), none]) (fun i => (Ly.mark i).d) (List.range (2 ^ k)) (fun i _ => rfl) (fun i _ => rfl)]
  walk_at "sem"
  rw [if_pos (show XS.length + 2 ^ k ≤ big from (show XS.length + 2 ^ k ≤ 1000000 by omega))]
  walk_at "sem"
  rw [show XS ++ (List.range (2 ^ k)).map (fun i => (Ly.mark i).d) = (laysL k).map Ly.d by
    rw [← hX]; unfold laysL; rw [List.map_append, List.map_append, List.map_map, List.map_map]; rfl]
  have e : forF (bndN 4) (lyG (testE (callF 4 F_is_packed (consA (varE 0) (consA (varE 1) (consA (varE 4) (consA (varE 7) (nilE)))))))) ((laysL k).map Ly.d) [some (.d (.int k)), some (.d (pkD ps)), some (.d (.list ((laysL k).map Ly.d))), some (.own []), none, none, none, none] = _ := e
  rw [e]
  walk_at "sem"
  rw [List.nil_append, show ((laysL k).flatMap fun L => (cks.filter fun c => decide (Fits k L c ps ∧ (wordsL k L c ps).length ≤ 40)).map fun c => (L, c)) = pairsL k fun L c => decide (Fits k L c ps ∧ (wordsL k L c ps).length ≤ 40) from rfl]
  rw [sort_pairsN (by have a1 := pairs_len k (fun L c => decide (Fits k L c ps ∧ (wordsL k L c ps).length ≤ 40)); have a2 := lays_len h2; omega)]
  walk_at "sem"
theorem heard_of_eqN {f : Fm} (hf : f.Ok) {l : List Nat} (hb : Bin l) (hl : l.length ≤ 800000) : FN_heard_of [.d f.d, .d (.str (txt l))] = Sim.ret ((f.heard l).map hrow) := by
  funext s
  have hk : s.ls.length < (⟨s.n, s.ls ++ [newLS f.d]⟩ : Sta).ls.length := by simp
  have h0 : upS ⟨s.n, s.ls ++ [newLS f.d]⟩ s.ls.length (Li.ls f ⟨none, [], []⟩ []) = ⟨s.n, s.ls ++ [newLS f.d]⟩ := upS_self (by
    show (s.ls ++ [newLS f.d])[s.ls.length]? = _
    simp [newLS, Li.ls, optD])
  obtain ⟨y4, y5, y6, x', past', e⟩ := heard_loop hf hk (some (.d f.d)) (some (.d (.str (txt l)))) l 0 ⟨none, [], []⟩ [] [] none none none hb (by simp; omega) (by simp; omega) (by simp; omega) (by simp; omega)
  rw [h0] at e
  show seq (gN_heard_of [some (.d f.d), some (.d (.str (txt l))), none, none, none, none, none]) finN s = _
  have key : (thenS (setN 3 (lstN (nilE))) (thenS (forS (rngE enumSM (consE (varE 1) (nilE))) (bndT [4, 5]) (thenS (setS 6 (methL 2 2 F_L_hear (consA (varE 5) (nilE)))) (ifS (testE (notNE (varE 6))) (appS 3 (tupE (consE (varE 4) (consE (ifE (testE (opE eqD (opE ixD (varE 6) (cE (.int 0))) (cE (.str "word")))) (opE ixD (varE 6) (cE (.int 1))) (cE .none)) (nilE))))) (nextS)))) (rnOwn 3)))
      [some (.d f.d), some (.d (.str (txt l))), some (.lis s.ls.length), none, none, none, none] ⟨s.n, s.ls ++ [newLS f.d]⟩ = .ok (.rn ((f.heard l).map hrow)) (upS ⟨s.n, s.ls ++ [newLS f.d]⟩ s.ls.length (x'.ls f past')) := by
    walk_at "sem"
    rw [enumSM_txt (by omega)]
    walk_at "sem"
    have e2 : seq (forF (bndT [4, 5]) (thenS (setS 6 (methL 2 2 F_L_hear (consA (varE 5) (nilE)))) (ifS (testE (notNE (varE 6))) (appS 3 (tupE (consE (varE 4) (consE (ifE (testE (opE eqD (opE ixD (varE 6) (cE (.int 0))) (cE (.str "word")))) (opE ixD (varE 6) (cE (.int 1))) (cE .none)) (nilE))))) (nextS))) (enumF 0 l)
      [some (.d f.d), some (.d (.str (txt l))), some (.lis s.ls.length), some (.own []), none, none, none]) (thenM (rnOwn 3)) ⟨s.n, s.ls ++ [newLS f.d]⟩ = .ok (.rn ((f.heard l).map hrow)) (upS ⟨s.n, s.ls ++ [newLS f.d]⟩ s.ls.length (x'.ls f past')) := by
      simp only [List.map_nil] at e
      simp only [seq, e]
      rw [thenM_n]
      walk_at "sem"
      rfl
    exact e2
  unfold gN_heard_of newS
  simp only [varE, List.getElem?_cons_zero, varM, seq_r]
  unfold makeM
  rw [need_form_eq hf, seq_r, if_pos (show noList f.d = true from rfl)]
  simp only [seq, newL, List.set_cons_succ, List.set_cons_zero, key, isRet, if_true, finN, Sim.ret, upS]
  congr 1
  obtain ⟨n, ls⟩ := s
  simp

theorem heard_eqN {f : Fm} (hf : f.Ok) {l : List Nat} (hb : Bin l) (h1 : 1 ≤ l.length) (hl : l.length ≤ 200) : FN_heard [.d f.d, .d (.str (txt l))] = Sim.ret ((f.heard l).map hrow) := by
  show seq (gN_heard [some (.d f.d), some (.d (.str (txt l)))]) finN = _
  unfold gN_heard
  walk_at "sem"
  rw [need_form_eq hf]
  walk_at "sem"
  rw [need_samples_eq h1 hl hb]
  walk_at "sem"
  rw [heard_of_eqN hf hb (by omega)]
  walk_at "sem"
theorem samples_any (ns : List Int) {f : Fm} (hf : f.Ok) {most : Nat} (hm2 : most ≤ 900) : Ok 14 (F__law_samples [.scr ns, .town, .d f.d, .d (.int most)]) fun d => ∃ (rs : List (Nat × Nat)) (rest : Nat), Smp f (most + 60) rs ∧ rest ≤ 8 ∧ d = .tuple [.str (txt (f.sentL rs rest)), rowsD rs, .int rest] := by
  have hL := Fm.long_le hf
  have hp : 2 ^ f.b ≤ 2 ^ 6 := Nat.pow_le_pow_right (by decide) hf.b2
  have hp2 : 2 ^ 4 ≤ 2 ^ f.b := Nat.pow_le_pow_right (by decide) hf.b1
  have e1 : ixD f.d (.int 1) = some (.int f.b) := by unfold Fm.d; rw [ixD_t, atI_1]
  show Ok 14 (seq (g__law_samples [some (.scr ns), some .town, some (.d f.d), some (.d (.int most)), none, none, none, none, none, none, none]) finM) _
  unfold g__law_samples
  walk_at "sem"
  refine Ok.step (draw_ok ns 4 (by decide)) (by decide) fun d hd => ?_
  obtain ⟨v, rfl, v0, v1⟩ := hd
  obtain ⟨m, rfl⟩ : ∃ w : Nat, v = w := ⟨v.toNat, by omega⟩
  try walk_at "sem"
  rw [show (1 : Int) + (m : Int) = ((1 + m : Nat) : Int) by omega, rng1_nat (by omega)]
  walk_at "sem"
  refine Ok.step (for_ok (k := 3) (SampJ ns f most) ((List.range (1 + m)).map intD') [] _ ⟨[], none, none, none, none, Nat.le_refl _, (fun _ h => by cases h), (fun _ h => by cases h), Nat.zero_le _, by rw [x0]; rfl⟩ ?_) (by simp only [List.length_map, List.length_range]; omega) fun fl hfl => ?_
  · rintro pre d post env ⟨rs, a, b, c, e, hrl, hg, hw, hlen, rfl⟩ _
    refine ⟨_, rfl, ?_⟩
    walk_at "sem"
    refine Ok.step (pick_ok ns _ (by simp)) (by decide) fun x hx => ?_
    obtain ⟨k, hk1, hk2, rfl⟩ : ∃ k : Nat, 1 ≤ k ∧ k ≤ 12 ∧ x = .int k := by
      simp only [List.mem_cons, List.not_mem_nil, or_false] at hx
      rcases hx with rfl | rfl | rfl
      · exact ⟨1, by decide, by decide, rfl⟩
      · exact ⟨4, by decide, by decide, rfl⟩
      · exact ⟨12, by decide, by decide, rfl⟩
    try walk_at "sem"
    refine Ok.step (draw_ok ns k (by omega)) (by decide) fun x hx => ?_
    obtain ⟨v, rfl, v0, v1⟩ := hx
    obtain ⟨g, rfl⟩ : ∃ w : Nat, v = w := ⟨v.toNat, by omega⟩
    try walk_at "sem"
    rw [e1]
    walk_at "sem"
    rw [top_at hf.b1 hf.b2]
    walk_at "sem"
    refine Ok.step (draw_ok ns _ (by omega)) (by decide) fun x hx => ?_
    obtain ⟨v, rfl, v0, v1⟩ := hx
    obtain ⟨w, rfl⟩ : ∃ w : Nat, v = w := ⟨v.toNat, by omega⟩
    try walk_at "sem"
    rw [law_frame_eq hf]
    walk_at "sem"
    rw [x1, mul_bit (by omega)]
    walk_at "sem"
    rw [addD_txt (by rw [List.length_replicate, Fm.fr_len]; show g + f.long ≤ 1000000; omega)]
    rw [show List.replicate g 49 ++ f.fr w = f.part (g, w) from rfl]
    walk_at "sem"
    have hpl := f.part_len (g, w)
    rw [addD_txt (by rw [hpl]; show _ + (g + f.long) ≤ 1000000; omega)]
    walk_at "sem"
    have hfl : rs.flatMap f.part ++ f.part (g, w) = (rs ++ [(g, w)]).flatMap f.part := by simp
    rw [hfl]
    have hlen2 : ((rs ++ [(g, w)]).flatMap f.part).length = (rs.flatMap f.part).length + (g + f.long) := by rw [← hfl, List.length_append, hpl]
    rw [lenD_txt (show _ ≤ 1000000 by omega)]
    walk_at "sem"
    by_cases hfit : ((rs ++ [(g, w)]).flatMap f.part).length ≤ most
    · rw [decide_eq_true (show ((((rs ++ [(g, w)]).flatMap f.part).length : Nat) : Int) ≤ (most : Int) by omega)]
      walk_at "sem"
      rw [show addD (rowsD rs) (.tuple [.tuple [.int g, .int w]]) = some (rowsD (rs ++ [(g, w)])) by
        unfold rowsD
        rw [addD_tt (by rw [List.length_map]; show rs.length + 1 ≤ 1000000; have := rows_le_len hL.1 rs; omega), List.map_append]; rfl]
      try rw [addD_txt (by rw [hpl]; show _ + (g + f.long) ≤ 1000000; omega), hfl]
      walk_at "sem"
      refine Ok.ret ⟨_, rfl, rs ++ [(g, w)], _, _, _, _, ?_, ?_, ?_, hfit, rfl⟩
      · rw [List.length_append, List.length_append]; simp; omega
      · intro r hr
        rcases List.mem_append.mp hr with h | h
        · exact hg r h
        · rw [List.mem_singleton.mp h]; show g ≤ 11; omega
      · intro r hr
        rcases List.mem_append.mp hr with h | h
        · exact hw r h
        · rw [List.mem_singleton.mp h]; show w < 2 ^ f.b; omega
    · rw [decide_eq_false (show ¬ ((((rs ++ [(g, w)]).flatMap f.part).length : Nat) : Int) ≤ (most : Int) by omega)]
      walk_at "sem"
      refine Ok.ret ⟨_, rfl, rs, _, _, _, _, ?_, hg, hw, hlen, rfl⟩
      rw [List.length_append]; omega
  · obtain ⟨env', rfl, rs, a, b, c, e, hrl, hg, hw, hlen, rfl⟩ := hfl
    simp only [List.nil_append, List.length_map, List.length_range] at hrl
    walk_at "sem"
    rw [eq_rows_nil]
    walk_at "sem"
    have fin : ∀ (a b c e : Option SV) (rs : List (Nat × Nat)), Smp f (most + 60) rs → Ok 1 (seq (F__law_draw [.scr ns, .town, .d (.int 9)]) fun x => seq (lift (mulD (.str "1") x)) fun y => seq (lift (addD (.str (txt (rs.flatMap f.part))) y)) fun z => Sim.ret (PyData.tuple [z, rowsD rs, x])) fun d => ∃ (rs : List (Nat × Nat)) (rest : Nat), Smp f (most + 60) rs ∧ rest ≤ 8 ∧ d = .tuple [.str (txt (f.sentL rs rest)), rowsD rs, .int rest] := by
      intro a b c e rs hs
      have hlen := hs.len
      refine Ok.step (draw_ok ns 9 (by decide)) (by decide) fun x hx => ?_
      obtain ⟨v, rfl, v0, v1⟩ := hx
      obtain ⟨rest, rfl⟩ : ∃ w : Nat, v = w := ⟨v.toNat, by omega⟩
      rw [x1, mul_bit (by omega)]
      walk_at "sem"
      rw [addD_txt (by rw [List.length_replicate]; show _ ≤ 1000000; omega)]
      walk_at "sem"
      exact Ok.ret ⟨rs, rest, hs, by omega, rfl⟩
    by_cases h0 : rs = []
    · rw [decide_eq_true h0]
      walk_at "sem"
      rw [show F__law_frame [.d f.d, .d (.int 1)] = _ from law_frame_eq hf 1]
      walk_at "sem"
      have hfl : f.fr 1 = ([(0, 1)] : List (Nat × Nat)).flatMap f.part := by simp [Fm.part]
      rw [hfl]
      refine (fin none none none none [(0, 1)] ⟨Nat.le_refl _, (by decide), (fun r hr => by rw [List.mem_singleton.mp hr]; exact Nat.zero_le _), (fun r hr => by rw [List.mem_singleton.mp hr]; show 1 < 2 ^ f.b; omega), by rw [← hfl, Fm.fr_len]; show f.long ≤ most + 60; omega⟩).mono (by omega) fun _ h => h
    · rw [decide_eq_false h0]
      walk_at "sem"
      exact (fin none none none none rs ⟨List.length_pos_iff.mpr h0, by omega, hg, hw, Nat.le_trans hlen (Nat.le_add_right _ _)⟩).mono (by omega) fun _ h => h

def turnL (l : List Nat) (a : Nat) : List Nat := (List.range l.length).map fun i => if i = a then 97 - l.getD i 0 else l.getD i 0
theorem turnL_bin {l : List Nat} (hb : Bin l) (a : Nat) : Bin (turnL l a) := fun c hc => by
  obtain ⟨i, hi, rfl⟩ := List.mem_map.mp hc
  have hi' := List.mem_range.mp hi
  have e : l.getD i 0 = l[i] := by simp [List.getD, hi']
  have := hb l[i] (List.getElem_mem hi')
  rw [e]
  split <;> omega
theorem turnL_len (l : List Nat) (a : Nat) : (turnL l a).length = l.length := by simp [turnL]
theorem pick_10 {c : Nat} (h : c = 48 ∨ c = 49) : ixD (.str "10") (.int ((c - 48 : Nat) : Int)) = some (.str (txt [97 - c])) := by
  rw [show ("10" : Str) = txt [49, 48] from by decide +kernel, ixD_txt (by decide)]
  rcases h with rfl | rfl <;> rfl
theorem join_signs {cs : List Nat} (h : cs.length ≤ 1000) : joinD (.str "") [.list (cs.map fun c => .str (txt [c]))] = some (.str (txt cs)) := by
  have e := joinD_txt (ls := cs.map fun c => [c]) (by
    rw [List.map_map]
    have : (cs.map (List.length ∘ fun c => [c])).sum = cs.length := by
      clear h
      induction cs with
      | nil => rfl
      | cons c cs ih => simp only [List.map_cons, List.sum_cons, ih, List.length_cons, Function.comp]; simp; omega
    rw [this]; exact Nat.le_trans h (show 1000 ≤ 1000000 by decide))
  rw [List.map_map] at e
  have e2 : (cs.map fun c => [c]).flatten = cs := by
    clear h e
    induction cs with
    | nil => rfl
    | cons c cs ih => rw [List.map_cons, List.flatten_cons, ih]; rfl
  rw [e2] at e
  exact e
theorem heard_again_eq {f : Fm} (hf : f.Ok) {l : List Nat} (hb : Bin l) (hl : l.length ≤ 200) (a : Nat) : F_heard_again [.d f.d, .d (.str (txt l)), .d (.list [.int a])] = Sim.ret (.list ((f.heard (turnL l a)).map hrow)) := by
  show seq (g_heard_again [some (.d f.d), some (.d (.str (txt l))), some (.d (.list [.int a])), none, none]) finM = _
  unfold g_heard_again
  walk_at "sem"
  rw [lenD_txt (show l.length ≤ 1000000 by omega)]
  walk_at "sem"
  rw [rng1_nat (by omega)]
  walk_at "sem"
  rw [ite_big (by omega)]
  rw [lc_mapf intD' (fun i => [some (.d f.d), some (.d (.str (txt l))), some (.d (.list [.int a])), none, some (.d (intD' i))]) (fun i => .str (txt [if i = a then 97 - l.getD i 0 else l.getD i 0])) (List.range l.length) (fun c _ => rfl) (fun i hi => ?_)]
  · walk_at "sem"
    rw [show (List.range l.length).map (fun i => PyData.str (txt [if i = a then 97 - l.getD i 0 else l.getD i 0])) = (turnL l a).map fun c => .str (txt [c]) by unfold turnL; rw [List.map_map]; rfl]
    rw [join_signs (by rw [turnL_len]; omega)]
    walk_at "sem"
    rw [heard_of_eq hf (turnL_bin hb a) (by rw [turnL_len]; omega)]
    walk_at "sem"
  · have hi' := List.mem_range.mp hi
    have e : l.getD i 0 = l[i] := by simp [List.getD, hi']
    simp only [intD']
    walk_at "sem"
    rw [show notInD (.int i) (.list [.int a]) = _ from notin_nats i [a]]
    walk_at "sem"
    rw [e]
    by_cases h : i = a
    · rw [decide_eq_true (show i ∈ [a] by simp [h]), if_pos h]
      walk_at "sem"
      rw [ixD_txt (show l.length ≤ 1000000 by omega), atI_lt hi']
      walk_at "sem"
      rw [int_sign (hb _ (List.getElem_mem hi'))]
      walk_at "sem"
      rw [pick_10 (hb _ (List.getElem_mem hi'))]
      rfl
    · rw [decide_eq_false (show ¬ i ∈ [a] by simp [h]), if_neg h]
      walk_at "sem"
      rw [ixD_txt (show l.length ≤ 1000000 by omega), atI_lt hi']
      rfl
def faultyB (f : Fm) (l : List Nat) (a : Nat) : Bool := !PyData.eqv (.list ((f.heard (turnL l a)).map hrow)) (.list ((f.heard l).map hrow))
theorem ne_hrows (A B : List (Nat × Option Nat)) : neD (.list (A.map hrow)) (.list (B.map hrow)) = some (.bool (!PyData.eqv (.list (A.map hrow)) (.list (B.map hrow)))) := by
  unfold neD
  rw [if_pos]
  have := (pl_hrows A).2
  omega
theorem faulty_eq {f : Fm} (hf : f.Ok) {l : List Nat} (hb : Bin l) (h1 : 1 ≤ l.length) (hl : l.length ≤ 200) : F_faulty_ticks [.d f.d, .d (.str (txt l))] = Sim.ret (.list (((List.range l.length).filter (faultyB f l)).map intD')) := by
  show seq (g_faulty_ticks [some (.d f.d), some (.d (.str (txt l))), none, none]) finM = _
  unfold g_faulty_ticks
  walk_at "sem"
  rw [need_form_eq hf]
  walk_at "sem"
  rw [need_samples_eq h1 hl hb]
  walk_at "sem"
  rw [heard_of_eq hf hb (by omega)]
  walk_at "sem"
  rw [lenD_txt (show l.length ≤ 1000000 by omega)]
  walk_at "sem"
  rw [rng1_nat (by omega)]
  walk_at "sem"
  rw [ite_big (by omega)]
  rw [lc_filterf intD' _ (faultyB f l) intD' (List.range l.length) (fun c _ => rfl) (fun i hi => ?_) (fun c hc _ => rfl)]
  · rfl
  · simp only [intD']
    walk_at "sem"
    rw [heard_again_eq hf hb hl]
    walk_at "sem"
    rw [ne_hrows]
    rfl
theorem faulty_eqN {f : Fm} (hf : f.Ok) {l : List Nat} (hb : Bin l) (h1 : 1 ≤ l.length) (hl : l.length ≤ 200) : FN_faulty_ticks [.d f.d, .d (.str (txt l))] = Sim.ret (((List.range l.length).filter (faultyB f l)).map intD') := by
  show seq (gN_faulty_ticks [some (.d f.d), some (.d (.str (txt l))), none, none]) finN = _
  unfold gN_faulty_ticks
  walk_at "sem"
  rw [need_form_eq hf]
  walk_at "sem"
  rw [need_samples_eq h1 hl hb]
  walk_at "sem"
  rw [heard_of_eq hf hb (by omega)]
  walk_at "sem"
  rw [lenD_txt (show l.length ≤ 1000000 by omega)]
  walk_at "sem"
  rw [rng1_nat (by omega)]
  walk_at "sem"
  rw [ite_big (by omega)]
  rw [lc_filterf intD' _ (faultyB f l) intD' (List.range l.length) (fun c _ => rfl) (fun i hi => ?_) (fun c hc _ => rfl)]
  · rfl
  · simp only [intD']
    walk_at "sem"
    rw [heard_again_eq hf hb hl]
    walk_at "sem"
    rw [ne_hrows]
    rfl

theorem pl_le {k j : Nat} {d : D} (h : Pl k d) (hk : k ≤ j) : Pl j d := ⟨h.1, Nat.le_trans h.2 hk⟩
theorem pl_natl (A : List Nat) : Pl 1 (.list (A.map intD')) := pl_list fun x hx => by
  obtain ⟨r, _, rfl⟩ := List.mem_map.mp hx
  exact pl_int _ _
theorem pl_forms (A : List Fm) : Pl 2 (.list (A.map Fm.d)) := pl_list fun x hx => by
  obtain ⟨r, _, rfl⟩ := List.mem_map.mp hx
  exact pl_form r
theorem lisL_len (f : Fm) : ∀ (l : List Nat) (i : Nat) (x : Li), (f.lisL i x l).length ≤ l.length
  | [], _, _ => Nat.le_refl _
  | c :: l, i, x => by
    have ih := lisL_len f l (i + 1) (f.hearL x c).2
    rw [Fm.lisL, List.length_append, List.length_cons]
    split
    · simp; omega
    · simp; omega
def pairsS (xs : List (Ly × Ck)) : List (Ly × Ck) := xs.mergeSort fun a b => PySem.W.dataLe false (fun d : D => d) (pairD a) (pairD b)
theorem pairsS_map (xs : List (Ly × Ck)) : sortL (xs.map pairD) = (pairsS xs).map pairD := (List.map_mergeSort (f := pairD) (r := fun a b : Ly × Ck => PySem.W.dataLe false (fun d : D => d) (pairD a) (pairD b)) (s := PySem.W.dataLe false fun d : D => d) (l := xs) (fun _ _ _ _ => rfl)).symm
theorem pl_pairs40 (xs : List (Ly × Ck)) : Pl 3 (.list (xs.map pairD)) := pl_list fun x hx => by
  obtain ⟨p, _, rfl⟩ := List.mem_map.mp hx
  exact pl_pair p
theorem pairsS_len (xs : List (Ly × Ck)) : (pairsS xs).length = xs.length := List.length_mergeSort xs
structure AskOk (w : Int) (f : Fm) (l : List Nat) (ps : List (List Nat)) (xs : List D) : Prop where
  plain : F__law_ask [.d (.int w), .d f.d, .d (.str (txt l)), .d (pkD ps)] = Sim.ret (.list xs)
  new : FN__law_ask [.d (.int w), .d f.d, .d (.str (txt l)), .d (pkD ps)] = Sim.ret xs
  pl : Pl 5 (.list xs)
  len : xs.length ≤ 1000
theorem ones9 : mulD (.str "1") (.int 9) = some (.str (txt (List.replicate 9 49))) := by
  rw [x1]; exact mul_bit (by decide)
section
variable {f : Fm} (hf : f.Ok) (h4 : f.b = 4) {l : List Nat} (hb : Bin l) (h1 : 1 ≤ l.length) (hl : l.length ≤ 100) {ps : List (List Nat)} (hp : PkOk 4 ps)
theorem ask_0 (hb : Bin l) (h1 : 1 ≤ l.length) (hl : l.length ≤ 100) : AskOk 0 f l ps ((runsF l).map runD) := by
  refine ⟨?_, ?_, pl_le (pl_runs _) (by decide), by rw [List.length_map]; have := runsF_count l; omega⟩
  · show seq (g__law_ask [some (.d (.int 0)), some (.d f.d), some (.d (.str (txt l))), some (.d (pkD ps))]) finM = _
    unfold g__law_ask
    walk_at "sem"
    rw [runs_eq hb h1 (by omega)]
    rfl
  · show seq (gN__law_ask [some (.d (.int 0)), some (.d f.d), some (.d (.str (txt l))), some (.d (pkD ps))]) finN = _
    unfold gN__law_ask
    walk_at "sem"
    rw [runs_eqN hb h1 (by omega)]
    rfl
theorem ask_1 (hb : Bin l) (h1 : 1 ≤ l.length) (hl : l.length ≤ 100) : AskOk 1 f l ps ((pacesL l).map PyData.int) := by
  refine ⟨?_, ?_, pl_le (pl_ints _) (by decide), by rw [List.length_map]; have := paces_len l; omega⟩
  · show seq (g__law_ask [some (.d (.int 1)), some (.d f.d), some (.d (.str (txt l))), some (.d (pkD ps))]) finM = _
    unfold g__law_ask
    walk_at "sem"
    rw [paces_eq hb h1 (by omega)]
    rfl
  · show seq (gN__law_ask [some (.d (.int 1)), some (.d f.d), some (.d (.str (txt l))), some (.d (pkD ps))]) finN = _
    unfold gN__law_ask
    walk_at "sem"
    rw [paces_eqN hb h1 (by omega)]
    rfl
theorem ask_2 (hb : Bin l) (h1 : 1 ≤ l.length) (hl : l.length ≤ 100) : AskOk 2 f l ps ((fallsL l).map intD') := by
  refine ⟨?_, ?_, pl_le (pl_natl _) (by decide), ?_⟩
  · show seq (g__law_ask [some (.d (.int 2)), some (.d f.d), some (.d (.str (txt l))), some (.d (pkD ps))]) finM = _
    unfold g__law_ask
    walk_at "sem"
    rw [falls_walk hb h1 (by omega)]
    rfl
  · show seq (gN__law_ask [some (.d (.int 2)), some (.d f.d), some (.d (.str (txt l))), some (.d (pkD ps))]) finN = _
    unfold gN__law_ask
    walk_at "sem"
    rw [falls_walkN hb h1 (by omega)]
    rfl
  · rw [List.length_map]
    have h : (fallsL l).length ≤ (List.range l.length).length := List.length_filter_le _ _
    rw [List.length_range] at h
    omega
theorem ask_3 (hf : f.Ok) (hb : Bin l) (h1 : 1 ≤ l.length) (hl : l.length ≤ 100) : AskOk 3 f l ps ((f.heard (l ++ List.replicate 9 49)).map hrow) := by
  have hb' : Bin (l ++ List.replicate 9 49) := fun c hc => by
    rcases List.mem_append.mp hc with h | h
    · exact hb c h
    · exact .inr (List.mem_replicate.mp h).2
  have hl' : (l ++ List.replicate 9 49).length = l.length + 9 := by simp
  refine ⟨?_, ?_, pl_le (pl_hrows _) (by decide), ?_⟩
  · show seq (g__law_ask [some (.d (.int 3)), some (.d f.d), some (.d (.str (txt l))), some (.d (pkD ps))]) finM = _
    unfold g__law_ask
    walk_at "sem"
    rw [ones9]
    walk_at "sem"
    rw [addD_txt (by rw [List.length_replicate]; show l.length + 9 ≤ 1000000; omega)]
    walk_at "sem"
    rw [heard_eq hf hb' (by omega) (by omega)]
    rfl
  · show seq (gN__law_ask [some (.d (.int 3)), some (.d f.d), some (.d (.str (txt l))), some (.d (pkD ps))]) finN = _
    unfold gN__law_ask
    walk_at "sem"
    rw [ones9]
    walk_at "sem"
    rw [addD_txt (by rw [List.length_replicate]; show l.length + 9 ≤ 1000000; omega)]
    walk_at "sem"
    rw [heard_eqN hf hb' (by omega) (by omega)]
    rfl
  · rw [List.length_map]
    have h : (f.heard (l ++ List.replicate 9 49)).length ≤ _ := lisL_len f _ _ _
    omega
theorem ask_4 (h4 : f.b = 4) (hp : PkOk 4 ps) : AskOk 4 f l ps (sortL ((pairsL 4 fun L c => decide (Fits 4 L c ps ∧ (wordsL 4 L c ps).length ≤ 40)).map pairD)) := by
  have e1 : ixD f.d (.int 1) = some (.int (4 : Nat)) := by unfold Fm.d; rw [ixD_t, atI_1, h4]
  refine ⟨?_, ?_, ?_, ?_⟩
  · show seq (g__law_ask [some (.d (.int 4)), some (.d f.d), some (.d (.str (txt l))), some (.d (pkD ps))]) finM = _
    unfold g__law_ask
    walk_at "sem"
    rw [e1, lift_s, seq_r]
    rw [layers_of_eq (by decide) (by decide) hp]
    rfl
  · show seq (gN__law_ask [some (.d (.int 4)), some (.d f.d), some (.d (.str (txt l))), some (.d (pkD ps))]) finN = _
    unfold gN__law_ask
    walk_at "sem"
    rw [e1, lift_s, seq_r]
    rw [layers_of_eqN (by decide) (by decide) hp]
    rfl
  · rw [pairsS_map]; exact pl_le (pl_pairs40 _) (by decide)
  · rw [pairsS_map, List.length_map, pairsS_len]
    have a1 := pairs_len 4 (fun L c => decide (Fits 4 L c ps ∧ (wordsL 4 L c ps).length ≤ 40))
    have a2 := lays_len (k := 4) (by decide)
    omega
theorem ask_5 (hf : f.Ok) (hb : Bin l) (h1 : 1 ≤ l.length) (hl : l.length ≤ 100) : AskOk 5 f l ps (((List.range l.length).filter (faultyB f l)).map intD') := by
  refine ⟨?_, ?_, pl_le (pl_natl _) (by decide), ?_⟩
  · show seq (g__law_ask [some (.d (.int 5)), some (.d f.d), some (.d (.str (txt l))), some (.d (pkD ps))]) finM = _
    unfold g__law_ask
    walk_at "sem"
    rw [faulty_eq hf hb h1 (by omega)]
    rfl
  · show seq (gN__law_ask [some (.d (.int 5)), some (.d f.d), some (.d (.str (txt l))), some (.d (pkD ps))]) finN = _
    unfold gN__law_ask
    walk_at "sem"
    rw [faulty_eqN hf hb h1 (by omega)]
    rfl
  · rw [List.length_map]
    have h : ((List.range l.length).filter (faultyB f l)).length ≤ (List.range l.length).length := List.length_filter_le _ _
    rw [List.length_range] at h
    omega
theorem ask_6 (hb : Bin l) (h1 : 1 ≤ l.length) (hl : l.length ≤ 100) : AskOk 6 f l ps ((AFS.filter fun f => (f.readL l).isSome).map Fm.d) := by
  refine ⟨?_, ?_, pl_le (pl_forms _) (by decide), ?_⟩
  · show seq (g__law_ask [some (.d (.int 6)), some (.d f.d), some (.d (.str (txt l))), some (.d (pkD ps))]) finM = _
    unfold g__law_ask
    walk_at "sem"
    rw [forms_for_eq hb h1 (by omega)]
    rfl
  · show seq (gN__law_ask [some (.d (.int 6)), some (.d f.d), some (.d (.str (txt l))), some (.d (pkD ps))]) finN = _
    unfold gN__law_ask
    walk_at "sem"
    rw [forms_for_eqN hb h1 (by omega)]
    rfl
  · rw [List.length_map]
    have := fits_len l
    unfold fitsL at this
    omega
theorem ask_all (hf : f.Ok) (h4 : f.b = 4) (hb : Bin l) (h1 : 1 ≤ l.length) (hl : l.length ≤ 100) (hp : PkOk 4 ps) (v : Int) : ∃ xs, AskOk (v % 7) f l ps xs := by
  have : v % 7 = 0 ∨ v % 7 = 1 ∨ v % 7 = 2 ∨ v % 7 = 3 ∨ v % 7 = 4 ∨ v % 7 = 5 ∨ v % 7 = 6 := by omega
  rcases this with h | h | h | h | h | h | h <;> rw [h]
  · exact ⟨_, ask_0 hb h1 hl⟩
  · exact ⟨_, ask_1 hb h1 hl⟩
  · exact ⟨_, ask_2 hb h1 hl⟩
  · exact ⟨_, ask_3 hf hb h1 hl⟩
  · exact ⟨_, ask_4 h4 hp⟩
  · exact ⟨_, ask_5 hf hb h1 hl⟩
  · exact ⟨_, ask_6 hb h1 hl⟩
end
def Fm.four (f : Fm) : Fm := { f with b := 4 }
theorem Fm.four_ok {f : Fm} (hf : f.Ok) : f.four.Ok := ⟨hf.p1, hf.p2, Nat.le_refl 4, (by decide : 4 ≤ 6), hf.q2, hf.s1, hf.s2⟩
theorem cut_to1 {α : Type} (a b c d e : α) : cutL [a, b, c, d, e] none (some 1) = [a] := rfl
theorem cut_from2 {α : Type} (a b c d e : α) : cutL [a, b, c, d, e] (some 2) none = [c, d, e] := rfl
theorem pl_pk (ps : List (List Nat)) : Pl 3 (pkD ps) := pl_list fun x hx => by
  obtain ⟨p, _, rfl⟩ := List.mem_map.mp hx
  exact pl_tuple fun y hy => by
    obtain ⟨w, _, rfl⟩ := List.mem_map.mp hy
    exact pl_int _ _
theorem ixN_0 (n : Nat) (h : 1 ≤ n) : ixN n 0 = some 0 := by
  unfold ixN
  simp
  omega
theorem hlaw (ns : List Int) (_ : ns.length ≤ 63) : ∃ n, lawR 16 g_law ns = .ok (.bool true) n := by
  refine law_of ?_
  show Ok 1000000 (g_law [some (.scr ns), some .town, none, none, none, none, none, none, none, none, none, none, none, none, none, none]) _
  unfold g_law
  walk_at "sem"
  refine Ok.step (draw_ok ns 7 (by decide)) (by decide) fun d hd => ?_
  obtain ⟨v, rfl, v0, v1⟩ := hd
  try walk_at "sem"
  refine Ok.step (form_ok ns) (by decide) fun d hd => ?_
  obtain ⟨f, hf, rfl⟩ := hd
  try walk_at "sem"
  refine Ok.step (samples_any ns hf (most := 40) (by decide)) (by decide) fun d hd => ?_
  obtain ⟨rs, rest, _, _, rfl⟩ := hd
  try walk_at "sem"
  refine Ok.step (packets_ok ns (k := 4) (most := 3) (by decide) (by decide) (by decide) (by decide)) (by decide) fun d hd => ?_
  obtain ⟨ps, rfl, ⟨l1, l2⟩, hps⟩ := hd
  have hpk : PkOk 4 ps := ⟨⟨l1, by omega⟩, fun p hp => ⟨⟨(hps p hp).1.1, by have := (hps p hp).1.2; omega⟩, (hps p hp).2⟩⟩
  try walk_at "sem"
  rw [show sliceD f.d none (some 1) = some (.tuple [.int f.p]) from rfl]
  walk_at "sem"
  rw [show addD (.tuple [.int f.p]) (.tuple [.int 4]) = some (.tuple [.int f.p, .int 4]) from rfl]
  walk_at "sem"
  rw [show sliceD f.d (some 2) none = some (.tuple [.str (ordT f.lo), .str (parT f.q), .int f.s]) from rfl]
  walk_at "sem"
  rw [show addD (.tuple [.int f.p, .int 4]) (.tuple [.str (ordT f.lo), .str (parT f.q), .int f.s]) = some f.four.d from rfl]
  walk_at "sem"
  have h4 := Fm.four_ok hf
  rw [show F__law_frame [.d f.four.d, .d (.int 5)] = _ from law_frame_eq h4 5]
  walk_at "sem"
  rw [show listD [pkD ps] = some (pkD ps) from rfl]
  walk_at "sem"
  generalize hg : f.four = g at h4
  have hb4 : g.b = 4 := by rw [← hg]; rfl
  have hlen : (g.fr 5).length = g.long := Fm.fr_len g 5
  have hL := Fm.long_le h4
  generalize hl : g.fr 5 = l at hlen
  have hb : Bin l := by rw [← hl]; exact Fm.fr_bin g 5
  unfold g_law_1
  walk_at "sem"
  rw [show rng1M [.int 7] = Sim.ret ((List.range 7).map intD') from rfl]
  walk_at "sem"
  refine Ok.step (for_okm (k := 1) intD' (List.range 7) (fun _ env => ∃ a7 a8 a9 a10 a11 : Option SV, env = [some (.scr ns), some .town, some (.d (.int v)), some (.d g.d), some (.d (.str (txt l))), some (.d (pkD ps)), some (.d (pkD ps)), a7, a8, a9, a10, a11, none, none, none, none]) ⟨_, _, _, _, _, rfl⟩ ?_) (by decide) fun fl hfl => ?_
  · rintro pre c post env _ ⟨a7, a8, a9, a10, a11, rfl⟩
    refine ⟨_, rfl, ?_⟩
    simp only [intD']
    walk_at "sem"
    rw [mulD_ii (by left; decide)]
    walk_at "sem"
    rw [modD_ii (by decide)]
    walk_at "sem"
    obtain ⟨xs, hx⟩ := ask_all (f := g) (l := l) (ps := ps) h4 hb4 hb (by omega) (by omega) hpk (v + 3 * (c : Int))
    have hlx := hx.len
    rw [hx.new]
    walk_at "sem"
    rw [show listD [.list xs] = some (.list xs) from rfl]
    walk_at "sem"
    rw [ite_lt_big (by omega)]
    walk_at "sem"
    rw [ixN_0 _ (by simp)]
    walk_at "sem"
    rw [hx.plain]
    walk_at "sem"
    rw [neD_refl hx.pl (by decide)]
    walk_at "sem"
    exact Ok.ret ⟨_, rfl, _, _, _, _, _, rfl⟩
  · obtain ⟨env', rfl, a7, a8, a9, a10, a11, rfl⟩ := hfl
    walk_at "sem"
    rw [runs_eq hb (by omega) (by omega)]
    walk_at "sem"
    rw [show listD [.list ((runsF l).map runD)] = some (.list ((runsF l).map runD)) from rfl]
    walk_at "sem"
    have hne : runsF l ≠ [] := fun e => by
      have := runsF_flat l
      rw [e] at this
      rw [← this] at hlen
      simp [flatR] at hlen
      omega
    rw [from_runs_eq hne (runsF_alt l) (fun r hr => hb _ (runsF_sign hr)) (fun r hr => by have := runsF_many hr; omega) (by have := runsF_count l; omega) (by rw [runsF_flat]; omega)]
    walk_at "sem"
    rw [show F_layers_of [.d (.int 4), .d (pkD ps)] = _ from layers_of_eq (k := 4) (by decide) (by decide) hpk]
    rw [pairsS_map]
    walk_at "sem"
    generalize hY : pairsS (pairsL 4 fun L c => decide (Fits 4 L c ps ∧ (wordsL 4 L c ps).length ≤ 40)) = Y
    refine Ok.step (k1 := Y.length * 0) (for_okm (k := 0) pairD Y (fun _ env => ∃ a14 a15 : Option SV, env = [some (.scr ns), some .town, some (.d (.int v)), some (.d g.d), some (.d (.str (txt l))), some (.d (pkD ps)), some (.d (pkD ps)), a7, a8, a9, a10, a11, some (.d (.list ((runsF l).map runD))), some (.d (.list ((runsF l).map runD))), a14, a15]) ⟨_, _, rfl⟩ ?_) (by simp) fun fl hfl => ?_
    · rintro pre ⟨L, c⟩ post env hpre ⟨a14, a15, rfl⟩
      have hm : (L, c) ∈ pairsL 4 fun L c => decide (Fits 4 L c ps ∧ (wordsL 4 L c ps).length ≤ 40) := by
        have : (L, c) ∈ Y := by rw [hpre]; simp
        rw [← hY] at this
        exact List.mem_mergeSort.mp this
      unfold pairsL at hm
      obtain ⟨L', hL', hm⟩ := List.mem_flatMap.mp hm
      obtain ⟨c', hc', e⟩ := List.mem_map.mp hm
      cases e
      have hfit := of_decide_eq_true (List.mem_filter.mp hc').2
      have hLk := lays_ok hL'
      have hw := (words_lt hLk (c := c) (ps := ps) fun p hp => (hpk.2 p hp).2).mpr fun p hp hi => (hfit.1 p hp).2 hi
      have hpck : F_packed [.d (.int 4), .d (pkD ps), .d L.d, .d c.d] = Sim.ret (wD (wordsL 4 L c ps)) := by
        have h := packed_eq (k := 4) (by decide) (by decide) hpk hLk c
        unfold packR at h
        rw [if_pos hfit.1, if_pos hfit.2] at h
        exact h
      refine ⟨_, rfl, ?_⟩
      walk_at "sem"
      rw [hpck]
      walk_at "sem"
      rw [show F_layers_for [.d (.int 4), .d (wD (wordsL 4 L c ps))] = _ from layers_for_eq (k := 4) (by decide) (by decide) (words_1 hpk) hfit.2 hw]
      walk_at "sem"
      exact Ok.ret ⟨_, rfl, _, _, rfl⟩
    · obtain ⟨env', rfl, a14, a15, rfl⟩ := hfl
      walk_at "sem"
      rw [eqD_refl (pl_pk ps) (by decide)]
      walk_at "sem"
      rw [eqD_refl (pl_runs _) (by decide)]
      exact Ok.ret rfl

end Lw

open PySem PySem.W PyProof.Rows in
set_option maxRecDepth 100000 in
set_option maxHeartbeats 0 in
theorem PySem.Challenge.cw_wirereadings_k40_whole_again_and_kept_holds : PySem.Challenge.rw_wirereadings_k40_whole_again_and_kept.Holds := by
  w_on; o_law; k_head; (case hw => w_witness2)
  k_fill
  refine L2.walk_of (l := PySem.Challenge.rw_wirereadings_k40_whole_again_and_kept) (n := 63) (k := 10) (x := "script") (CX := fun w => L2N.CX PySem.Challenge.rw_wirereadings_k40_whole_again_and_kept.prog w) (sp := fun w => Sim.spLaw _) rfl (by decide) rfl ⟨rfl, by decide, by decide⟩ (fun w h Y => PySem.W.kIn_of Y) ?F (fun _ _ a ns hl _ hS => ⟨a, ns, rfl, hS, hl, fun _ => rfl⟩) (fun w H s e s' z => Sim.noCX z)
  case F =>
    intro w mg fa h KX G hmg
    have hml : mg "law" = some (.ref fa) := hmg
    clear hmg
    refine' Sim.def_use (x := "_law_cell_at") (qual := "_law_cell_at") (st := Lw.s__law_cell_at) (ps := ["script", "k"]) KX G ?a1 ?l1 ?c1 ?k1 (fun _ _ _ _ _ _ us hl => match us, hl with | [_, _], _ => rfl) ?_
    (case a1 => k_is)
    (case l1 => k_is)
    (case c1 => k_is)
    (case k1 => k_is)
    intro a__law_cell_at d__law_cell_at m__law_cell_at f__law_cell_at b__law_cell_at
    refine' Sim.def_use (x := "_law_mixed") (qual := "_law_mixed") (st := Lw.s__law_mixed) (ps := ["script", "k", "many"]) KX G ?a2 ?l2 ?c2 ?k2 (fun _ _ _ _ _ _ us hl => match us, hl with | [_, _, _], _ => rfl) ?_
    (case a2 => k_is)
    (case l2 => k_is)
    (case c2 => k_is)
    (case k2 => k_is)
    intro a__law_mixed d__law_mixed m__law_mixed f__law_mixed b__law_mixed
    refine' Sim.def_use (x := "_law_draw") (qual := "_law_draw") (st := Lw.s__law_draw) (ps := ["script", "town", "many"]) KX G ?a3 ?l3 ?c3 ?k3 (fun _ _ _ _ _ _ us hl => match us, hl with | [_, _, _], _ => rfl) ?_
    (case a3 => k_is)
    (case l3 => k_is)
    (case c3 => k_is)
    (case k3 => k_is)
    intro a__law_draw d__law_draw m__law_draw f__law_draw b__law_draw
    refine' Sim.def_use (x := "_law_pick") (qual := "_law_pick") (st := Lw.s__law_pick) (ps := ["script", "town", "some"]) KX G ?a4 ?l4 ?c4 ?k4 (fun _ _ _ _ _ _ us hl => match us, hl with | [_, _, _], _ => rfl) ?_
    (case a4 => k_is)
    (case l4 => k_is)
    (case c4 => k_is)
    (case k4 => k_is)
    intro a__law_pick d__law_pick m__law_pick f__law_pick b__law_pick
    refine' Sim.def_use (x := "_law_form") (qual := "_law_form") (st := Lw.s__law_form) (ps := ["script", "town"]) KX G ?a5 ?l5 ?c5 ?k5 (fun _ _ _ _ _ _ us hl => match us, hl with | [_, _], _ => rfl) ?_
    (case a5 => k_is)
    (case l5 => k_is)
    (case c5 => k_is)
    (case k5 => k_is)
    intro a__law_form d__law_form m__law_form f__law_form b__law_form
    refine' Sim.def_use (x := "_law_packets") (qual := "_law_packets") (st := Lw.s__law_packets) (ps := ["script", "town", "bits", "most"]) KX G ?a6 ?l6 ?c6 ?k6 (fun _ _ _ _ _ _ us hl => match us, hl with | [_, _, _, _], _ => rfl) ?_
    (case a6 => k_is)
    (case l6 => k_is)
    (case c6 => k_is)
    (case k6 => k_is)
    intro a__law_packets d__law_packets m__law_packets f__law_packets b__law_packets
    refine' Sim.def_use (x := "_law_frame") (qual := "_law_frame") (st := Lw.s__law_frame) (ps := ["form", "word"]) KX G ?a7 ?l7 ?c7 ?k7 (fun _ _ _ _ _ _ us hl => match us, hl with | [_, _], _ => rfl) ?_
    (case a7 => k_is)
    (case l7 => k_is)
    (case c7 => k_is)
    (case k7 => k_is)
    intro a__law_frame d__law_frame m__law_frame f__law_frame b__law_frame
    refine' Sim.def_use (x := "need_samples") (qual := "need_samples") (st := Lw.s_need_samples) (ps := ["thing"]) KX G ?a8 ?l8 ?c8 ?k8 (fun _ _ _ _ _ _ us hl => match us, hl with | [_], _ => rfl) ?_
    (case a8 => k_is)
    (case l8 => k_is)
    (case c8 => k_is)
    (case k8 => k_is)
    intro a_need_samples d_need_samples m_need_samples f_need_samples b_need_samples
    refine' Sim.def_use (x := "runs_of") (qual := "runs_of") (st := Lw.s_runs_of) (ps := ["samples"]) KX G ?a9 ?l9 ?c9 ?k9 (fun _ _ _ _ _ _ us hl => match us, hl with | [_], _ => rfl) ?_
    (case a9 => k_is)
    (case l9 => k_is)
    (case c9 => k_is)
    (case k9 => k_is)
    intro a_runs_of d_runs_of m_runs_of f_runs_of b_runs_of
    refine' Sim.def_use (x := "runs") (qual := "runs") (st := Lw.s_runs) (ps := ["samples"]) KX G ?a10 ?l10 ?c10 ?k10 (fun _ _ _ _ _ _ us hl => match us, hl with | [_], _ => rfl) ?_
    (case a10 => k_is)
    (case l10 => k_is)
    (case c10 => k_is)
    (case k10 => k_is)
    intro a_runs d_runs m_runs f_runs b_runs
    refine' Sim.def_use (x := "is_whole") (qual := "is_whole") (st := Lw.s_is_whole) (ps := ["thing", "low", "most"]) KX G ?a11 ?l11 ?c11 ?k11 (fun _ _ _ _ _ _ us hl => match us, hl with | [_, _, _], _ => rfl) ?_
    (case a11 => k_is)
    (case l11 => k_is)
    (case c11 => k_is)
    (case k11 => k_is)
    intro a_is_whole d_is_whole m_is_whole f_is_whole b_is_whole
    refine' Sim.def_use (x := "are_runs") (qual := "are_runs") (st := Lw.s_are_runs) (ps := ["thing"]) KX G ?a12 ?l12 ?c12 ?k12 (fun _ _ _ _ _ _ us hl => match us, hl with | [_], _ => rfl) ?_
    (case a12 => k_is)
    (case l12 => k_is)
    (case c12 => k_is)
    (case k12 => k_is)
    intro a_are_runs d_are_runs m_are_runs f_are_runs b_are_runs
    refine' Sim.def_use (x := "from_runs") (qual := "from_runs") (st := Lw.s_from_runs) (ps := ["some"]) KX G ?a13 ?l13 ?c13 ?k13 (fun _ _ _ _ _ _ us hl => match us, hl with | [_], _ => rfl) ?_
    (case a13 => k_is)
    (case l13 => k_is)
    (case c13 => k_is)
    (case k13 => k_is)
    intro a_from_runs d_from_runs m_from_runs f_from_runs b_from_runs
    refine' Sim.def_use (x := "top_of") (qual := "top_of") (st := Lw.s_top_of) (ps := ["bits"]) KX G ?a14 ?l14 ?c14 ?k14 (fun _ _ _ _ _ _ us hl => match us, hl with | [_], _ => rfl) ?_
    (case a14 => k_is)
    (case l14 => k_is)
    (case c14 => k_is)
    (case k14 => k_is)
    intro a_top_of d_top_of m_top_of f_top_of b_top_of
    refine' Sim.def_use (x := "are_packets") (qual := "are_packets") (st := Lw.s_are_packets) (ps := ["bits", "thing"]) KX G ?a15 ?l15 ?c15 ?k15 (fun _ _ _ _ _ _ us hl => match us, hl with | [_, _], _ => rfl) ?_
    (case a15 => k_is)
    (case l15 => k_is)
    (case c15 => k_is)
    (case k15 => k_is)
    intro a_are_packets d_are_packets m_are_packets f_are_packets b_are_packets
    refine' Sim.def_use (x := "is_layer") (qual := "is_layer") (st := Lw.s_is_layer) (ps := ["bits", "thing"]) KX G ?a16 ?l16 ?c16 ?k16 (fun _ _ _ _ _ _ us hl => match us, hl with | [_, _], _ => rfl) ?_
    (case a16 => k_is)
    (case l16 => k_is)
    (case c16 => k_is)
    (case k16 => k_is)
    intro a_is_layer d_is_layer m_is_layer f_is_layer b_is_layer
    refine' Sim.def_use (x := "is_one_of") (qual := "is_one_of") (st := Lw.s_is_one_of) (ps := ["thing", "words"]) KX G ?a17 ?l17 ?c17 ?k17 (fun _ _ _ _ _ _ us hl => match us, hl with | [_, _], _ => rfl) ?_
    (case a17 => k_is)
    (case l17 => k_is)
    (case c17 => k_is)
    (case k17 => k_is)
    intro a_is_one_of d_is_one_of m_is_one_of f_is_one_of b_is_one_of
    refine' Sim.def_use (x := "need_all") (qual := "need_all") (st := Lw.s_need_all) (ps := ["bits", "packets", "layer", "check"]) KX G ?a18 ?l18 ?c18 ?k18 (fun _ _ _ _ _ _ us hl => match us, hl with | [_, _, _, _], _ => rfl) ?_
    (case a18 => k_is)
    (case l18 => k_is)
    (case c18 => k_is)
    (case k18 => k_is)
    intro a_need_all d_need_all m_need_all f_need_all b_need_all
    refine' Sim.def_use (x := "one_packed") (qual := "one_packed") (st := Lw.s_one_packed) (ps := ["layer", "own"]) KX G ?a19 ?l19 ?c19 ?k19 (fun _ _ _ _ _ _ us hl => match us, hl with | [_, _], _ => rfl) ?_
    (case a19 => k_is)
    (case l19 => k_is)
    (case c19 => k_is)
    (case k19 => k_is)
    intro a_one_packed d_one_packed m_one_packed f_one_packed b_one_packed
    refine' Sim.def_use (x := "first_of") (qual := "first_of") (st := Lw.s_first_of) (ps := ["layer", "words"]) KX G ?a20 ?l20 ?c20 ?k20 (fun _ _ _ _ _ _ us hl => match us, hl with | [_, _], _ => rfl) ?_
    (case a20 => k_is)
    (case l20 => k_is)
    (case c20 => k_is)
    (case k20 => k_is)
    intro a_first_of d_first_of m_first_of f_first_of b_first_of
    refine' Sim.def_use (x := "xor_of") (qual := "xor_of") (st := Lw.s_xor_of) (ps := ["one", "other"]) KX G ?a21 ?l21 ?c21 ?k21 (fun _ _ _ _ _ _ us hl => match us, hl with | [_, _], _ => rfl) ?_
    (case a21 => k_is)
    (case l21 => k_is)
    (case c21 => k_is)
    (case k21 => k_is)
    intro a_xor_of d_xor_of m_xor_of f_xor_of b_xor_of
    refine' Sim.def_use (x := "checked") (qual := "checked") (st := Lw.s_checked) (ps := ["bits", "own", "check"]) KX G ?a22 ?l22 ?c22 ?k22 (fun _ _ _ _ _ _ us hl => match us, hl with | [_, _, _], _ => rfl) ?_
    (case a22 => k_is)
    (case l22 => k_is)
    (case c22 => k_is)
    (case k22 => k_is)
    intro a_checked d_checked m_checked f_checked b_checked
    refine' Sim.def_use (x := "packets_in") (qual := "packets_in") (st := Lw.s_packets_in) (ps := ["bits", "words", "layer", "check"]) KX G ?a23 ?l23 ?c23 ?k23 (fun _ _ _ _ _ _ us hl => match us, hl with | [_, _, _, _], _ => rfl) ?_
    (case a23 => k_is)
    (case l23 => k_is)
    (case c23 => k_is)
    (case k23 => k_is)
    intro a_packets_in d_packets_in m_packets_in f_packets_in b_packets_in
    refine' Sim.def_use (x := "check_of") (qual := "check_of") (st := Lw.s_check_of) (ps := ["bits", "own", "check"]) KX G ?a24 ?l24 ?c24 ?k24 (fun _ _ _ _ _ _ us hl => match us, hl with | [_, _, _], _ => rfl) ?_
    (case a24 => k_is)
    (case l24 => k_is)
    (case c24 => k_is)
    (case k24 => k_is)
    intro a_check_of d_check_of m_check_of f_check_of b_check_of
    refine' Sim.def_use (x := "packed") (qual := "packed") (st := Lw.s_packed) (ps := ["bits", "packets", "layer", "check"]) KX G ?a25 ?l25 ?c25 ?k25 (fun _ _ _ _ _ _ us hl => match us, hl with | [_, _, _, _], _ => rfl) ?_
    (case a25 => k_is)
    (case l25 => k_is)
    (case c25 => k_is)
    (case k25 => k_is)
    intro a_packed d_packed m_packed f_packed b_packed
    refine' Sim.def_use (x := "is_packed") (qual := "is_packed") (st := Lw.s_is_packed) (ps := ["bits", "packets", "layer", "check"]) KX G ?a26 ?l26 ?c26 ?k26 (fun _ _ _ _ _ _ us hl => match us, hl with | [_, _, _, _], _ => rfl) ?_
    (case a26 => k_is)
    (case l26 => k_is)
    (case c26 => k_is)
    (case k26 => k_is)
    intro a_is_packed d_is_packed m_is_packed f_is_packed b_is_packed
    refine' Sim.def_use (x := "layers_of") (qual := "layers_of") (st := Lw.s_layers_of) (ps := ["bits", "packets"]) KX G ?a27 ?l27 ?c27 ?k27 (fun _ _ _ _ _ _ us hl => match us, hl with | [_, _], _ => rfl) ?_
    (case a27 => k_is)
    (case l27 => k_is)
    (case c27 => k_is)
    (case k27 => k_is)
    intro a_layers_of d_layers_of m_layers_of f_layers_of b_layers_of
    refine' Sim.def_use (x := "_law_samples") (qual := "_law_samples") (st := Lw.s__law_samples) (ps := ["script", "town", "form", "most"]) KX G ?a28 ?l28 ?c28 ?k28 (fun _ _ _ _ _ _ us hl => match us, hl with | [_, _, _, _], _ => rfl) ?_
    (case a28 => k_is)
    (case l28 => k_is)
    (case c28 => k_is)
    (case k28 => k_is)
    intro a__law_samples d__law_samples m__law_samples f__law_samples b__law_samples
    refine' Sim.def_use (x := "all_forms") (qual := "all_forms") (st := Lw.s_all_forms) (ps := []) KX G ?a29 ?l29 ?c29 ?k29 (fun _ _ _ _ _ _ us hl => match us, hl with | [], _ => rfl) ?_
    (case a29 => k_is)
    (case l29 => k_is)
    (case c29 => k_is)
    (case k29 => k_is)
    intro a_all_forms d_all_forms m_all_forms f_all_forms b_all_forms
    refine' Sim.def_use (x := "long_of") (qual := "long_of") (st := Lw.s_long_of) (ps := ["form"]) KX G ?a30 ?l30 ?c30 ?k30 (fun _ _ _ _ _ _ us hl => match us, hl with | [_], _ => rfl) ?_
    (case a30 => k_is)
    (case l30 => k_is)
    (case c30 => k_is)
    (case k30 => k_is)
    intro a_long_of d_long_of m_long_of f_long_of b_long_of
    refine' Sim.def_use (x := "word_of") (qual := "word_of") (st := Lw.s_word_of) (ps := ["form", "bits"]) KX G ?a31 ?l31 ?c31 ?k31 (fun _ _ _ _ _ _ us hl => match us, hl with | [_, _], _ => rfl) ?_
    (case a31 => k_is)
    (case l31 => k_is)
    (case c31 => k_is)
    (case k31 => k_is)
    intro a_word_of d_word_of m_word_of f_word_of b_word_of
    refine' Sim.def_use (x := "bit_of") (qual := "bit_of") (st := Lw.s_bit_of) (ps := ["samples"]) KX G ?a32 ?l32 ?c32 ?k32 (fun _ _ _ _ _ _ us hl => match us, hl with | [_], _ => rfl) ?_
    (case a32 => k_is)
    (case l32 => k_is)
    (case c32 => k_is)
    (case k32 => k_is)
    intro a_bit_of d_bit_of m_bit_of f_bit_of b_bit_of
    refine' Sim.def_use (x := "parity_of") (qual := "parity_of") (st := Lw.s_parity_of) (ps := ["form", "bits"]) KX G ?a33 ?l33 ?c33 ?k33 (fun _ _ _ _ _ _ us hl => match us, hl with | [_, _], _ => rfl) ?_
    (case a33 => k_is)
    (case l33 => k_is)
    (case c33 => k_is)
    (case k33 => k_is)
    intro a_parity_of d_parity_of m_parity_of f_parity_of b_parity_of
    refine' Sim.def_use (x := "word_at") (qual := "word_at") (st := Lw.s_word_at) (ps := ["form", "samples", "at"]) KX G ?a34 ?l34 ?c34 ?k34 (fun _ _ _ _ _ _ us hl => match us, hl with | [_, _, _], _ => rfl) ?_
    (case a34 => k_is)
    (case l34 => k_is)
    (case c34 => k_is)
    (case k34 => k_is)
    intro a_word_at d_word_at m_word_at f_word_at b_word_at
    refine' Sim.def_use (x := "rows_in") (qual := "rows_in") (st := Lw.s_rows_in) (ps := ["form", "samples"]) KX G ?a35 ?l35 ?c35 ?k35 (fun _ _ _ _ _ _ us hl => match us, hl with | [_, _], _ => rfl) ?_
    (case a35 => k_is)
    (case l35 => k_is)
    (case c35 => k_is)
    (case k35 => k_is)
    intro a_rows_in d_rows_in m_rows_in f_rows_in b_rows_in
    refine' Sim.def_use (x := "forms_for") (qual := "forms_for") (st := Lw.s_forms_for) (ps := ["samples"]) KX G ?a36 ?l36 ?c36 ?k36 (fun _ _ _ _ _ _ us hl => match us, hl with | [_], _ => rfl) ?_
    (case a36 => k_is)
    (case l36 => k_is)
    (case c36 => k_is)
    (case k36 => k_is)
    intro a_forms_for d_forms_for m_forms_for f_forms_for b_forms_for
    refine' Sim.def_use (x := "paces") (qual := "paces") (st := Lw.s_paces) (ps := ["samples"]) KX G ?a37 ?l37 ?c37 ?k37 (fun _ _ _ _ _ _ us hl => match us, hl with | [_], _ => rfl) ?_
    (case a37 => k_is)
    (case l37 => k_is)
    (case c37 => k_is)
    (case k37 => k_is)
    intro a_paces d_paces m_paces f_paces b_paces
    refine' Sim.def_use (x := "falls") (qual := "falls") (st := Lw.s_falls) (ps := ["samples"]) KX G ?a38 ?l38 ?c38 ?k38 (fun _ _ _ _ _ _ us hl => match us, hl with | [_], _ => rfl) ?_
    (case a38 => k_is)
    (case l38 => k_is)
    (case c38 => k_is)
    (case k38 => k_is)
    intro a_falls d_falls m_falls f_falls b_falls
    refine' Sim.def_use (x := "is_form") (qual := "is_form") (st := Lw.s_is_form) (ps := ["thing"]) KX G ?a39 ?l39 ?c39 ?k39 (fun _ _ _ _ _ _ us hl => match us, hl with | [_], _ => rfl) ?_
    (case a39 => k_is)
    (case l39 => k_is)
    (case c39 => k_is)
    (case k39 => k_is)
    intro a_is_form d_is_form m_is_form f_is_form b_is_form
    refine' Sim.def_use (x := "need_form") (qual := "need_form") (st := Lw.s_need_form) (ps := ["thing"]) KX G ?a40 ?l40 ?c40 ?k40 (fun _ _ _ _ _ _ us hl => match us, hl with | [_], _ => rfl) ?_
    (case a40 => k_is)
    (case l40 => k_is)
    (case c40 => k_is)
    (case k40 => k_is)
    intro a_need_form d_need_form m_need_form f_need_form b_need_form
    refine' Sim.def_use (x := "heard_of") (qual := "heard_of") (st := Lw.s_heard_of) (ps := ["form", "samples"]) KX G ?a41 ?l41 ?c41 ?k41 (fun _ _ _ _ _ _ us hl => match us, hl with | [_, _], _ => rfl) ?_
    (case a41 => k_is)
    (case l41 => k_is)
    (case c41 => k_is)
    (case k41 => k_is)
    intro a_heard_of d_heard_of m_heard_of f_heard_of b_heard_of
    refine' Sim.def_use (x := "heard") (qual := "heard") (st := Lw.s_heard) (ps := ["form", "samples"]) KX G ?a42 ?l42 ?c42 ?k42 (fun _ _ _ _ _ _ us hl => match us, hl with | [_, _], _ => rfl) ?_
    (case a42 => k_is)
    (case l42 => k_is)
    (case c42 => k_is)
    (case k42 => k_is)
    intro a_heard d_heard m_heard f_heard b_heard
    refine' Sim.def_use (x := "heard_again") (qual := "heard_again") (st := Lw.s_heard_again) (ps := ["form", "rows", "spoilt"]) KX G ?a43 ?l43 ?c43 ?k43 (fun _ _ _ _ _ _ us hl => match us, hl with | [_, _, _], _ => rfl) ?_
    (case a43 => k_is)
    (case l43 => k_is)
    (case c43 => k_is)
    (case k43 => k_is)
    intro a_heard_again d_heard_again m_heard_again f_heard_again b_heard_again
    refine' Sim.def_use (x := "faulty_ticks") (qual := "faulty_ticks") (st := Lw.s_faulty_ticks) (ps := ["form", "samples"]) KX G ?a44 ?l44 ?c44 ?k44 (fun _ _ _ _ _ _ us hl => match us, hl with | [_, _], _ => rfl) ?_
    (case a44 => k_is)
    (case l44 => k_is)
    (case c44 => k_is)
    (case k44 => k_is)
    intro a_faulty_ticks d_faulty_ticks m_faulty_ticks f_faulty_ticks b_faulty_ticks
    refine' Sim.def_use (x := "_law_ask") (qual := "_law_ask") (st := Lw.s__law_ask) (ps := ["what", "form", "samples", "packets"]) KX G ?a45 ?l45 ?c45 ?k45 (fun _ _ _ _ _ _ us hl => match us, hl with | [_, _, _, _], _ => rfl) ?_
    (case a45 => k_is)
    (case l45 => k_is)
    (case c45 => k_is)
    (case k45 => k_is)
    intro a__law_ask d__law_ask m__law_ask f__law_ask b__law_ask
    refine' Sim.def_use (x := "need_words") (qual := "need_words") (st := Lw.s_need_words) (ps := ["bits", "thing"]) KX G ?a46 ?l46 ?c46 ?k46 (fun _ _ _ _ _ _ us hl => match us, hl with | [_, _], _ => rfl) ?_
    (case a46 => k_is)
    (case l46 => k_is)
    (case c46 => k_is)
    (case k46 => k_is)
    intro a_need_words d_need_words m_need_words f_need_words b_need_words
    refine' Sim.def_use (x := "layers_for") (qual := "layers_for") (st := Lw.s_layers_for) (ps := ["bits", "words"]) KX G ?a47 ?l47 ?c47 ?k47 (fun _ _ _ _ _ _ us hl => match us, hl with | [_, _], _ => rfl) ?_
    (case a47 => k_is)
    (case l47 => k_is)
    (case c47 => k_is)
    (case k47 => k_is)
    intro a_layers_for d_layers_for m_layers_for f_layers_for b_layers_for
    refine' Sim.law_use (st := Lw.s_law) KX G ?a48 ?l48 ?c48 ?k48 (fun _ _ _ _ _ _ us hl => match us, hl with | [_], _ => rfl) ?_
    (case a48 => k_is)
    (case l48 => k_is)
    (case c48 => k_is)
    (case k48 => k_is)
    intro a_law d_law m_law f_law b_law q_law
    refine' Sim.cls_use (x := "Listener") KX G ?a49 ?l49 ?c49 ?k49 ?x49 ?s49 ?t49 ?_
    (case a49 => k_is)
    (case l49 => k_is)
    (case c49 => k_is)
    (case k49 => k_is)
    (case x49 => k_is)
    (case s49 => k_is)
    (case t49 => k_is)
    intro g_Listener cls mk0 kc
    refine' Sim.attr_use (f := "form") cls ?a50 ?_
    (case a50 => k_is)
    intro na_form
    refine' Sim.attr_use (f := "tick") cls ?a51 ?_
    (case a51 => k_is)
    intro na_tick
    refine' Sim.attr_use (f := "bits") cls ?a52 ?_
    (case a52 => k_is)
    intro na_bits
    refine' Sim.attr_use (f := "told") cls ?a53 ?_
    (case a53 => k_is)
    intro na_told
    refine' Sim.attr_use (f := "past") cls ?a54 ?_
    (case a54 => k_is)
    intro na_past
    refine' Sim.meth_use (x := "__init__") (qual := "Listener.__init__") (st := Lw.s_L___init__) (ps := ["self", "form"]) cls ?a55 ?x55 ?l55 ?c55 ?k55 (fun _ _ _ _ _ _ us hl => match us, hl with | [_, _], _ => rfl) ?_
    (case a55 => k_is)
    (case x55 => k_is)
    (case l55 => k_is)
    (case c55 => k_is)
    (case k55 => k_is)
    intro a_L___init__ d_L___init__ me_L___init__ f_L___init__ b_L___init__
    refine' Sim.meth_use (x := "ended") (qual := "Listener.ended") (st := Lw.s_L_ended) (ps := ["self"]) cls ?a56 ?x56 ?l56 ?c56 ?k56 (fun _ _ _ _ _ _ us hl => match us, hl with | [_], _ => rfl) ?_
    (case a56 => k_is)
    (case x56 => k_is)
    (case l56 => k_is)
    (case c56 => k_is)
    (case k56 => k_is)
    intro a_L_ended d_L_ended me_L_ended f_L_ended b_L_ended
    refine' Sim.meth_use (x := "hear") (qual := "Listener.hear") (st := Lw.s_L_hear) (ps := ["self", "sample"]) cls ?a57 ?x57 ?l57 ?c57 ?k57 (fun _ _ _ _ _ _ us hl => match us, hl with | [_, _], _ => rfl) ?_
    (case a57 => k_is)
    (case x57 => k_is)
    (case l57 => k_is)
    (case c57 => k_is)
    (case k57 => k_is)
    intro a_L_hear d_L_hear me_L_hear f_L_hear b_L_hear
    refine' Sim.exc_usec (x := "NoForm") KX G ?a58 ?x58 ?k58 ?s58 ?t58 ?_
    (case a58 => k_is)
    (case x58 => k_exc)
    (case k58 => k_is)
    (case s58 => k_is)
    (case t58 => k_is)
    intro g_NoForm x_NoForm k_NoForm s_NoForm t_NoForm
    refine' Sim.exc_usec (x := "NoLayer") KX G ?a59 ?x59 ?k59 ?s59 ?t59 ?_
    (case a59 => k_is)
    (case x59 => k_exc)
    (case k59 => k_is)
    (case s59 => k_is)
    (case t59 => k_is)
    intro g_NoLayer x_NoLayer k_NoLayer s_NoLayer t_NoLayer
    refine' Sim.exc_usec (x := "NoPackets") KX G ?a60 ?x60 ?k60 ?s60 ?t60 ?_
    (case a60 => k_is)
    (case x60 => k_exc)
    (case k60 => k_is)
    (case s60 => k_is)
    (case t60 => k_is)
    intro g_NoPackets x_NoPackets k_NoPackets s_NoPackets t_NoPackets
    refine' Sim.exc_usec (x := "NoRuns") KX G ?a61 ?x61 ?k61 ?s61 ?t61 ?_
    (case a61 => k_is)
    (case x61 => k_exc)
    (case k61 => k_is)
    (case s61 => k_is)
    (case t61 => k_is)
    intro g_NoRuns x_NoRuns k_NoRuns s_NoRuns t_NoRuns
    refine' Sim.exc_usec (x := "NoSamples") KX G ?a62 ?x62 ?k62 ?s62 ?t62 ?_
    (case a62 => k_is)
    (case x62 => k_exc)
    (case k62 => k_is)
    (case s62 => k_is)
    (case t62 => k_is)
    intro g_NoSamples x_NoSamples k_NoSamples s_NoSamples t_NoSamples
    refine' Sim.exc_usec (x := "NoWords") KX G ?a63 ?x63 ?k63 ?s63 ?t63 ?_
    (case a63 => k_is)
    (case x63 => k_exc)
    (case k63 => k_is)
    (case s63 => k_is)
    (case t63 => k_is)
    intro g_NoWords x_NoWords k_NoWords s_NoWords t_NoWords
    refine' Sim.exc_usec (x := "TooLong") KX G ?a64 ?x64 ?k64 ?s64 ?t64 ?_
    (case a64 => k_is)
    (case x64 => k_exc)
    (case k64 => k_is)
    (case s64 => k_is)
    (case t64 => k_is)
    intro g_TooLong x_TooLong k_TooLong s_TooLong t_TooLong
    refine' Sim.pair_use g_NoPackets g_TooLong s_NoPackets s_TooLong t_NoPackets t_TooLong ?a65 ?x65 ?k65 ?s65 ?t65 ?c65 ?_
    (case a65 => k_is)
    (case x65 => k_is)
    (case k65 => k_is)
    (case s65 => k_is)
    (case t65 => k_is)
    (case c65 => k_is)
    intro p2
    refine' Sim.none_use (x := "all") KX G ?a66 ?_
    (case a66 => k_is)
    intro n_all
    refine' Sim.none_use (x := "bool") KX G ?a67 ?_
    (case a67 => k_is)
    intro n_bool
    refine' Sim.none_use (x := "enumerate") KX G ?a68 ?_
    (case a68 => k_is)
    intro n_enumerate
    refine' Sim.none_use (x := "int") KX G ?a69 ?_
    (case a69 => k_is)
    intro n_int
    refine' Sim.none_use (x := "isinstance") KX G ?a70 ?_
    (case a70 => k_is)
    intro n_isinstance
    refine' Sim.none_use (x := "len") KX G ?a71 ?_
    (case a71 => k_is)
    intro n_len
    refine' Sim.none_use (x := "list") KX G ?a72 ?_
    (case a72 => k_is)
    intro n_list
    refine' Sim.none_use (x := "range") KX G ?a73 ?_
    (case a73 => k_is)
    intro n_range
    refine' Sim.none_use (x := "set") KX G ?a74 ?_
    (case a74 => k_is)
    intro n_set
    refine' Sim.none_use (x := "sorted") KX G ?a75 ?_
    (case a75 => k_is)
    intro n_sorted
    refine' Sim.none_use (x := "str") KX G ?a76 ?_
    (case a76 => k_is)
    intro n_str
    refine' Sim.none_use (x := "sum") KX G ?a77 ?_
    (case a77 => k_is)
    intro n_sum
    refine' Sim.none_use (x := "tuple") KX G ?a78 ?_
    (case a78 => k_is)
    intro n_tuple
    refine' Sim.none_use (x := "zip") KX G ?a79 ?_
    (case a79 => k_is)
    intro n_zip
    refine' Sim.tup_use (x := "CHECKS") (xs := [.str "none", .str "sum", .str "xor"]) KX G ?a80 ?l80 ?z80 ?v80 ?_
    (case a80 => k_is)
    (case l80 => k_is)
    (case z80 => decide)
    (case v80 => exact (.cons ⟨_, rfl⟩ (.cons ⟨_, rfl⟩ (.cons ⟨_, rfl⟩ .nil))))
    intro a_CHECKS m_CHECKS k_CHECKS
    refine' Sim.int_use (x := "FIXED") (i := 9) KX G ?a81 ?_
    (case a81 => k_is)
    intro m_FIXED
    refine' Sim.int_use (x := "LEAST") (i := 4) KX G ?a82 ?_
    (case a82 => k_is)
    intro m_LEAST
    refine' Sim.int_use (x := "LONG") (i := 200) KX G ?a83 ?_
    (case a83 => k_is)
    intro m_LONG
    refine' Sim.int_use (x := "MOST") (i := 6) KX G ?a84 ?_
    (case a84 => k_is)
    intro m_MOST
    refine' Sim.tup_use (x := "ORDERS") (xs := [.str "low", .str "high"]) KX G ?a85 ?l85 ?z85 ?v85 ?_
    (case a85 => k_is)
    (case l85 => k_is)
    (case z85 => decide)
    (case v85 => exact (.cons ⟨_, rfl⟩ (.cons ⟨_, rfl⟩ .nil)))
    intro a_ORDERS m_ORDERS k_ORDERS
    refine' Sim.int_use (x := "PACE") (i := 6) KX G ?a86 ?_
    (case a86 => k_is)
    intro m_PACE
    refine' Sim.int_use (x := "PACKETS") (i := 10) KX G ?a87 ?_
    (case a87 => k_is)
    intro m_PACKETS
    refine' Sim.tup_use (x := "PARITIES") (xs := [.str "none", .str "even", .str "odd"]) KX G ?a88 ?l88 ?z88 ?v88 ?_
    (case a88 => k_is)
    (case l88 => k_is)
    (case z88 => decide)
    (case v88 => exact (.cons ⟨_, rfl⟩ (.cons ⟨_, rfl⟩ (.cons ⟨_, rfl⟩ .nil))))
    intro a_PARITIES m_PARITIES k_PARITIES
    refine' Sim.int_use (x := "WORDS") (i := 40) KX G ?a89 ?_
    (case a89 => k_is)
    intro m_WORDS
    have e := hml.symm.trans m_law
    cases e
    exact ⟨d_law, q_law, fun base _ _ => Lw.ok_law ({ a_L___init__ := a_L___init__, d_L___init__ := d_L___init__, f_L___init__ := f_L___init__, b_L___init__ := b_L___init__, mkL := ⟨mk0, me_L___init__.at_, me_L___init__.fn, kc⟩, a_L_ended := a_L_ended, d_L_ended := d_L_ended, f_L_ended := f_L_ended, b_L_ended := b_L_ended, me_L_ended := me_L_ended, a_L_hear := a_L_hear, d_L_hear := d_L_hear, f_L_hear := f_L_hear, b_L_hear := b_L_hear, me_L_hear := me_L_hear, c_Listener := _, g_Listener := g_Listener, cls := cls, na_form := na_form, na_tick := na_tick, na_bits := na_bits, na_told := na_told, na_past := na_past, a__law_cell_at := a__law_cell_at, d__law_cell_at := d__law_cell_at, f__law_cell_at := f__law_cell_at, m__law_cell_at := m__law_cell_at, b__law_cell_at := b__law_cell_at, a__law_mixed := a__law_mixed, d__law_mixed := d__law_mixed, f__law_mixed := f__law_mixed, m__law_mixed := m__law_mixed, b__law_mixed := b__law_mixed, a__law_draw := a__law_draw, d__law_draw := d__law_draw, f__law_draw := f__law_draw, m__law_draw := m__law_draw, b__law_draw := b__law_draw, a__law_pick := a__law_pick, d__law_pick := d__law_pick, f__law_pick := f__law_pick, m__law_pick := m__law_pick, b__law_pick := b__law_pick, a__law_form := a__law_form, d__law_form := d__law_form, f__law_form := f__law_form, m__law_form := m__law_form, b__law_form := b__law_form, a__law_packets := a__law_packets, d__law_packets := d__law_packets, f__law_packets := f__law_packets, m__law_packets := m__law_packets, b__law_packets := b__law_packets, a__law_frame := a__law_frame, d__law_frame := d__law_frame, f__law_frame := f__law_frame, m__law_frame := m__law_frame, b__law_frame := b__law_frame, a_need_samples := a_need_samples, d_need_samples := d_need_samples, f_need_samples := f_need_samples, m_need_samples := m_need_samples, b_need_samples := b_need_samples, a_runs_of := a_runs_of, d_runs_of := d_runs_of, f_runs_of := f_runs_of, m_runs_of := m_runs_of, b_runs_of := b_runs_of, a_runs := a_runs, d_runs := d_runs, f_runs := f_runs, m_runs := m_runs, b_runs := b_runs, a_is_whole := a_is_whole, d_is_whole := d_is_whole, f_is_whole := f_is_whole, m_is_whole := m_is_whole, b_is_whole := b_is_whole, a_are_runs := a_are_runs, d_are_runs := d_are_runs, f_are_runs := f_are_runs, m_are_runs := m_are_runs, b_are_runs := b_are_runs, a_from_runs := a_from_runs, d_from_runs := d_from_runs, f_from_runs := f_from_runs, m_from_runs := m_from_runs, b_from_runs := b_from_runs, a_top_of := a_top_of, d_top_of := d_top_of, f_top_of := f_top_of, m_top_of := m_top_of, b_top_of := b_top_of, a_are_packets := a_are_packets, d_are_packets := d_are_packets, f_are_packets := f_are_packets, m_are_packets := m_are_packets, b_are_packets := b_are_packets, a_is_layer := a_is_layer, d_is_layer := d_is_layer, f_is_layer := f_is_layer, m_is_layer := m_is_layer, b_is_layer := b_is_layer, a_is_one_of := a_is_one_of, d_is_one_of := d_is_one_of, f_is_one_of := f_is_one_of, m_is_one_of := m_is_one_of, b_is_one_of := b_is_one_of, a_need_all := a_need_all, d_need_all := d_need_all, f_need_all := f_need_all, m_need_all := m_need_all, b_need_all := b_need_all, a_one_packed := a_one_packed, d_one_packed := d_one_packed, f_one_packed := f_one_packed, m_one_packed := m_one_packed, b_one_packed := b_one_packed, a_first_of := a_first_of, d_first_of := d_first_of, f_first_of := f_first_of, m_first_of := m_first_of, b_first_of := b_first_of, a_xor_of := a_xor_of, d_xor_of := d_xor_of, f_xor_of := f_xor_of, m_xor_of := m_xor_of, b_xor_of := b_xor_of, a_checked := a_checked, d_checked := d_checked, f_checked := f_checked, m_checked := m_checked, b_checked := b_checked, a_packets_in := a_packets_in, d_packets_in := d_packets_in, f_packets_in := f_packets_in, m_packets_in := m_packets_in, b_packets_in := b_packets_in, a_check_of := a_check_of, d_check_of := d_check_of, f_check_of := f_check_of, m_check_of := m_check_of, b_check_of := b_check_of, a_packed := a_packed, d_packed := d_packed, f_packed := f_packed, m_packed := m_packed, b_packed := b_packed, a_is_packed := a_is_packed, d_is_packed := d_is_packed, f_is_packed := f_is_packed, m_is_packed := m_is_packed, b_is_packed := b_is_packed, a_layers_of := a_layers_of, d_layers_of := d_layers_of, f_layers_of := f_layers_of, m_layers_of := m_layers_of, b_layers_of := b_layers_of, a__law_samples := a__law_samples, d__law_samples := d__law_samples, f__law_samples := f__law_samples, m__law_samples := m__law_samples, b__law_samples := b__law_samples, a_all_forms := a_all_forms, d_all_forms := d_all_forms, f_all_forms := f_all_forms, m_all_forms := m_all_forms, b_all_forms := b_all_forms, a_long_of := a_long_of, d_long_of := d_long_of, f_long_of := f_long_of, m_long_of := m_long_of, b_long_of := b_long_of, a_word_of := a_word_of, d_word_of := d_word_of, f_word_of := f_word_of, m_word_of := m_word_of, b_word_of := b_word_of, a_bit_of := a_bit_of, d_bit_of := d_bit_of, f_bit_of := f_bit_of, m_bit_of := m_bit_of, b_bit_of := b_bit_of, a_parity_of := a_parity_of, d_parity_of := d_parity_of, f_parity_of := f_parity_of, m_parity_of := m_parity_of, b_parity_of := b_parity_of, a_word_at := a_word_at, d_word_at := d_word_at, f_word_at := f_word_at, m_word_at := m_word_at, b_word_at := b_word_at, a_rows_in := a_rows_in, d_rows_in := d_rows_in, f_rows_in := f_rows_in, m_rows_in := m_rows_in, b_rows_in := b_rows_in, a_forms_for := a_forms_for, d_forms_for := d_forms_for, f_forms_for := f_forms_for, m_forms_for := m_forms_for, b_forms_for := b_forms_for, a_paces := a_paces, d_paces := d_paces, f_paces := f_paces, m_paces := m_paces, b_paces := b_paces, a_falls := a_falls, d_falls := d_falls, f_falls := f_falls, m_falls := m_falls, b_falls := b_falls, a_is_form := a_is_form, d_is_form := d_is_form, f_is_form := f_is_form, m_is_form := m_is_form, b_is_form := b_is_form, a_need_form := a_need_form, d_need_form := d_need_form, f_need_form := f_need_form, m_need_form := m_need_form, b_need_form := b_need_form, a_heard_of := a_heard_of, d_heard_of := d_heard_of, f_heard_of := f_heard_of, m_heard_of := m_heard_of, b_heard_of := b_heard_of, a_heard := a_heard, d_heard := d_heard, f_heard := f_heard, m_heard := m_heard, b_heard := b_heard, a_heard_again := a_heard_again, d_heard_again := d_heard_again, f_heard_again := f_heard_again, m_heard_again := m_heard_again, b_heard_again := b_heard_again, a_faulty_ticks := a_faulty_ticks, d_faulty_ticks := d_faulty_ticks, f_faulty_ticks := f_faulty_ticks, m_faulty_ticks := m_faulty_ticks, b_faulty_ticks := b_faulty_ticks, a__law_ask := a__law_ask, d__law_ask := d__law_ask, f__law_ask := f__law_ask, m__law_ask := m__law_ask, b__law_ask := b__law_ask, a_need_words := a_need_words, d_need_words := d_need_words, f_need_words := f_need_words, m_need_words := m_need_words, b_need_words := b_need_words, a_layers_for := a_layers_for, d_layers_for := d_layers_for, f_layers_for := f_layers_for, m_layers_for := m_layers_for, b_layers_for := b_layers_for, a_law := fa, d_law := d_law, f_law := f_law, m_law := m_law, b_law := b_law, c_NoForm := _, g_NoForm := g_NoForm, x_NoForm := x_NoForm, k_NoForm := k_NoForm, s_NoForm := s_NoForm, t_NoForm := t_NoForm, c_NoLayer := _, g_NoLayer := g_NoLayer, x_NoLayer := x_NoLayer, k_NoLayer := k_NoLayer, s_NoLayer := s_NoLayer, t_NoLayer := t_NoLayer, c_NoPackets := _, g_NoPackets := g_NoPackets, x_NoPackets := x_NoPackets, k_NoPackets := k_NoPackets, s_NoPackets := s_NoPackets, t_NoPackets := t_NoPackets, c_NoRuns := _, g_NoRuns := g_NoRuns, x_NoRuns := x_NoRuns, k_NoRuns := k_NoRuns, s_NoRuns := s_NoRuns, t_NoRuns := t_NoRuns, c_NoSamples := _, g_NoSamples := g_NoSamples, x_NoSamples := x_NoSamples, k_NoSamples := k_NoSamples, s_NoSamples := s_NoSamples, t_NoSamples := t_NoSamples, c_NoWords := _, g_NoWords := g_NoWords, x_NoWords := x_NoWords, k_NoWords := k_NoWords, s_NoWords := s_NoWords, t_NoWords := t_NoWords, c_TooLong := _, g_TooLong := g_TooLong, x_TooLong := x_TooLong, k_TooLong := k_TooLong, s_TooLong := s_TooLong, t_TooLong := t_TooLong, p2 := p2, n_all := n_all, n_bool := n_bool, n_enumerate := n_enumerate, n_int := n_int, n_isinstance := n_isinstance, n_len := n_len, n_list := n_list, n_range := n_range, n_set := n_set, n_sorted := n_sorted, n_str := n_str, n_sum := n_sum, n_tuple := n_tuple, n_zip := n_zip, a_CHECKS := a_CHECKS, m_CHECKS := m_CHECKS, k_CHECKS := k_CHECKS, m_FIXED := m_FIXED, m_LEAST := m_LEAST, m_LONG := m_LONG, m_MOST := m_MOST, a_ORDERS := a_ORDERS, m_ORDERS := m_ORDERS, k_ORDERS := k_ORDERS, m_PACE := m_PACE, m_PACKETS := m_PACKETS, a_PARITIES := a_PARITIES, m_PARITIES := m_PARITIES, k_PARITIES := k_PARITIES, m_WORDS := m_WORDS } : Lw.Tx _ mg) Lw.hlaw⟩
#print axioms PySem.Challenge.cw_wirereadings_k40_whole_again_and_kept_holds
