import PyProof.Rows.All
import Wide.All
import OpenK.AllK
import Wide.FinOn
import HandS.ForMost
import HandS.ForExc
import HandS.HotCalls
import HandS.ExcIs
import HandS.Walk
import HandS.Deep
import HandS.IsInst
import HandS.TupAny
import HandS.TupMul
import HandS.Strs
import KE.SortData
import HandS.Wide
import KE.DataCmp
import KE.KDictKeyed
import HandS.Style
import PyProof.StrBlock2
import KE.DataEq
import KE.DataIsa
import KE.DataFind
import HandS.Conv
import PyProof.SeqIndex
import HandS.SetFor
import HandS.StrMore
import PyProof.EnumMake
import PyProof.WalksEnum
import PyProof.Draws
import KE.GoesRaise
import HandS.ExcCtx
import PySem.Challenge.RW_wirereadings_k28_whole_heard_texts
set_option Elab.async false
set_option linter.all false
set_option maxRecDepth 100000
set_option maxHeartbeats 4000000
/-! New tuples, with the object known: it has no dict of its own. -/
namespace Sim
open PySem PySem.Spec L2 PyProof.Rows
section
variable {X : Cx}
/-- what is wanted of a new tuple -/
abbrev NewT (H : Hp) (xs : List V) (Q : VK) : Prop := ∀ (p : Addr) (o : PySem.Obj), H p = none → o.dict = none → Q (.ref p) (upd H p (.frz o (.tup xs)))
theorem okZ {P : Program} {w : World} {H : Hp} {h : Heap} {a : Addr} {o : PySem.Obj} {xs : List V} {us : List Value} {n : Nat} (g : h.get? a = some o) (c : o.cls = .type "tuple") (d : o.data = .seq us.toArray n) (z : xs.length ≤ sizeLine) (r : Vals xs us) : ObjOk P w H h a (.frz o (.tup xs)) :=
  ⟨g, z, us, r, ⟨o, g, c, n, d⟩⟩
theorem pe_tupZ {es : List Expr} {t : TA} {k : Nat} {pos : Pos} (h : PA X es t) : PE X (.Tuple es k pos) (fun σ H Q => t σ H fun xs H1 => xs.length ≤ sizeLine ∧ NewT H1 xs Q) := by
  constructor
  intro pins s0 σ H Q I hq
  apply wpAny_Tuple_spliced
  refine thn (h.run pos pins s0 σ H _ I hq) ?_
  rintro us sA ⟨xs, HA, IA, r, z, q⟩
  refine ⟨by rw [← r.length]; exact z, .ref sA.heap.objs.size, upd HA sA.heap.objs.size (.frz _ (.tup xs)), IA.laid (t' := sA.toks) (fun b u e => Heap.get?_push_of_some _ e) (Nat.le_refl _) (okZ (Heap.get?_push_size _ rfl) rfl rfl z r), rfl, ?_⟩
  exact q _ _ (IA.hok.fresh (Nat.le_refl _)) rfl
def rCatZ (K : PySem.W.Frag) : R2 := fun x y H Q => ∃ a b xs ys, x = .ref a ∧ y = .ref b ∧ SqT K H a xs ∧ SqT K H b ys ∧ xs.length + ys.length ≤ sizeLine ∧
  (xs = [] → Q (.ref b) H) ∧ (xs ≠ [] → ys = [] → Q (.ref a) H) ∧ (xs ≠ [] → ys ≠ [] → NewT H (xs ++ ys) Q)
theorem op_catZ : OpR X (binaryOp .Add) (rCatZ X.K) := by
  intro pins s σ H x y v u Q I rx ry h
  obtain ⟨a, b, xs, ys, rfl, rfl, ta, tb, hz, w0, w1, w2⟩ := h
  by_cases hx : xs = []
  · refine op_catA pins s σ H _ _ v u Q I rx ry ⟨a, b, xs, ys, rfl, rfl, ta, tb, hz, w0, w1, fun z => absurd hx z⟩
  · cases rx
    cases ry
    obtain ⟨us, ra, pa, _⟩ := I.tuple ta
    obtain ⟨vs, rb, pb, _⟩ := I.tuple tb
    apply HT.cat_tup pa pb
    · exact fun z => hx (ra.nil_iff.mp z)
    · exact fun z => ⟨.ref a, H, I, rfl, w1 hx (rb.nil_iff.mp z)⟩
    · intro z
      refine ⟨.ref s.heap.objs.size, upd H s.heap.objs.size (.frz _ (.tup (xs ++ ys))), I.laid (t' := s.toks) (fun _ _ g => Heap.get?_push_of_some _ g) (Nat.le_refl _) (okZ (us := us ++ vs) (Heap.get?_push_size _ rfl) rfl rfl (by rw [List.length_append]; exact hz) (ra.append rb)), rfl, ?_⟩
      exact w2 hx (fun e => z (rb.nil_iff.mpr e)) _ _ (I.hok.fresh (Nat.le_refl _)) rfl
    · rw [← ra.length, ← rb.length]; exact hz
def rSlZ (K : PySem.W.Frag) : V → Option Int → Option Int → Hp → VK → Prop := fun x lo hi H Q => ∃ a xs, x = .ref a ∧ SqT K H a xs ∧
  (HT.sIx xs.length 0 lo = 0 ∧ HT.sIx xs.length xs.length hi = xs.length → Q (.ref a) H) ∧ (¬ (HT.sIx xs.length 0 lo = 0 ∧ HT.sIx xs.length xs.length hi = xs.length) → NewT H (cutV xs lo hi) Q)
theorem sl_tupZ : SlR X (rSlZ X.K) := by
  intro pins s σ H x v vl vu lo hi sl Q I rx hs pl pu h
  obtain ⟨a, xs, rfl, tx, w1, w2⟩ := h
  by_cases hw : HT.sIx xs.length 0 lo = 0 ∧ HT.sIx xs.length xs.length hi = xs.length
  · exact sl_tupA pins s σ H _ v vl vu lo hi sl Q I rx hs pl pu ⟨a, xs, rfl, tx, w1, fun z => absurd hw z⟩
  · cases rx
    obtain ⟨us, r, pt, hz⟩ := I.tuple tx
    have el : us.toArray.size = xs.length := by rw [List.size_toArray, ← r.length]
    refine ⟨"tuple", _, PyProof.Rows.slot_tuple_getitem.lookup, pt.typeIs, ?_⟩
    apply HT.getItem_tuple_cut pt hs pl pu (by rw [el]; exact hw) _ (by rw [el]; exact hz)
    rw [el]
    refine ⟨.ref s.heap.objs.size, upd H s.heap.objs.size (.frz _ (.tup (cutV xs lo hi))), I.laid (t' := s.toks) (fun _ _ g => Heap.get?_push_of_some _ g) (Nat.le_refl _) (okZ (Heap.get?_push_size _ rfl) rfl rfl (Nat.le_trans (cutV_length xs lo hi) hz) ?_), rfl, ?_⟩
    · exact (r.drop (HT.sIx xs.length 0 lo)).take _
    · exact w2 hw _ _ (I.hok.fresh (Nat.le_refl _)) rfl
def rRepZ (K : PySem.W.Frag) : R2 := fun x y H Q => ∃ a m vs, x = .ref a ∧ y = .int m ∧ SqT K H a vs ∧ (vs ≠ [] ∧ vs.length ≤ 1000) ∧ (2 ≤ m ∧ m ≤ 1000) ∧ NewT H (List.replicate m.toNat vs).flatten Q
theorem repZ_len {m : Int} {n : Nat} (hm : m ≤ 1000) (hn : n ≤ 1000) : m.toNat * n ≤ sizeLine := by
  refine Nat.le_trans (Nat.mul_le_mul (show m.toNat ≤ 1000 by omega) hn) ?_
  rw [sizeLine_eq]; decide
theorem op_repZ : OpR X (binaryOp .Mult) (rRepZ X.K) := by
  intro pins s σ H x y v u Q I rx ry h
  obtain ⟨a, m, vs, rfl, rfl, sq, ⟨ne, l1⟩, ⟨m1, m2⟩, q⟩ := h
  cases rx
  obtain ⟨tk, rfl⟩ := ry
  obtain ⟨us, rv, ⟨⟨c, od, da, ss⟩, g, ec, w, ed⟩, _⟩ := I.tuple sq
  simp only at ec ed
  subst ec ed
  have lu : us.length = vs.length := rv.length.symm
  have lp : 0 < us.length := by rw [lu]; exact List.length_pos_iff.mpr ne
  have emp : us.toArray.isEmpty = false := by
    match us, lp with
    | _ :: _, _ => rfl
  have zs : (us.toArray.size : Int) = vs.length := by rw [List.size_toArray, lu]
  have zm : (us.toArray.size : Int) * m ≤ 1000000 := by
    rw [zs]
    exact Int.le_trans (Int.mul_le_mul_of_nonneg_right (show ((vs.length : Nat) : Int) ≤ 1000 by omega) (by omega)) (by omega)
  have fl : (List.replicate m.toNat us).flatten.length ≤ sizeLine := by
    rw [PyProof.Rows.lm_len_rep_flat, lu]; exact repZ_len m2 l1
  have b0 : (decide (m < -(2 ^ 63)) || decide (m ≥ 2 ^ 63)) = false := by simp; omega
  have b1 : (us.toArray.isEmpty || m == 1) = false := by rw [emp, Bool.false_or]; simp only [beq_eq_false_iff_ne]; omega
  have b2 : (decide (m ≤ 0) || us.toArray.isEmpty) = false := by rw [emp, Bool.or_false]; simp only [decide_eq_false_iff_not]; omega
  have b4 : Builtin.Tuple.tupleTooMany ((us.toArray.size : Int) * m) = false := by
    unfold Builtin.Tuple.tupleTooMany; rw [sizeLine_eq]; simp only [decide_eq_false_iff_not]; omega
  have mk := tuple_mulW a us.toArray w od ss m tk b0 b1 b2 (by omega) b4 (by rw [size_rep, List.size_toArray]; exact fl)
  refine wpAny_binaryOp_repeat_ref (T := "tuple") (U := "int") (by decide) ⟨_, g, rfl⟩ (fun s' => typeIs_int s' m tk) noFill_tuple_mul F.fills_int_mul F.slot_int_rmul repeat_tuple F.slot_int_index.lookup ?_
  refine call_meets F.slot_int_rmul (typeIs_int s m tk) F.entry_int_rmul (F.args_int_rmul_2 _ _) (int_rmul_tuple m tk a us.toArray w od ss) ⟨g, rfl, ⟨_, g, rfl⟩, ?_⟩
  refine call_meets F.slot_tuple_mul ⟨_, g, rfl⟩ F.entry_tuple_mul (F.args_tuple_mul_2 _ _) mk ⟨g, ?_⟩
  rw [size_rep]
  refine ⟨.ref s.heap.objs.size, upd H s.heap.objs.size (.frz _ (.tup (List.replicate m.toNat vs).flatten)), I.laid (t' := s.toks) (fun _ _ e => Heap.get?_push_of_some _ e) (Nat.le_refl _) (okZ (Heap.get?_push_size _ rfl) rfl rfl ?_ (rv.rep m.toNat)), rfl, q _ _ (I.hok.fresh (Nat.le_refl _)) rfl⟩
  rw [PyProof.Rows.lm_len_rep_flat]; exact repZ_len m2 l1
theorem call_tupleZ : CallR X (.type "tuple") (fun xs H Q => ∃ p ys, xs = [.ref p] ∧ ((SqL X.K H p ys ∧ NewT H ys Q) ∨ (SqT X.K H p ys ∧ Q (.ref p) H))) := by
  intro pins s σ H xs us Q I r h
  obtain ⟨p, ys, rfl, h⟩ := h
  rcases h with ⟨hq, q⟩ | ⟨hq, q⟩
  · obtain ⟨its, rv, pl, hz⟩ := I.list hq
    rw [Vals.ref1 r]
    have hl := rv.length
    apply call_tuple_list pl.isList _ (by rw [List.size_toArray]; omega)
    intro h' kp
    have IA : L2.Inv X pins σ H { s with heap := h' } := I.kept (t' := s.toks) kp
    refine ⟨.ref h'.objs.size, upd H h'.objs.size (.frz _ (.tup ys)), IA.laid (t' := s.toks) (fun _ _ e => Heap.get?_push_of_some _ e) (Nat.le_refl _) (okZ (Heap.get?_push_size _ rfl) rfl rfl hz rv), rfl, ?_⟩
    exact q _ _ (IA.hok.fresh (Nat.le_refl _)) rfl
  · exact call_tuple_of pins s σ H _ us Q I r ⟨p, ys, rfl, .inr ⟨hq, q⟩⟩
end
end Sim

/-! Sim: a data semantics of a def's text, and that the model keeps it. -/
namespace Sim
open PySem L2

abbrev D := PyData
/-- what a listener holds -/
structure LS where
  form : D
  tick : D
  bits : D
  told : D
  past : List D
/-- the state: how many draws there were; the listeners -/
structure Sta where
  n : Nat
  ls : List LS
inductive R (α : Type) where
  | ok (a : α) (n : Sta)
  | exc (c : Nat) (n : Sta)
  | bad
abbrev M (α : Type) := Sta → R α
def ret {α : Type} (a : α) : M α := fun n => .ok a n
def seq {α β : Type} (x : M α) (f : α → M β) : M β := fun n => match x n with
  | .ok a m => f a m
  | .exc c m => .exc c m
  | .bad => .bad
def fault {α : Type} : M α := fun _ => .bad
def lift {α : Type} (o : Option α) : M α := match o with
  | some a => ret a
  | none => fault

abbrev OS := Addr → Prop
def KT (K : PySem.W.Frag) (a : Addr) (xs : List V) : Prop := ∃ (o : Obj) (its : Array Value) (n : Nat), K.lookup a = some o ∧ o.cls = .type "tuple" ∧ o.dict = none ∧ o.data = .seq its n ∧ its.size ≤ sizeLine ∧ Vals xs its.toList
def KL (K : PySem.W.Frag) (a : Addr) (xs : List V) : Prop := ∃ (o : Obj) (its : Array Value) (n : Nat), K.lookup a = some o ∧ o.cls = .type "list" ∧ o.dict = none ∧ o.data = .seq its n ∧ its.size ≤ sizeLine ∧ Vals xs its.toList
def LAt (H : Hp) (O : OS) (a : Addr) (xs : List V) : Prop := Rd H a (.lst xs) ∧ ¬ O a
def TAt (K : PySem.W.Frag) (H : Hp) (O : OS) (a : Addr) (xs : List V) : Prop := (∃ o : Obj, o.dict = none ∧ H a = some (.frz o (.tup xs)) ∧ ¬ O a) ∨ KT K a xs
mutual
/-- the value v is the datum d, none of whose objects is owned -/
inductive Rep (K : PySem.W.Frag) (H : Hp) (O : OS) : V → D → Prop
  | non : Rep K H O .non .none
  | bl (b : Bool) : Rep K H O (.bl b) (.bool b)
  | int (i : Int) : Rep K H O (.int i) (.int i)
  | str (x : Str) : Rep K H O (.str x) (.str x)
  | lst {a : Addr} {xs : List V} {ds : List D} : LAt H O a xs → Reps K H O xs ds → Rep K H O (.ref a) (.list ds)
  | tup {a : Addr} {xs : List V} {ds : List D} : TAt K H O a xs → Reps K H O xs ds → Rep K H O (.ref a) (.tuple ds)
inductive Reps (K : PySem.W.Frag) (H : Hp) (O : OS) : List V → List D → Prop
  | nil : Reps K H O [] []
  | cons {v : V} {vs : List V} {d : D} {ds : List D} : Rep K H O v d → Reps K H O vs ds → Reps K H O (v :: vs) (d :: ds)
end
/-- what is not owned stays, and is not owned later -/
def Step (O : OS) (H : Hp) (O' : OS) (H' : Hp) : Prop := ∀ a o, H a = some o → ¬ O a → H' a = some o ∧ ¬ O' a
theorem Step.refl (O : OS) (H : Hp) : Step O H O H := fun _ _ h n => ⟨h, n⟩
theorem Step.trans {O O1 O2 : OS} {H H1 H2 : Hp} (a : Step O H O1 H1) (b : Step O1 H1 O2 H2) : Step O H O2 H2 := fun x o h n => b x o (a x o h n).1 (a x o h n).2
section
variable {K : PySem.W.Frag} {H H' : Hp} {O O' : OS}
theorem rd_step (st : Step O H O' H') {a : Addr} {u : HO} (r : Rd H a u) (n : ¬ O a) : Rd H' a u ∧ ¬ O' a := by
  rcases r with h | ⟨o, h⟩
  · exact ⟨.inl (st a _ h n).1, (st a _ h n).2⟩
  · exact ⟨.inr ⟨o, (st a _ h n).1⟩, (st a _ h n).2⟩
theorem LAt.step (st : Step O H O' H') {a : Addr} {xs : List V} (h : LAt H O a xs) : LAt H' O' a xs := rd_step st h.1 h.2
theorem TAt.step (st : Step O H O' H') {a : Addr} {xs : List V} (h : TAt K H O a xs) : TAt K H' O' a xs := by
  rcases h with ⟨o, d, h, n⟩ | h
  · exact .inl ⟨o, d, st a _ h n⟩
  · exact .inr h
mutual
theorem Rep.step (st : Step O H O' H') : ∀ (d : D) (v : V), Rep K H O v d → Rep K H' O' v d
  | .none, v, h => by cases h; exact .non
  | .bool b, v, h => by cases h; exact .bl b
  | .int i, v, h => by cases h; exact .int i
  | .str x, v, h => by cases h; exact .str x
  | .list ds, v, h => by
    cases h with
    | lst h1 h2 => exact .lst (h1.step st) (Reps.step st ds _ h2)
  | .tuple ds, v, h => by
    cases h with
    | tup h1 h2 => exact .tup (h1.step st) (Reps.step st ds _ h2)
  | .dict _, v, h => by cases h
theorem Reps.step (st : Step O H O' H') : ∀ (ds : List D) (vs : List V), Reps K H O vs ds → Reps K H' O' vs ds
  | [], vs, h => by cases h; exact .nil
  | d :: ds, vs, h => by
    cases h with
    | cons h1 h2 => exact .cons (Rep.step st d _ h1) (Reps.step st ds _ h2)
end
mutual
theorem Rep.anti (le : ∀ a, O' a → O a) : ∀ (d : D) (v : V), Rep K H O v d → Rep K H O' v d
  | .none, v, h => by cases h; exact .non
  | .bool b, v, h => by cases h; exact .bl b
  | .int i, v, h => by cases h; exact .int i
  | .str x, v, h => by cases h; exact .str x
  | .list ds, v, h => by
    cases h with
    | lst h1 h2 => exact .lst ⟨h1.1, fun q => h1.2 (le _ q)⟩ (Reps.anti le ds _ h2)
  | .tuple ds, v, h => by
    cases h with
    | tup h1 h2 => exact .tup (h1.elim (fun ⟨o, d, h, z⟩ => .inl ⟨o, d, h, fun q => z (le _ q)⟩) .inr) (Reps.anti le ds _ h2)
  | .dict _, v, h => by cases h
theorem Reps.anti (le : ∀ a, O' a → O a) : ∀ (ds : List D) (vs : List V), Reps K H O vs ds → Reps K H O' vs ds
  | [], vs, h => by cases h; exact .nil
  | d :: ds, vs, h => by
    cases h with
    | cons h1 h2 => exact .cons (Rep.anti le d _ h1) (Reps.anti le ds _ h2)
end
theorem LAt.sq {a : Addr} {xs : List V} (h : LAt H O a xs) : SqL K H a xs := .inl h.1
theorem TAt.sq {a : Addr} {xs : List V} (h : TAt K H O a xs) : SqT K H a xs := h.elim (fun ⟨o, _, h, _⟩ => .inl (.inr ⟨o, h⟩)) (fun ⟨o, its, n, l, c, _, d, z, v⟩ => .inr ⟨o, its, n, l, c, d, z, v⟩)
mutual
theorem Rep.dp : ∀ (d : D) (v : V), Rep K H O v d → Dp K H v d
  | .none, v, h => by cases h; exact .non
  | .bool b, v, h => by cases h; exact .bl b
  | .int i, v, h => by cases h; exact .int i
  | .str x, v, h => by cases h; exact .str x
  | .list ds, v, h => by
    cases h with
    | lst h1 h2 => exact .lst h1.sq (Reps.dp ds _ h2)
  | .tuple ds, v, h => by
    cases h with
    | tup h1 h2 => exact .tup h1.sq (Reps.dp ds _ h2)
  | .dict _, v, h => by cases h
theorem Reps.dp : ∀ (ds : List D) (vs : List V), Reps K H O vs ds → DpAll K H vs ds
  | [], vs, h => by cases h; exact .nil
  | d :: ds, vs, h => by
    cases h with
    | cons h1 h2 => exact .cons (Rep.dp d _ h1) (Reps.dp ds _ h2)
end
theorem Reps.length : ∀ {vs : List V} {ds : List D}, Reps K H O vs ds → vs.length = ds.length
  | _, _, .nil => rfl
  | _, _, .cons _ h => congrArg (· + 1) (Reps.length h)
theorem Reps.append : ∀ {vs ws : List V} {ds es : List D}, Reps K H O vs ds → Reps K H O ws es → Reps K H O (vs ++ ws) (ds ++ es)
  | _, _, _, _, .nil, q => q
  | _, _, _, _, .cons r h, q => .cons r (Reps.append h q)
theorem Reps.at : ∀ {vs : List V} {ds : List D} {i : Nat} {v : V}, Reps K H O vs ds → vs[i]? = some v → ∃ d, ds[i]? = some d ∧ Rep K H O v d
  | _, _, _, _, .nil, e => by simp at e
  | _, _, 0, _, .cons r _, e => by simp at e; subst e; exact ⟨_, rfl, r⟩
  | _, _, i + 1, v, .cons _ t, e => by
    obtain ⟨u, h1, h2⟩ := Reps.at (i := i) (v := v) t (by simpa using e)
    exact ⟨u, by simpa using h1, h2⟩
theorem Reps.of : ∀ {vs : List V} {ds : List D} {i : Nat} {d : D}, Reps K H O vs ds → ds[i]? = some d → ∃ v, vs[i]? = some v ∧ Rep K H O v d
  | _, _, _, _, .nil, e => by simp at e
  | _, _, 0, _, .cons r _, e => by simp at e; subst e; exact ⟨_, rfl, r⟩
  | _, _, i + 1, v, .cons _ t, e => by
    obtain ⟨u, h1, h2⟩ := Reps.of (i := i) (d := v) t (by simpa using e)
    exact ⟨u, by simpa using h1, h2⟩
theorem Reps.take : ∀ {vs : List V} {ds : List D} (k : Nat), Reps K H O vs ds → Reps K H O (vs.take k) (ds.take k)
  | _, _, 0, _ => .nil
  | _, _, _ + 1, .nil => .nil
  | _, _, k + 1, .cons r t => .cons r (Reps.take k t)
theorem Reps.drop : ∀ {vs : List V} {ds : List D} (k : Nat), Reps K H O vs ds → Reps K H O (vs.drop k) (ds.drop k)
  | _, _, 0, r => r
  | _, _, _ + 1, .nil => .nil
  | _, _, k + 1, .cons _ t => Reps.drop k t
theorem Reps.set {v : V} {d : D} (r : Rep K H O v d) : ∀ {vs : List V} {ds : List D} (i : Nat), Reps K H O vs ds → Reps K H O (vs.set i v) (ds.set i d)
  | _, _, _, .nil => .nil
  | _, _, 0, .cons _ t => .cons r t
  | _, _, i + 1, .cons q t => .cons q (Reps.set r i t)
theorem Reps.reverse {vs : List V} {ds : List D} (h : Reps K H O vs ds) : Reps K H O vs.reverse ds.reverse := by
  induction h using Reps.rec (motive_1 := fun _ _ _ => True) with
  | nil => exact .nil
  | cons r t ih => rename_i ih2; simp only [List.reverse_cons]; exact Reps.append ih2 (.cons r .nil)
  | _ => trivial
end

/-! ### what a slot holds -/
inductive SV where
  | d (x : D)
  | own (xs : List D)
  | town
  | scr (ns : List Int)
  | ex (a : Addr)
  | lis (k : Nat)
  | dic (kvs : List (Int × D))
  | fd (kvs : List (Int × D))
  | dt (kvs : List ((Int × Bool) × D))
def SV.ow : SV → Bool
  | .own _ => true
  | .dic _ => true
  | .dt _ => true
  | _ => false
/-- the script at a -/
def ScrAt (K : PySem.W.Frag) (H : Hp) (O : OS) (a : Addr) (ns : List Int) : Prop := LAt H O a (ns.map V.int) ∨ KL K a (ns.map V.int)
theorem ScrAt.step {K : PySem.W.Frag} {H H' : Hp} {O O' : OS} (st : Step O H O' H') {a : Addr} {ns : List Int} (h : ScrAt K H O a ns) : ScrAt K H' O' a ns := h.imp (fun z => z.step st) id
theorem ScrAt.sq {K : PySem.W.Frag} {H : Hp} {O : OS} {a : Addr} {ns : List Int} (h : ScrAt K H O a ns) : SqL K H a (ns.map V.int) := h.elim (fun z => z.sq) .inr
theorem ScrAt.anti {K : PySem.W.Frag} {H : Hp} {O O' : OS} (le : ∀ a, O' a → O a) {a : Addr} {ns : List Int} (h : ScrAt K H O a ns) : ScrAt K H O' a ns := h.imp (fun z => ⟨z.1, fun q => z.2 (le _ q)⟩) id
abbrev Env := List (Option SV)
/-! ### what may change: the town, the listeners -/
structure LA where
  a : Addr
  dx : Addr
  pa : Addr
structure Hot where
  t : Addr
  K : PySem.W.Frag
  C : Addr
  L : List LA
def Hot.has (T : Hot) (x : Addr) : Prop := x = T.t ∨ ∃ l ∈ T.L, x = l.a ∨ x = l.pa
def nf : HO → Bool
  | .frz _ _ => false
  | _ => true
/-- there is a thing, and it may change -/
def NF (H : Hp) : OS := fun a => ∃ o, H a = some o ∧ nf o = true
theorem NF.ne {H : Hp} {a : Addr} (h : NF H a) : H a ≠ none := fun z => by obtain ⟨o, e, _⟩ := h; rw [e] at z; cases z
/-- a def's body: what stands fixed while it runs -/
structure Bd where
  K : PySem.W.Frag
  H0 : Hp
  O0 : OS
  T : Hot
  E : XK
  cv : Nat → Value
def Ext (T : Hot) (H H' : Hp) : Prop := ∀ a o, ¬ T.has a → H a = some o → H' a = some o
theorem Ext.refl (T : Hot) (H : Hp) : Ext T H H := fun _ _ _ h => h
theorem Ext.trans {T : Hot} {H H1 H2 : Hp} (a : Ext T H H1) (b : Ext T H1 H2) : Ext T H H2 := fun x o n h => b x o n (a x o n h)
def zeros (n : Nat) : List V := List.replicate n (.int 0)
/-- a listener at la -/
def L1 (K : PySem.W.Frag) (C : Addr) (H : Hp) (la : LA) (l : LS) : Prop := ∃ (f t b d : V) (vs : List V), H la.a = some (.ins C la.dx [("form", f), ("tick", t), ("bits", b), ("told", d), ("past", .ref la.pa)]) ∧ H la.pa = some (.lst vs) ∧
  Rep K H (NF H) f l.form ∧ Rep K H (NF H) t l.tick ∧ Rep K H (NF H) b l.bits ∧ Rep K H (NF H) d l.told ∧ Reps K H (NF H) vs l.past
inductive LsOk (K : PySem.W.Frag) (C : Addr) (H : Hp) : List LA → List LS → Prop
  | nil : LsOk K C H [] []
  | cons {la : LA} {l : LS} {las : List LA} {ls : List LS} : L1 K C H la l → LsOk K C H las ls → LsOk K C H (la :: las) (l :: ls)
def Hot.Ok (T : Hot) : Prop := (∀ l ∈ T.L, l.pa ≠ T.t) ∧ T.L.Pairwise (fun x y => x.a ≠ y.a ∧ x.pa ≠ y.pa)
def Town (T : Hot) (H : Hp) (n : Sta) : Prop := H T.t = some (.lst (zeros n.n)) ∧ LsOk T.K T.C H T.L n.ls ∧ T.Ok
theorem LsOk.nf {K : PySem.W.Frag} {C : Addr} {H : Hp} : ∀ {las : List LA} {ls : List LS}, LsOk K C H las ls → ∀ l ∈ las, NF H l.a ∧ NF H l.pa
  | _, _, .nil, l, h => by cases h
  | _, _, .cons h1 h2, l, h => by
    rcases List.mem_cons.mp h with rfl | h
    · obtain ⟨f, t, b, d, vs, e1, e2, _⟩ := h1
      exact ⟨⟨_, e1, rfl⟩, ⟨_, e2, rfl⟩⟩
    · exact LsOk.nf h2 l h
theorem Town.nf {T : Hot} {H : Hp} {n : Sta} (h : Town T H n) {a : Addr} (ha : T.has a) : NF H a := by
  rcases ha with rfl | ⟨l, hl, rfl | rfl⟩
  · exact ⟨_, h.1, rfl⟩
  · exact (h.2.1.nf l hl).1
  · exact (h.2.1.nf l hl).2
theorem Town.cold {T : Hot} {H : Hp} {n : Sta} (h : Town T H n) {a : Addr} (ha : H a = none) : ¬ T.has a := fun z => (h.nf z).ne ha
/-- what is known to its object stays -/
def Firm (H H' : Hp) : Prop := ∀ a o u, H a = some (.frz o u) → H' a = some (.frz o u)
theorem Firm.step {H H' : Hp} (f : Firm H H') : Step (NF H) H (NF H') H' := fun a o h na => by
  cases o with
  | frz ob u =>
    have e := f a ob u h
    exact ⟨e, fun ⟨o', e', n'⟩ => by rw [e] at e'; cases e'; cases n'⟩
  | _ => exact absurd ⟨_, h, rfl⟩ na
theorem L1.firm {K : PySem.W.Frag} {C : Addr} {H H' : Hp} {la : LA} {l : LS} (f : Firm H H') (h1 : H' la.a = H la.a) (h2 : H' la.pa = H la.pa) (h : L1 K C H la l) : L1 K C H' la l := by
  obtain ⟨vf, vt, vb, vd, vs, e1, e2, r1, r2, r3, r4, r5⟩ := h
  exact ⟨vf, vt, vb, vd, vs, h1.trans e1, h2.trans e2, Rep.step f.step _ _ r1, Rep.step f.step _ _ r2, Rep.step f.step _ _ r3, Rep.step f.step _ _ r4, Reps.step f.step _ _ r5⟩
theorem LsOk.firm {K : PySem.W.Frag} {C : Addr} {H H' : Hp} (f : Firm H H') : ∀ {las : List LA} {ls : List LS}, (∀ l ∈ las, H' l.a = H l.a ∧ H' l.pa = H l.pa) → LsOk K C H las ls → LsOk K C H' las ls
  | _, _, _, .nil => .nil
  | _, _, k, .cons h1 h2 => .cons (h1.firm f (k _ List.mem_cons_self).1 (k _ List.mem_cons_self).2) (LsOk.firm f (fun l hl => k l (List.mem_cons_of_mem _ hl)) h2)
theorem LsOk.len {K : PySem.W.Frag} {C : Addr} {H : Hp} : ∀ {las : List LA} {ls : List LS}, LsOk K C H las ls → las.length = ls.length
  | _, _, .nil => rfl
  | _, _, .cons _ h => congrArg (· + 1) (LsOk.len h)
theorem LsOk.at {K : PySem.W.Frag} {C : Addr} {H : Hp} : ∀ {las : List LA} {ls : List LS} {k : Nat} {la : LA}, LsOk K C H las ls → las[k]? = some la → ∃ l, ls[k]? = some l ∧ L1 K C H la l
  | _, _, _, _, .nil, e => by simp at e
  | _, _, 0, _, .cons r _, e => by simp at e; subst e; exact ⟨_, rfl, r⟩
  | _, _, k + 1, la, .cons _ t, e => by
    obtain ⟨u, h1, h2⟩ := LsOk.at (k := k) (la := la) t (by simpa using e)
    exact ⟨u, by simpa using h1, h2⟩
theorem Town.keep {T : Hot} {H H' : Hp} {n : Sta} (t : Town T H n) (f : Firm H H') (k : ∀ a, T.has a → H' a = H a) : Town T H' n :=
  ⟨(k _ (.inl rfl)).trans t.1, t.2.1.firm f fun l hl => ⟨k _ (.inr ⟨l, hl, .inl rfl⟩), k _ (.inr ⟨l, hl, .inr rfl⟩)⟩, t.2.2⟩
theorem same_town {T : Hot} {n : Sta} {H H' : Hp} (s : Same H H') (t : Town T H n) : Town T H' n := t.keep (fun a o u h => s a _ h) fun a ha => by
  obtain ⟨o, e, _⟩ := t.nf ha
  rw [e]; exact s a o e
/-! ### dicts: keys ints, or pairs of an int and a truth value -/
inductive EntI (K : PySem.W.Frag) (H : Hp) (O : OS) : List (L2.Key × V) → List (Int × D) → Prop
  | nil : EntI K H O [] []
  | cons {i : Int} {v : V} {vs : List (L2.Key × V)} {d : D} {ds : List (Int × D)} : Rep K H O v d → EntI K H O vs ds → EntI K H O ((.inl i, v) :: vs) ((i, d) :: ds)
theorem EntI.step {K : PySem.W.Frag} {H H' : Hp} {O O' : OS} (st : Step O H O' H') {vs : List (L2.Key × V)} {ds : List (Int × D)} (h : EntI K H O vs ds) : EntI K H' O' vs ds := by
  induction h with
  | nil => exact .nil
  | cons h1 _ ih => exact .cons (Rep.step st _ _ h1) ih
inductive EntT (K : PySem.W.Frag) (H : Hp) (O : OS) : List ((Int × Bool) × Addr × V) → List ((Int × Bool) × D) → Prop
  | nil : EntT K H O [] []
  | cons {k : Int × Bool} {q : Addr} {v : V} {vs : List ((Int × Bool) × Addr × V)} {d : D} {ds : List ((Int × Bool) × D)} : Rep K H O (.ref q) (.tuple [.int k.1, .bool k.2]) → Rep K H O v d → EntT K H O vs ds → EntT K H O ((k, q, v) :: vs) ((k, d) :: ds)
theorem EntT.step {K : PySem.W.Frag} {H H' : Hp} {O O' : OS} (st : Step O H O' H') {vs : List ((Int × Bool) × Addr × V)} {ds : List ((Int × Bool) × D)} (h : EntT K H O vs ds) : EntT K H' O' vs ds := by
  induction h with
  | nil => exact .nil
  | cons h0 h1 _ ih => exact .cons (Rep.step st _ _ h0) (Rep.step st _ _ h1) ih
theorem EntT.anti {K : PySem.W.Frag} {H : Hp} {O O' : OS} (le : ∀ a, O' a → O a) {vs : List ((Int × Bool) × Addr × V)} {ds : List ((Int × Bool) × D)} (h : EntT K H O vs ds) : EntT K H O' vs ds := by
  induction h with
  | nil => exact .nil
  | cons h0 h1 _ ih => exact .cons (Rep.anti le _ _ h0) (Rep.anti le _ _ h1) ih
def numB (b : Bool) : Int := if b = true then 1 else 0
def nkHash (k : Int × Bool) : Int := reduceHash (Builtin.Tuple.tupleHashOf [hashInt k.1, hashInt (numB k.2)])
/-- the dict at a, its entries: the key, where its tuple stands, the value -/
def KDo (a : Addr) (es : List ((Int × Bool) × Addr × V)) : HO := .ext fun h => (es.length ≤ sizeLine ∧ (a == sysModules) = false) ∧ ∃ (ob : Obj) (en : Array DictEntry) (ep : Nat) (xs : List ((Int × Bool) × Addr × Value)),
  h.get? a = some ob ∧ ob.ExactDict ∧ ob.data = .dict en ep ∧ Paired (fun (p : (Int × Bool) × Addr × V) (q : (Int × Bool) × Addr × Value) => (p.1 = q.1 ∧ p.2.1 = q.2.1) ∧ RelV p.2.2 q.2.2) es xs ∧ en.toList = xs.map (fun x => (⟨nkHash x.1, .ref x.2.1, x.2.2⟩ : DictEntry)) ∧ (xs.map (·.1)).Nodup
def SlotOk (B : Bd) (H : Hp) (O : OS) (v : V) : SV → Prop
  | .d x => Rep B.K H O v x
  | .own xs => ∃ a vs, v = .ref a ∧ O a ∧ ¬ B.O0 a ∧ ¬ B.T.has a ∧ H a = some (.lst vs) ∧ Reps B.K H O vs xs
  | .town => v = .ref B.T.t
  | .scr ns => ∃ a, v = .ref a ∧ ScrAt B.K H O a ns
  | .ex a => v = .ref a
  | .lis k => ∃ la, B.T.L[k]? = some la ∧ v = .ref la.a
  | .dic kvs => ∃ a vs, v = .ref a ∧ O a ∧ ¬ B.O0 a ∧ ¬ B.T.has a ∧ H a = some (.dK vs) ∧ EntI B.K H O vs kvs
  | .fd kvs => ∃ a ob vs, v = .ref a ∧ ¬ O a ∧ H a = some (.frz ob (.dK vs)) ∧ EntI B.K H O vs kvs
  | .dt kvs => ∃ a es, v = .ref a ∧ O a ∧ ¬ B.O0 a ∧ ¬ B.T.has a ∧ H a = some (KDo a es) ∧ EntT B.K H O es kvs
structure Sim (B : Bd) (env : Env) (O : OS) (n : Sta) (σ : L2.St) (H : Hp) : Prop where
  len : env.length = σ.length
  slot : ∀ (i : Nat) (sv : SV), env[i]? = some (some sv) → ∃ v, σ[i]? = some (some v) ∧ SlotOk B H O v sv
  sep : ∀ (i j : Nat) (sv tv : SV) (v : V), i ≠ j → env[i]? = some (some sv) → sv.ow = true → env[j]? = some (some tv) → tv.ow = true → σ[i]? = some (some v) → σ[j]? ≠ some (some v)
  dom : ∀ a, O a → NF H a
  town : Town B.T H n
  tO : ∀ a, B.T.has a → O a
  fr1 : Ext B.T B.H0 H
  fr2 : ∀ a, O a → B.O0 a ∨ B.H0 a = none
  fr3 : ∀ a, B.O0 a → O a
  tK : B.T.K = B.K
  tC : ∀ l ∈ B.T.L, B.cv 100 = .ref B.T.C
section
variable {B : Bd} {env : Env} {O O' : OS} {n n' : Sta} {σ : L2.St} {H H' : Hp}
theorem step_of (tO : ∀ a, B.T.has a → O a) (e : Ext B.T H H') : Step O H O H' := fun a o h na => ⟨e a o (fun z => na (tO a z)) h, na⟩
theorem SlotOk.ow {v : V} {sv : SV} (h : SlotOk B H O v sv) (w : sv.ow = true) : ∃ a, v = .ref a ∧ O a ∧ ¬ B.O0 a ∧ ¬ B.T.has a ∧ H a ≠ none := by
  cases sv with
  | own xs =>
    obtain ⟨a, vs, e1, o1, o2, ne, hv, r⟩ := h
    exact ⟨a, e1, o1, o2, ne, by rw [hv]; simp⟩
  | dic kvs =>
    obtain ⟨a, vs, e1, o1, o2, ne, hv, r⟩ := h
    exact ⟨a, e1, o1, o2, ne, by rw [hv]; simp⟩
  | dt kvs =>
    obtain ⟨a, vs, e1, o1, o2, ne, hv, r⟩ := h
    exact ⟨a, e1, o1, o2, ne, by rw [hv]; simp⟩
  | _ => cases w
theorem SlotOk.to (st : Step O H O' H') {v : V} {sv : SV} (k : sv.ow = true → ∀ a, v = .ref a → O a → ¬ B.T.has a → O' a ∧ ∀ o, H a = some o → H' a = some o) (h : SlotOk B H O v sv) : SlotOk B H' O' v sv := by
  cases sv with
  | d x => exact Rep.step st _ _ h
  | own xs =>
    obtain ⟨a, vs, e1, o1, o2, ne, hv, r⟩ := h
    exact ⟨a, vs, e1, (k rfl a e1 o1 ne).1, o2, ne, (k rfl a e1 o1 ne).2 _ hv, Reps.step st _ _ r⟩
  | town => exact h
  | scr ns => exact h.imp fun a z => ⟨z.1, z.2.step st⟩
  | ex a => exact h
  | lis k => exact h
  | dic kvs =>
    obtain ⟨a, vs, e1, o1, o2, ne, hv, r⟩ := h
    exact ⟨a, vs, e1, (k rfl a e1 o1 ne).1, o2, ne, (k rfl a e1 o1 ne).2 _ hv, r.step st⟩
  | fd kvs =>
    obtain ⟨a, ob, vs, e1, o1, hv, r⟩ := h
    exact ⟨a, ob, vs, e1, (st a _ hv o1).2, (st a _ hv o1).1, r.step st⟩
  | dt kvs =>
    obtain ⟨a, vs, e1, o1, o2, ne, hv, r⟩ := h
    exact ⟨a, vs, e1, (k rfl a e1 o1 ne).1, o2, ne, (k rfl a e1 o1 ne).2 _ hv, r.step st⟩
theorem SlotOk.ext (tO : ∀ a, B.T.has a → O a) (e : Ext B.T H H') {v : V} {sv : SV} (h : SlotOk B H O v sv) : SlotOk B H' O v sv :=
  h.to (step_of tO e) fun _ a _ o1 ne => ⟨o1, fun o q => e a o ne q⟩
theorem dom_ext (e : Ext B.T H H') (t : Town B.T H' n') (dom : ∀ a, O a → NF H a) : ∀ a, O a → NF H' a := fun a h => by
  by_cases z : B.T.has a
  · exact t.nf z
  · obtain ⟨o, e1, n1⟩ := dom a h
    exact ⟨o, e a o z e1, n1⟩
theorem Sim.ext (s : Sim B env O n σ H) (e : Ext B.T H H') (t : Town B.T H' n') : Sim B env O n' σ H' where
  len := s.len
  slot := fun i sv h => let ⟨v, h1, h2⟩ := s.slot i sv h; ⟨v, h1, h2.ext s.tO e⟩
  sep := s.sep
  dom := dom_ext e t s.dom
  town := t
  tO := s.tO
  fr1 := s.fr1.trans e
  fr2 := s.fr2
  fr3 := s.fr3
  tK := s.tK
  tC := s.tC
end
/-- what is wanted of an exception that leaves the body -/
def XPost (B : Bd) (c : Nat) (n : Sta) : Prop := ∀ H', Ext B.T B.H0 H' → Town B.T H' n → B.E (B.cv c) none H'
def Post {α β : Type} (B : Bd) (P : Hp → Hp → β → α → Prop) (H : Hp) (r : R α) (Q : β → Hp → Prop) : Prop :=
  match r with
  | .ok a n => ∀ b H', Ext B.T H H' → Town B.T H' n → P H H' b a → Q b H'
  | .exc c n => XPost B c n
  | .bad => False
def tG {α β : Type} (B : Bd) (P : OS → Hp → Hp → β → α → Prop) (f : Env → M α) (σ : L2.St) (H : Hp) (Q : β → Hp → Prop) : Prop :=
  ∃ env O n, Sim B env O n σ H ∧ Post B (P O) H (f env n) Q
/-- shared; borrowed; a new list; a truth value; arguments -/
def pE (B : Bd) : OS → Hp → Hp → V → D → Prop := fun O _ H' v d => Rep B.K H' O v d
def Brw (B : Bd) (H : Hp) (O : OS) (v : V) (d : D) : Prop := Rep B.K H O v d ∨ ∃ a xs ds, v = .ref a ∧ d = .list ds ∧ ¬ B.T.has a ∧ H a = some (.lst xs) ∧ Reps B.K H O xs ds
def pB (B : Bd) : OS → Hp → Hp → V → D → Prop := fun O _ H' v d => Brw B H' O v d
def addO (O : OS) (p : Addr) : OS := fun a => O a ∨ a = p
def pN (B : Bd) : OS → Hp → Hp → V → List D → Prop := fun O H H' v ds => ∃ a xs, v = .ref a ∧ H a = none ∧ H' a = some (.lst xs) ∧ Reps B.K H' (addO O a) xs ds
def pT : OS → Hp → Hp → Bool → Bool → Prop := fun _ _ _ b a => b = a
def ArgOk (B : Bd) (H : Hp) (O : OS) (v : V) : SV → Prop
  | .d x => Rep B.K H O v x
  | .own _ => False
  | .town => v = .ref B.T.t
  | .scr ns => ∃ a, v = .ref a ∧ ScrAt B.K H O a ns
  | .ex a => v = .ref a
  | .lis k => ∃ la, B.T.L[k]? = some la ∧ v = .ref la.a
  | .dic _ => False
  | .fd _ => False
  | .dt _ => False
inductive ArgsOk (B : Bd) (H : Hp) (O : OS) : List V → List SV → Prop
  | nil : ArgsOk B H O [] []
  | cons {v : V} {vs : List V} {a : SV} {as : List SV} : ArgOk B H O v a → ArgsOk B H O vs as → ArgsOk B H O (v :: vs) (a :: as)
def pA (B : Bd) : OS → Hp → Hp → List V → List SV → Prop := fun O _ H' vs as => ArgsOk B H' O vs as
/-- data alone, borrowed -/
inductive Brws (B : Bd) (H : Hp) (O : OS) : List V → List D → Prop
  | nil : Brws B H O [] []
  | cons {v : V} {vs : List V} {a : D} {as : List D} : Brw B H O v a → Brws B H O vs as → Brws B H O (v :: vs) (a :: as)
def pBs (B : Bd) : OS → Hp → Hp → List V → List D → Prop := fun O _ H' vs as => Brws B H' O vs as
abbrev SE (X : Cx) (B : Bd) (e : Expr) (f : Env → M D) : Prop := PE X e (tG B (pE B) f)
abbrev SB (X : Cx) (B : Bd) (e : Expr) (f : Env → M D) : Prop := PE X e (tG B (pB B) f)
abbrev SN (X : Cx) (B : Bd) (e : Expr) (f : Env → M (List D)) : Prop := PE X e (tG B (pN B) f)
abbrev ST (X : Cx) (B : Bd) (e : Expr) (f : Env → M Bool) : Prop := PT X e (tG B pT f)
abbrev SW (X : Cx) (B : Bd) (e : Expr) (f : Env → M Bool) : Prop := PW X e (tG B pT f)
abbrev SA (X : Cx) (B : Bd) (es : List Expr) (f : Env → M (List SV)) : Prop := PA X es (tG B (pA B) f)
abbrev SBs (X : Cx) (B : Bd) (es : List Expr) (f : Env → M (List D)) : Prop := PA X es (tG B (pBs B) f)
theorem pe_weak {X : Cx} {e : Expr} {t t' : TE} (h : PE X e t) (k : ∀ σ H Q, t' σ H Q → t σ H Q) : PE X e t' := ⟨fun pins s σ H Q I q => h.run pins s σ H Q I (k σ H Q q)⟩
theorem pt_weak {X : Cx} {e : Expr} {t t' : TT} (h : PT X e t) (k : ∀ σ H Q, t' σ H Q → t σ H Q) : PT X e t' := ⟨fun pins s σ H Q I q => h.run pins s σ H Q I (k σ H Q q)⟩
theorem pw_weak {X : Cx} {e : Expr} {t t' : TT} (h : PW X e t) (k : ∀ σ H Q, t' σ H Q → t σ H Q) : PW X e t' := ⟨fun wh pins s σ H Q I q => h.run wh pins s σ H Q I (k σ H Q q)⟩
theorem pa_weak {X : Cx} {e : List Expr} {t t' : TA} (h : PA X e t) (k : ∀ σ H Q, t' σ H Q → t σ H Q) : PA X e t' := ⟨fun pos pins s σ H Q I q => h.run pos pins s σ H Q I (k σ H Q q)⟩
theorem ps_weak {X : Cx} {e : Stmt} {t t' : TS} (h : PS X e t) (k : ∀ D σ H, t' D σ H → t D σ H) : PS X e t' := ⟨fun pins s σ H D I q => h.run pins s σ H D I (k D σ H q)⟩
theorem pss_weak {X : Cx} {e : List Stmt} {t t' : TS} (h : PSs X e t) (k : ∀ D σ H, t' D σ H → t D σ H) : PSs X e t' := ⟨fun pins s σ H D I q => h.run pins s σ H D I (k D σ H q)⟩

section
variable {B : Bd} {α β γ δ : Type} {P : OS → Hp → Hp → β → α → Prop} {P' : OS → Hp → Hp → δ → γ → Prop} {σ : L2.St} {H : Hp} {Q : δ → Hp → Prop}
/-- the first part of a sequence, then the rest -/
theorem tG_seq {f : Env → M α} {g : Env → α → M γ} {Y : β → Hp → Prop} {env : Env} {O : OS} {n : Sta} (s : Sim B env O n σ H) (h : Post B (P' O) H (seq (f env) (g env) n) Q)
    (k : ∀ a b n1 H1, f env n = .ok a n1 → Sim B env O n1 σ H1 → Ext B.T H H1 → P O H H1 b a → Post B (P' O) H (g env a n1) Q → Y b H1) : tG B P f σ H Y := by
  refine ⟨env, O, n, s, ?_⟩
  unfold seq at h
  cases e : f env n with
  | ok a n1 =>
    rw [e] at h
    intro b H1 ex tw p
    exact k a b n1 H1 e (s.ext ex tw) ex p h
  | exc c n1 => rw [e] at h; exact h
  | bad => rw [e] at h; exact h.elim
end
/-- the rest, seen from a later heap -/
theorem Post.later {B : Bd} {α β : Type} {P : Hp → Hp → β → α → Prop} {H H1 : Hp} {r : R α} {Q : β → Hp → Prop} (h : Post B P H r Q) (e : Ext B.T H H1) (k : ∀ H' b a, P H1 H' b a → P H H' b a) : Post B P H1 r Q := by
  cases r with
  | ok a n => exact fun b H' e' t p => h b H' (e.trans e') t (k H' b a p)
  | exc c n => exact h
  | bad => exact h
end Sim

namespace Sim
open PySem L2

/-! ### the operations on data -/
def big : Nat := 1000000
theorem big_line : big ≤ sizeLine := by decide
def addD : D → D → Option D
  | .int i, .int j => some (.int (i + j))
  | .str x, .str y => if x.length + y.length ≤ big then some (.str (x ++ y)) else none
  | .list xs, .list ys => if xs.length + ys.length ≤ big then some (.list (xs ++ ys)) else none
  | .tuple xs, .tuple ys => if xs.length + ys.length ≤ big then some (.tuple (xs ++ ys)) else none
  | _, _ => none
def subD : D → D → Option D
  | .int i, .int j => some (.int (i - j))
  | _, _ => none
def mulD : D → D → Option D
  | .int i, .int j => if i.natAbs < 2 ^ 64 ∨ j.natAbs < 2 ^ 64 then some (.int (i * j)) else none
  | .str x, .int k => if k.natAbs ≤ 1000 ∧ x.length ≤ 1000 then some (.str (Txt.mul x k)) else none
  | .list xs, .int k => if k.natAbs ≤ 1000 ∧ xs.length ≤ 1000 then some (.list (List.replicate k.toNat xs).flatten) else none
  | .tuple xs, .int k => if 2 ≤ k ∧ k ≤ 1000 ∧ xs ≠ [] ∧ xs.length ≤ 1000 then some (.tuple (List.replicate k.toNat xs).flatten) else none
  | _, _ => none
def fdivD : D → D → Option D
  | .int i, .int j => if 0 < j ∧ j.natAbs < 2 ^ 1000 then some (.int (i / j)) else none
  | _, _ => none
def modD : D → D → Option D
  | .int i, .int j => if 0 < j then some (.int (i % j)) else none
  | _, _ => none
def powD : D → D → Option D
  | .int i, .int j => if 0 ≤ j ∧ j ≤ 1000000 ∧ i.natAbs < 2 ^ 64 then some (.int (i ^ j.toNat)) else none
  | _, _ => none
def eqD (d e : D) : Option D := if min d.depth e.depth ≤ 60 then some (.bool (PyData.eqv d e)) else none
def neD (d e : D) : Option D := if min d.depth e.depth ≤ 60 then some (.bool (!PyData.eqv d e)) else none
def cmpB (d e : D) : Bool := PySem.W.alike d e && (match d with | .none => false | _ => true) && decide (min d.depth e.depth ≤ 60)
theorem cmpB_of {d e : D} (h : cmpB d e = true) : PySem.W.alike d e = true ∧ d ≠ .none ∧ min d.depth e.depth ≤ 60 := by
  unfold cmpB at h
  rw [Bool.and_eq_true, Bool.and_eq_true, decide_eq_true_eq] at h
  refine ⟨h.1.1, fun z => ?_, h.2⟩
  subst z
  exact absurd h.1.2 (by decide)
def ltD : D → D → Option D
  | .int i, .int j => some (.bool (decide (i < j)))
  | d, e => if cmpB d e = true then some (.bool (PySem.W.dataLt d e)) else none
def leD : D → D → Option D
  | .int i, .int j => some (.bool (decide (i ≤ j)))
  | d, e => if cmpB d e = true then some (.bool (!PySem.W.dataLt e d)) else none
def gtD : D → D → Option D
  | .int i, .int j => some (.bool (decide (j < i)))
  | d, e => if cmpB d e = true then some (.bool (PySem.W.dataLt e d)) else none
def geD : D → D → Option D
  | .int i, .int j => some (.bool (decide (j ≤ i)))
  | d, e => if cmpB d e = true then some (.bool (!PySem.W.dataLt d e)) else none
def inB : D → D → Option Bool
  | x, .list xs => if min (PyData.depthAll xs) x.depth ≤ 60 then some (xs.any fun y => PyData.eqv y x) else none
  | x, .tuple xs => if min (PyData.depthAll xs) x.depth ≤ 60 then some (xs.any fun y => PyData.eqv y x) else none
  | .str a, .str b => match a.cps.toList with
    | [c] => some (decide (c ∈ b.cps.toList))
    | _ => none
  | _, _ => none
def inD (x y : D) : Option D := (inB x y).map .bool
def notInD (x y : D) : Option D := (inB x y).map fun b => .bool (!b)

/-- what a two-place rule says of data -/
def rD (B : Bd) (g : D → D → Option D) : R2 := fun x y H Q => ∃ O d e z, (∀ a, O a → NF H a) ∧ Brw B H O x d ∧ Brw B H O y e ∧ g d e = some z ∧ ∀ v H', Same H H' → Rep B.K H' O v z → Q v H'
def OpD (X : Cx) (B : Bd) (f : Value → Value → Sem Value) (g : D → D → Option D) : Prop := OpR X f (rD B g)
theorem OpR.imp {X : Cx} {f : Value → Value → Sem Value} {r r' : R2} (h : OpR X f r) (k : ∀ x y H Q, r' x y H Q → r x y H Q) : OpR X f r' := fun pins s σ H x y v u Q I rx ry q => h pins s σ H x y v u Q I rx ry (k x y H Q q)
section
variable {X : Cx} {B : Bd} {H H' : Hp} {O : OS}
theorem Brw.int {v : V} {i : Int} (h : Brw B H O v (.int i)) : v = .int i := by
  rcases h with h | ⟨_, _, _, _, e, _⟩
  · cases h; rfl
  · cases e
theorem Brw.str {v : V} {i : Str} (h : Brw B H O v (.str i)) : v = .str i := by
  rcases h with h | ⟨_, _, _, _, e, _⟩
  · cases h; rfl
  · cases e
theorem Brw.bool {v : V} {i : Bool} (h : Brw B H O v (.bool i)) : v = .bl i := by
  rcases h with h | ⟨_, _, _, _, e, _⟩
  · cases h; rfl
  · cases e
theorem Brw.none {v : V} (h : Brw B H O v .none) : v = .non := by
  rcases h with h | ⟨_, _, _, _, e, _⟩
  · cases h; rfl
  · cases e
theorem Brw.list {v : V} {ds : List D} (h : Brw B H O v (.list ds)) : ∃ a xs, v = .ref a ∧ Rd H a (.lst xs) ∧ Reps B.K H O xs ds := by
  rcases h with h | ⟨a, xs, es, e1, e2, _, e3, e4⟩
  · cases h with
    | lst h1 h2 => exact ⟨_, _, rfl, h1.1, h2⟩
  · cases e2
    exact ⟨a, xs, e1, .inl e3, e4⟩
theorem Brw.tup {v : V} {ds : List D} (h : Brw B H O v (.tuple ds)) : ∃ a xs, v = .ref a ∧ TAt B.K H O a xs ∧ Reps B.K H O xs ds := by
  rcases h with h | ⟨_, _, _, _, e, _⟩
  · cases h with
    | tup h1 h2 => exact ⟨_, _, rfl, h1, h2⟩
  · cases e
theorem Brw.nodict {v : V} {ds : List (D × D)} (h : Brw B H O v (.dict ds)) : False := by
  rcases h with h | ⟨_, _, _, _, e, _⟩
  · cases h
  · cases e
theorem Brw.dp {v : V} {d : D} (h : Brw B H O v d) : Dp B.K H v d := by
  rcases h with h | ⟨a, xs, es, rfl, rfl, _, e3, e4⟩
  · exact Rep.dp _ _ h
  · exact .lst (.inl (.inl e3)) (Reps.dp _ _ e4)
mutual
theorem plain_dp {K : PySem.W.Frag} {H : Hp} : ∀ (d : D) (v : V), Dp K H v d → d.plain = true
  | .none, _, _ => rfl
  | .bool _, _, _ => rfl
  | .int _, _, _ => rfl
  | .str _, _, _ => rfl
  | .list xs, v, h => by
    cases h with
    | lst _ h2 => exact plainAll_dp xs _ h2
  | .tuple xs, v, h => by
    cases h with
    | tup _ h2 => exact plainAll_dp xs _ h2
  | .dict _, v, h => by cases h
theorem plainAll_dp {K : PySem.W.Frag} {H : Hp} : ∀ (ds : List D) (vs : List V), DpAll K H vs ds → PyData.plainAll ds = true
  | [], _, _ => rfl
  | d :: ds, vs, h => by
    cases h with
    | cons h1 h2 =>
      show (d.plain && PyData.plainAll ds) = true
      rw [plain_dp d _ h1, plainAll_dp ds _ h2]; rfl
end
theorem same_ext {T : Hot} (s : Same H H') : Ext T H H' := fun a o _ h => s a o h
theorem same_new {p : Addr} {o : HO} (h : H p = none) : Same H (upd H p o) := fun a u e => by rw [upd_ne (ne_of_none e h)]; exact e
theorem same_step (s : Same H H') : Step O H O H' := fun a o h n => ⟨s a o h, n⟩
/-- a new list, a new tuple -/
theorem rep_newL {p : Addr} {xs : List V} {ds : List D} (dom : ∀ a, O a → NF H a) (hp : H p = none) (r : Reps B.K H O xs ds) : Rep B.K (upd H p (.lst xs)) O (.ref p) (.list ds) :=
  .lst ⟨.inl upd_same, fun z => (dom p z).ne hp⟩ (Reps.step (same_step (same_new hp)) _ _ r)
theorem rep_newT {p : Addr} {o : Obj} {xs : List V} {ds : List D} (dom : ∀ a, O a → NF H a) (hp : H p = none) (od : o.dict = none) (r : Reps B.K H O xs ds) : Rep B.K (upd H p (.frz o (.tup xs))) O (.ref p) (.tuple ds) :=
  .tup (.inl ⟨o, od, upd_same, fun z => (dom p z).ne hp⟩) (Reps.step (same_step (same_new hp)) _ _ r)
theorem lstR {pins : List (Addr × Obj)} {σ : L2.St} {s : Shared} {l : Addr} {xs : List V} (I : Inv X pins σ H s) (r : Rd H l (.lst xs)) : xs.length ≤ sizeLine ∧ ∃ (its : List Value) (n : Nat), Vals xs its ∧ xs.length = its.length ∧ s.heap.get? l = some { cls := .type "list", data := .seq its.toArray n } := by
  obtain ⟨z, its, n, rv, e⟩ := r.ok I.hok
  exact ⟨z, its, n, rv, rv.length, e⟩
/-! ### + -/
def rCatR : R2 := fun x y H Q => ∃ l b xs zs, x = .ref l ∧ y = .ref b ∧ Rd H l (.lst xs) ∧ Rd H b (.lst zs) ∧ xs.length + zs.length ≤ sizeLine ∧ ∀ p, H p = none → Q (.ref p) (upd H p (.lst (xs ++ zs)))
theorem op_catR : OpR X (binaryOp .Add) rCatR := by
  intro pins s σ H x y v u Q I rx ry h
  obtain ⟨l, b, xs, zs, rfl, rfl, hH, hB, hz, q⟩ := h
  cases rx
  cases ry
  obtain ⟨z, its, n, r, hl, e⟩ := lstR I hH
  obtain ⟨z2, its2, n2, r2, hl2, e2⟩ := lstR I hB
  refine PySem.P.add_list e e2 ?_ (by rw [List.size_toArray, List.size_toArray]; omega)
  have ea : its.toArray ++ its2.toArray = (its ++ its2).toArray := by simp
  rw [ea]
  exact ⟨.ref _, _, I.lnew (t' := s.toks) (r.append r2) (by rw [List.length_append]; omega), rfl, q _ I.fresh⟩
theorem opd_add (hK : B.K = X.K) : OpD X B (binaryOp .Add) addD := by
  refine OpR.imp (OpR.or op_add (OpR.or op_add_str (OpR.or op_catR op_catZ))) fun x y H Q h => ?_
  obtain ⟨O, d, e, z, dom, hx, hy, hz, q⟩ := h
  unfold addD at hz
  split at hz
  · cases hz; left
    exact ⟨_, _, hx.int, hy.int, q _ _ (fun _ _ h => h) (.int _)⟩
  · split at hz
    · rename_i hl
      cases hz; right; left
      exact ⟨_, _, hx.str, hy.str, Nat.le_trans hl big_line, q _ _ (fun _ _ h => h) (.str _)⟩
    · cases hz
  · split at hz
    · rename_i hl
      cases hz; right; right; left
      obtain ⟨a, xs, rfl, ra, rxs⟩ := hx.list
      obtain ⟨b, ys, rfl, rb, rys⟩ := hy.list
      refine ⟨a, b, xs, ys, rfl, rfl, ra, rb, ?_, fun p hp => q _ _ (same_new hp) (rep_newL dom hp (rxs.append rys))⟩
      rw [rxs.length, rys.length]; exact Nat.le_trans hl big_line
    · cases hz
  · split at hz
    · rename_i hl
      cases hz; right; right; right
      obtain ⟨a, xs, rfl, ra, rxs⟩ := hx.tup
      obtain ⟨b, ys, rfl, rb, rys⟩ := hy.tup
      rw [hK] at ra rb
      refine ⟨a, b, xs, ys, rfl, rfl, ra.sq, rb.sq, ?_, fun e => ?_, fun _ e => ?_, fun _ _ p o hp od => q _ _ (same_new hp) (rep_newT dom hp od (rxs.append rys))⟩
      · rw [rxs.length, rys.length]; exact Nat.le_trans hl big_line
      · subst e; cases rxs
        rw [← hK] at rb
        exact q _ _ (fun _ _ h => h) (.tup rb rys)
      · subst e; cases rys
        rw [← hK] at ra
        rw [List.append_nil] at q
        exact q _ _ (fun _ _ h => h) (.tup ra rxs)
    · cases hz
  · cases hz
theorem opd_sub : OpD X B (binaryOp .Sub) subD := by
  refine OpR.imp op_sub fun x y H Q h => ?_
  obtain ⟨O, d, e, z, dom, hx, hy, hz, q⟩ := h
  unfold subD at hz
  split at hz
  · cases hz; exact ⟨_, _, hx.int, hy.int, q _ _ (fun _ _ h => h) (.int _)⟩
  · cases hz
/-! ### * -/
def rRepR : R2 := fun x y H Q => ∃ l k xs, x = .ref l ∧ y = .int k ∧ Rd H l (.lst xs) ∧ -(2 ^ 63) ≤ k ∧ k < 2 ^ 63 ∧ xs.length * k.toNat ≤ sizeLine ∧
  ∀ p, H p = none → Q (.ref p) (upd H p (.lst (List.replicate k.toNat xs).flatten))
open PyProof.Rows PySem.Spec in
theorem op_repR : OpR X (binaryOp .Mult) rRepR := by
  intro pins s σ H x y v u Q I rx ry h
  obtain ⟨l, k, xs, rfl, rfl, hH, h1, h2, hz, q⟩ := h
  cases rx
  obtain ⟨t, rfl⟩ := ry
  obtain ⟨z, its, n, r, hl, e⟩ := lstR I hH
  have hlen : its.toArray.size * k.toNat ≤ sizeLine := by rw [List.size_toArray, ← hl]; exact hz
  have hcap : ¬ its.toArray.size * k.toNat > (2 ^ 63 - 1) / 8 := by
    have : (sizeLine : Nat) ≤ (2 ^ 63 - 1) / 8 := by decide
    omega
  have hfit : ¬ (!Builtin.List.listFitsIndex k) = true := by
    rw [fitsIndex_both h1 h2]
    exact Bool.false_ne_true
  have hlong : ¬ Builtin.List.listTooLong (its.toArray.size * k.toNat) = true := by
    rw [notLongL hlen]
    exact Bool.false_ne_true
  have hnew : List.foldl (fun x1 x2 => x1 ++ x2) #[] (List.replicate (if its.toArray.isEmpty = true then 0 else k.toNat) its.toArray) = (List.replicate k.toNat its).flatten.toArray := by
    have f0 : ∀ m : Nat, List.foldl (fun x1 x2 => x1 ++ x2) #[] (List.replicate m its.toArray) = (List.replicate m its).flatten.toArray := fun m => by
      have := foldl_rep its m []
      rw [List.nil_append] at this
      exact this
    rw [f0]
    cases its with
    | nil => simp
    | cons a r' => rw [if_neg (by simp)]
  refine wpAny_binaryOp_repeat_ref (T := "list") (U := "int") (by decide) ⟨_, e, rfl⟩ (fun s' => typeIs_int s' k t) noFill_list_mul F.fills_int_mul F.slot_int_rmul repeat_list F.slot_int_index.lookup
    (call_meets F.slot_int_rmul (typeIs_int s k t) F.entry_int_rmul (F.args_int_rmul_2 _ _) (int___rmul___int_list k t l its.toArray n)
      ⟨e, rfl, ⟨_, e, rfl⟩, call_meets F.slot_list_mul ⟨_, e, rfl⟩ F.entry_list_mul (F.args_list_mul_2 _ _) (AutoListH.list___mul___list_int_3 l its.toArray n k t hfit hcap hlong) ⟨e, ?_⟩⟩)
  rw [hnew]
  exact ⟨.ref _, _, I.lnew (t' := s.toks) (r.rep k.toNat) (by rw [PyProof.Rows.lm_len_rep_flat, Nat.mul_comm]; exact hz), rfl, q _ I.fresh⟩
theorem Reps.rep {K : PySem.W.Frag} {vs : List V} {ds : List D} (h : Reps K H O vs ds) : ∀ k : Nat, Reps K H O (List.replicate k vs).flatten (List.replicate k ds).flatten
  | 0 => by simp; exact .nil
  | k + 1 => by simp only [List.replicate_succ, List.flatten_cons]; exact h.append (Reps.rep h k)
theorem tooLong_small {n : Nat} (h : n ≤ 1000000) : PySem.Builtin.Str.tooLong n = false := by
  unfold PySem.Builtin.Str.tooLong
  simp only [decide_eq_false_iff_not]
  have := sizeLine_eq
  omega
theorem mulOk_small {x : Str} {k : Int} (hk : k.natAbs ≤ 1000) (hx : x.length ≤ 1000) : MulOk x k := by
  refine ⟨?_, fun h1 _ => ?_, fun h1 _ => ?_⟩
  · rw [decide_eq_false (by omega), decide_eq_false (by omega)]; rfl
  · have h2 : (1000 : Int) ≤ (2 ^ 63 - 1) / k := by
      rw [Int.le_ediv_iff_mul_le (by omega)]; omega
    omega
  · refine tooLong_small ?_
    have h3 : k.toNat ≤ 1000 := by omega
    calc x.length * k.toNat ≤ 1000 * 1000 := Nat.mul_le_mul hx h3
      _ = 1000000 := rfl
def rMulS : R2 := fun x y H Q => ∃ z k, x = .str z ∧ y = .int k ∧ MulOk z k ∧ Q (.str (Txt.mul z k)) H
theorem op_mulS : OpR X (binaryOp .Mult) rMulS := by
  intro pins s σ H x y v u Q I rx ry h
  obtain ⟨z, k, rfl, rfl, ok, q⟩ := h
  obtain ⟨t, rfl⟩ := rx
  obtain ⟨t', rfl⟩ := ry
  exact PySem.SB.mul ok fun t k => ⟨.str _, H, I.tok _, ⟨_, rfl⟩, q⟩
theorem opd_mul (hK : B.K = X.K) : OpD X B (binaryOp .Mult) mulD := by
  refine OpR.imp (OpR.or op_mul (OpR.or op_mulS (OpR.or op_repR op_repZ))) fun x y H Q h => ?_
  obtain ⟨O, d, e, z, dom, hx, hy, hz, q⟩ := h
  unfold mulD at hz
  split at hz
  · split at hz
    · rename_i hl
      cases hz; left
      refine ⟨_, _, hx.int, hy.int, ?_, q _ _ (fun _ _ h => h) (.int _)⟩
      rcases hl with hl | hl
      · exact .inl ⟨by omega, by omega⟩
      · exact .inr ⟨by omega, by omega⟩
    · cases hz
  · split at hz
    · rename_i hl
      cases hz; right; left
      exact ⟨_, _, hx.str, hy.int, mulOk_small hl.1 hl.2, q _ _ (fun _ _ h => h) (.str _)⟩
    · cases hz
  · split at hz
    · rename_i hl
      cases hz; right; right; left
      obtain ⟨a, xs, rfl, ra, rxs⟩ := hx.list
      refine ⟨a, _, xs, rfl, hy.int, ra, by omega, by omega, ?_, fun p hp => q _ _ (same_new hp) (rep_newL dom hp (rxs.rep _))⟩
      rw [rxs.length]
      refine Nat.le_trans (Nat.mul_le_mul hl.2 (show _ ≤ 1000 by omega)) (by decide)
    · cases hz
  · split at hz
    · rename_i hl
      cases hz; right; right; right
      obtain ⟨a, xs, rfl, ra, rxs⟩ := hx.tup
      rw [hK] at ra
      refine ⟨a, _, xs, rfl, hy.int, ra.sq, ⟨?_, by rw [rxs.length]; exact hl.2.2.2⟩, ⟨hl.1, hl.2.1⟩, fun p o hp od => q _ _ (same_new hp) (rep_newT dom hp od (rxs.rep _))⟩
      rintro rfl
      cases rxs
      exact hl.2.2.1 rfl
    · cases hz
  · cases hz
theorem opd_fdiv : OpD X B (binaryOp .FloorDiv) fdivD := by
  refine OpR.imp op_fdivW fun x y H Q h => ?_
  obtain ⟨O, d, e, z, dom, hx, hy, hz, q⟩ := h
  unfold fdivD at hz
  split at hz
  · split at hz
    · rename_i hl
      cases hz; exact ⟨_, _, hx.int, hy.int, wide_div hl.1 hl.2 (by decide) (by decide), q _ _ (fun _ _ h => h) (.int _)⟩
    · cases hz
  · cases hz
theorem opd_mod : OpD X B (binaryOp .Mod) modD := by
  refine OpR.imp op_mod fun x y H Q h => ?_
  obtain ⟨O, d, e, z, dom, hx, hy, hz, q⟩ := h
  unfold modD at hz
  split at hz
  · split at hz
    · rename_i hl
      cases hz; exact ⟨_, _, hx.int, hy.int, hl, q _ _ (fun _ _ h => h) (.int _)⟩
    · cases hz
  · cases hz
theorem opd_pow : OpD X B (binaryOp .Pow) powD := by
  refine OpR.imp op_pow fun x y H Q h => ?_
  obtain ⟨O, d, e, z, dom, hx, hy, hz, q⟩ := h
  unfold powD at hz
  split at hz
  · split at hz
    · rename_i hl
      cases hz; exact ⟨_, _, hx.int, hy.int, hl, q _ _ (fun _ _ h => h) (.int _)⟩
    · cases hz
  · cases hz
/-! ### comparisons -/
theorem opd_lt (hK : B.K = X.K) (hu : X.A.units + 64 < cLine) : OpD X B (compareOp .Lt) ltD := by
  intro pins s σ H x y v u Q I rx ry h
  obtain ⟨O, d, e, z, dom, hx, hy, hz, q⟩ := h
  unfold ltD at hz
  split at hz
  · cases hz
    exact op_lt pins s σ H x y v u Q I rx ry ⟨_, _, hx.int, hy.int, q _ _ (fun _ _ h => h) (.bl _)⟩
  · split at hz
    · rename_i hc
      cases hz
      obtain ⟨c1, c2, c3⟩ := cmpB_of hc
      have dx := hx.dp
      have dy := hy.dp
      rw [hK] at dx dy
      obtain ⟨as, r1⟩ := Dp.reads I _ x v dx rx
      obtain ⟨bs, r2⟩ := Dp.reads I _ y u dy ry
      exact PySem.W.lt_data r1 r2 c1 c2 (by omega) ⟨.bl _, H, I, rfl, q _ _ (fun _ _ h => h) (.bl _)⟩
    · cases hz
theorem opd_le (hK : B.K = X.K) (hu : X.A.units + 64 < cLine) : OpD X B (compareOp .LtE) leD := by
  intro pins s σ H x y v u Q I rx ry h
  obtain ⟨O, d, e, z, dom, hx, hy, hz, q⟩ := h
  unfold leD at hz
  split at hz
  · cases hz
    exact op_le pins s σ H x y v u Q I rx ry ⟨_, _, hx.int, hy.int, q _ _ (fun _ _ h => h) (.bl _)⟩
  · split at hz
    · rename_i hc
      cases hz
      obtain ⟨c1, c2, c3⟩ := cmpB_of hc
      have dx := hx.dp
      have dy := hy.dp
      rw [hK] at dx dy
      obtain ⟨as, r1⟩ := Dp.reads I _ x v dx rx
      obtain ⟨bs, r2⟩ := Dp.reads I _ y u dy ry
      exact PySem.W.le_data r1 r2 c1 c2 (by omega) ⟨.bl _, H, I, rfl, q _ _ (fun _ _ h => h) (.bl _)⟩
    · cases hz
theorem opd_gt (hK : B.K = X.K) (hu : X.A.units + 64 < cLine) : OpD X B (compareOp .Gt) gtD := by
  intro pins s σ H x y v u Q I rx ry h
  obtain ⟨O, d, e, z, dom, hx, hy, hz, q⟩ := h
  unfold gtD at hz
  split at hz
  · cases hz
    exact op_gt pins s σ H x y v u Q I rx ry ⟨_, _, hx.int, hy.int, q _ _ (fun _ _ h => h) (.bl _)⟩
  · split at hz
    · rename_i hc
      cases hz
      obtain ⟨c1, c2, c3⟩ := cmpB_of hc
      have dx := hx.dp
      have dy := hy.dp
      rw [hK] at dx dy
      obtain ⟨as, r1⟩ := Dp.reads I _ x v dx rx
      obtain ⟨bs, r2⟩ := Dp.reads I _ y u dy ry
      exact PySem.W.gt_data r1 r2 c1 c2 (by omega) ⟨.bl _, H, I, rfl, q _ _ (fun _ _ h => h) (.bl _)⟩
    · cases hz
theorem opd_ge (hK : B.K = X.K) (hu : X.A.units + 64 < cLine) : OpD X B (compareOp .GtE) geD := by
  intro pins s σ H x y v u Q I rx ry h
  obtain ⟨O, d, e, z, dom, hx, hy, hz, q⟩ := h
  unfold geD at hz
  split at hz
  · cases hz
    exact op_ge pins s σ H x y v u Q I rx ry ⟨_, _, hx.int, hy.int, q _ _ (fun _ _ h => h) (.bl _)⟩
  · split at hz
    · rename_i hc
      cases hz
      obtain ⟨c1, c2, c3⟩ := cmpB_of hc
      have dx := hx.dp
      have dy := hy.dp
      rw [hK] at dx dy
      obtain ⟨as, r1⟩ := Dp.reads I _ x v dx rx
      obtain ⟨bs, r2⟩ := Dp.reads I _ y u dy ry
      exact PySem.W.ge_data r1 r2 c1 c2 (by omega) ⟨.bl _, H, I, rfl, q _ _ (fun _ _ h => h) (.bl _)⟩
    · cases hz
theorem opd_eq (hK : B.K = X.K) (hu : X.A.units + 64 < cLine) : OpD X B (compareOp .Eq) eqD := by
  intro pins s σ H x y v u Q I rx ry h
  obtain ⟨O, d, e, z, dom, hx, hy, hz, q⟩ := h
  unfold eqD at hz
  split at hz
  · rename_i hl
    cases hz
    have dx := hx.dp
    have dy := hy.dp
    rw [hK] at dx dy
    obtain ⟨as, r1⟩ := Dp.reads I d x v dx rx
    obtain ⟨bs, r2⟩ := Dp.reads I e y u dy ry
    exact PySem.SeqAt.eq_plain r1 r2 (plain_dp _ _ dx) (plain_dp _ _ dy) (by omega) ⟨.bl _, H, I, rfl, q _ _ (fun _ _ h => h) (.bl _)⟩
  · cases hz
theorem opd_ne (hK : B.K = X.K) (hu : X.A.units + 64 < cLine) : OpD X B (compareOp .NotEq) neD := by
  intro pins s σ H x y v u Q I rx ry h
  obtain ⟨O, d, e, z, dom, hx, hy, hz, q⟩ := h
  unfold neD at hz
  split at hz
  · rename_i hl
    cases hz
    have dx := hx.dp
    have dy := hy.dp
    rw [hK] at dx dy
    obtain ⟨as, r1⟩ := Dp.reads I d x v dx rx
    obtain ⟨bs, r2⟩ := Dp.reads I e y u dy ry
    exact PySem.SeqAt.ne_plain r1 r2 (plain_dp _ _ dx) (plain_dp _ _ dy) (by omega) ⟨.bl _, H, I, rfl, q _ _ (fun _ _ h => h) (.bl _)⟩
  · cases hz
theorem one_sign {a : Str} {c : Nat} (h : a.cps.toList = [c]) : a = ⟨#[c]⟩ := by
  obtain ⟨cps⟩ := a
  simp only at h
  have : cps = #[c] := by
    apply Array.toList_inj.mp
    rw [h]
  rw [this]
theorem opd_in (hK : B.K = X.K) (hu : X.A.units + 64 < cLine) : OpD X B (compareOp .In) inD := by
  intro pins s σ H x y v u Q I rx ry h
  obtain ⟨O, d, e, z, dom, hx, hy, hz, q⟩ := h
  have dx := hx.dp
  have dy := hy.dp
  rw [hK] at dx dy
  obtain ⟨as, r1⟩ := Dp.reads I d x v dx rx
  obtain ⟨bs, r2⟩ := Dp.reads I e y u dy ry
  unfold inD inB at hz
  split at hz
  · split at hz
    · cases hz
      exact PySem.SeqAt.in_list_data r2 r1 (by simpa [PyData.plain] using plain_dp _ _ dy) (plain_dp _ _ dx) (by omega) ⟨.bl _, H, I, rfl, q _ _ (fun _ _ h => h) (.bl _)⟩
    · cases hz
  · split at hz
    · cases hz
      exact PySem.SeqAt.in_tuple_data r2 r1 (by simpa [PyData.plain] using plain_dp _ _ dy) (plain_dp _ _ dx) (by omega) ⟨.bl _, H, I, rfl, q _ _ (fun _ _ h => h) (.bl _)⟩
    · cases hz
  · split at hz
    · rename_i c hc
      cases hz
      have e1 := hx.str
      have e2 := hy.str
      subst e1 e2
      exact op_in_sign pins s σ H _ _ v u Q I rx ry ⟨c, _, by rw [one_sign hc], rfl, q _ _ (fun _ _ h => h) (.bl _)⟩
    · cases hz
  · cases hz
theorem opd_notIn (hK : B.K = X.K) (hu : X.A.units + 64 < cLine) : OpD X B (compareOp .NotIn) notInD := by
  intro pins s σ H x y v u Q I rx ry h
  obtain ⟨O, d, e, z, dom, hx, hy, hz, q⟩ := h
  have dx := hx.dp
  have dy := hy.dp
  rw [hK] at dx dy
  obtain ⟨as, r1⟩ := Dp.reads I d x v dx rx
  obtain ⟨bs, r2⟩ := Dp.reads I e y u dy ry
  unfold notInD inB at hz
  split at hz
  · split at hz
    · cases hz
      exact PySem.SeqAt.notIn_list_data r2 r1 (by simpa [PyData.plain] using plain_dp _ _ dy) (plain_dp _ _ dx) (by omega) ⟨.bl _, H, I, rfl, q _ _ (fun _ _ h => h) (.bl _)⟩
    · cases hz
  · split at hz
    · cases hz
      exact PySem.SeqAt.notIn_tuple_data r2 r1 (by simpa [PyData.plain] using plain_dp _ _ dy) (plain_dp _ _ dx) (by omega) ⟨.bl _, H, I, rfl, q _ _ (fun _ _ h => h) (.bl _)⟩
    · cases hz
  · split at hz
    · rename_i c hc
      cases hz
      have e1 := hx.str
      have e2 := hy.str
      subst e1 e2
      exact op_notIn_sign pins s σ H _ _ v u Q I rx ry ⟨c, _, by rw [one_sign hc], rfl, q _ _ (fun _ _ h => h) (.bl _)⟩
    · cases hz
  · cases hz
end
end Sim

namespace Sim
open PySem L2

def Lat {α β : Type} (B : Bd) (P : OS → Hp → Hp → β → α → Prop) : Prop := ∀ O H H1 n H' b a, Ext B.T H H1 → Town B.T H1 n → P O H1 H' b a → P O H H' b a
def pRs (B : Bd) : OS → Hp → Hp → List V → List D → Prop := fun O _ H' vs as => Reps B.K H' O vs as
section
variable {B : Bd}
theorem lat_E : Lat B (pE B) := fun _ _ _ _ _ _ _ _ _ p => p
theorem lat_B : Lat B (pB B) := fun _ _ _ _ _ _ _ _ _ p => p
theorem lat_T : Lat B pT := fun _ _ _ _ _ _ _ _ _ p => p
theorem lat_A : Lat B (pA B) := fun _ _ _ _ _ _ _ _ _ p => p
theorem lat_Bs : Lat B (pBs B) := fun _ _ _ _ _ _ _ _ _ p => p
theorem lat_Rs : Lat B (pRs B) := fun _ _ _ _ _ _ _ _ _ p => p
theorem none_back {T : Hot} {H H1 : Hp} {n : Sta} {a : Addr} (e : Ext T H H1) (t : Town T H1 n) (h : H1 a = none) : H a = none := by
  have na : ¬ T.has a := t.cold h
  cases q : H a with
  | none => rfl
  | some o => rw [e a o na q] at h; cases h
theorem lat_N : Lat B (pN B) := fun O H H1 n H' b a e t p => by
  obtain ⟨c, xs, h1, h2, h3, h4⟩ := p
  exact ⟨c, xs, h1, none_back e t h2, h3, h4⟩
variable {α β γ δ : Type} {P : OS → Hp → Hp → β → α → Prop} {P' : OS → Hp → Hp → δ → γ → Prop} {σ : L2.St} {H : Hp} {Q : δ → Hp → Prop}
/-- the first part of a sequence, then the rest, from the later heap -/
theorem tG_seq1 {f : Env → M α} {g : Env → α → M γ} {Y : β → Hp → Prop} {env : Env} {O : OS} {n : Sta} (l : Lat B P') (s : Sim B env O n σ H) (h : Post B (P' O) H (seq (f env) (g env) n) Q)
    (k : ∀ a b n1 H1, Sim B env O n1 σ H1 → Ext B.T H H1 → P O H H1 b a → Post B (P' O) H1 (g env a n1) Q → Y b H1) : tG B P f σ H Y :=
  tG_seq s h fun a b n1 H1 _ s1 e1 p1 q1 => k a b n1 H1 s1 e1 p1 (q1.later e1 fun H' b a p => l O H H1 n1 H' b a e1 s1.town p)
end
section
variable {B : Bd} {H H' : Hp} {O : OS}
theorem Brw.ext (tO : ∀ a, B.T.has a → O a) (e : Ext B.T H H') {v : V} {d : D} (h : Brw B H O v d) : Brw B H' O v d := by
  rcases h with h | ⟨a, xs, ds, h1, h2, ne, h3, h4⟩
  · exact .inl (Rep.step (step_of tO e) _ _ h)
  · exact .inr ⟨a, xs, ds, h1, h2, ne, e a _ ne h3, Reps.step (step_of tO e) _ _ h4⟩
theorem ArgOk.ext (tO : ∀ a, B.T.has a → O a) (e : Ext B.T H H') {v : V} {a : SV} (h : ArgOk B H O v a) : ArgOk B H' O v a := by
  cases a with
  | d x => exact Rep.step (step_of tO e) _ _ h
  | own _ => exact h
  | town => exact h
  | scr ns => exact h.imp fun a z => ⟨z.1, z.2.step (step_of tO e)⟩
  | ex _ => exact h
  | lis _ => exact h
  | dic _ => exact h
  | fd _ => exact h
  | dt _ => exact h
end

/-! ### names, constants -/
def varM : Option (Option SV) → M D
  | some (some (.d x)) => ret x
  | _ => fault
def borM : Option (Option SV) → M D
  | some (some (.d x)) => ret x
  | some (some (.own xs)) => ret (.list xs)
  | _ => fault
def varE (i : Nat) : Env → M D := fun env => varM env[i]?
def borE (i : Nat) : Env → M D := fun env => borM env[i]?
def cE (d : D) : Env → M D := fun _ => ret d
section
variable {X : Cx} {B : Bd} {e a b c : Expr} {pos : Pos} {fa fb fc : Env → M D}
theorem se_var {i : Nat} {x : Str} (h : PE X (.Name x pos) (tVar i)) : SE X B (.Name x pos) (varE i) := by
  refine pe_weak h fun σ H Q q => ?_
  obtain ⟨env, O, n, s, post⟩ := q
  have post : Post B (pE B O) H (varM env[i]? n) Q := post
  rcases e : env[i]? with _ | _ | x | xs | _ | _ | _ | _ | _ | _ | _ <;> rw [e] at post <;> first | exact post.elim | skip
  · obtain ⟨v, hv, r⟩ := s.slot i _ e
    exact ⟨v, hv, post v H (Ext.refl _ _) s.town r⟩
theorem sb_var {i : Nat} {x : Str} (h : PE X (.Name x pos) (tVar i)) : SB X B (.Name x pos) (borE i) := by
  refine pe_weak h fun σ H Q q => ?_
  obtain ⟨env, O, n, s, post⟩ := q
  have post : Post B (pB B O) H (borM env[i]? n) Q := post
  rcases e : env[i]? with _ | _ | x | xs | _ | _ | _ | _ | _ | _ | _ <;> rw [e] at post <;> first | exact post.elim | skip
  · obtain ⟨v, hv, r⟩ := s.slot i _ e
    exact ⟨v, hv, post v H (Ext.refl _ _) s.town (.inl r)⟩
  · obtain ⟨v, hv, a, vs, e1, o1, o2, ne, hl, r⟩ := s.slot i _ e
    exact ⟨v, hv, post v H (Ext.refl _ _) s.town (.inr ⟨a, vs, xs, e1, rfl, ne, hl, r⟩)⟩
theorem sb_of (h : SE X B e fa) : SB X B e fa := by
  refine pe_weak h fun σ H Q q => ?_
  obtain ⟨env, O, n, s, post⟩ := q
  refine ⟨env, O, n, s, ?_⟩
  cases r : fa env n with
  | ok a n1 => rw [r] at post; exact fun v H' e t p => post v H' e t (.inl p)
  | exc c n1 => rw [r] at post; exact post
  | bad => rw [r] at post; exact post
theorem se_c {v : V} {d : D} (h : PE X e (tC v)) (r : ∀ H O, Rep B.K H O v d) : SE X B e (cE d) := by
  refine pe_weak h fun σ H Q q => ?_
  obtain ⟨env, O, n, s, post⟩ := q
  exact post v H (Ext.refl _ _) s.town (r _ _)
theorem se_int {i : Int} {j : Nat} : SE X B (.Constant (.int i) j pos) (cE (.int i)) := se_c pe_int fun _ _ => .int i
theorem se_str {x : Str} {j : Nat} : SE X B (.Constant (.str x) j pos) (cE (.str x)) := se_c pe_str fun _ _ => .str x
theorem se_bl {x : Bool} {j : Nat} : SE X B (.Constant (.bool x) j pos) (cE (.bool x)) := se_c pe_bl fun _ _ => .bl x
theorem se_non {j : Nat} : SE X B (.Constant .none j pos) (cE .none) := se_c pe_non fun _ _ => .non

/-! ### operators -/
def opE (g : D → D → Option D) (fa fb : Env → M D) : Env → M D := fun env => seq (fa env) fun x => seq (fb env) fun y => lift (g x y)
theorem lift_post {α β : Type} {P : Hp → Hp → β → α → Prop} {H : Hp} {o : Option α} {n : Sta} {Q : β → Hp → Prop} (h : Post B P H (lift o n) Q) : ∃ z, o = some z ∧ ∀ b H', Ext B.T H H' → Town B.T H' n → P H H' b z → Q b H' := by
  cases o with
  | none => exact h.elim
  | some z => exact ⟨z, rfl, h⟩
theorem opE_run {g : D → D → Option D} {σ : L2.St} {H : Hp} {Q : VK} (h : tG B (pE B) (opE g fa fb) σ H Q) : tOp (rD B g) (tG B (pB B) fa) (tG B (pB B) fb) σ H Q := by
  obtain ⟨env, O, n, s, post⟩ := h
  refine tG_seq1 (g := fun env x => seq (fb env) fun y => lift (g x y)) lat_E s post fun x vx n1 H1 s1 e1 p1 q1 => ?_
  refine tG_seq1 (g := fun env y => lift (g x y)) lat_E s1 q1 fun y vy n2 H2 s2 e2 p2 q2 => ?_
  obtain ⟨z, hz, k⟩ := lift_post q2
  exact ⟨O, x, y, z, s2.dom, p1.ext s2.tO e2, p2, hz, fun v H' sm r => k v H' (same_ext sm) (same_town sm s2.town) r⟩
theorem se_op {op : Operator} {g : D → D → Option D} (ho : OpD X B (binaryOp op) g) (ha : SB X B a fa) (hb : SB X B b fb) : SE X B (.BinOp a op b pos) (opE g fa fb) :=
  pe_weak (pe_op ho ha hb) fun _ _ _ h => opE_run h
theorem se_cmp {op : CmpOp} {g : D → D → Option D} (ho : OpD X B (compareOp op) g) (ha : SB X B a fa) (hb : SB X B b fb) (hm : behindInMarks op b = false) : SE X B (.Compare a [op] [b] pos) (opE g fa fb) :=
  pe_weak (pe_cmpR ho ha hb hm) fun _ _ _ h => opE_run h
/-- a value that is a truth value -/
def boolM (x : D) : M Bool := match x with
  | .bool b => ret b
  | _ => fault
def testE (fa : Env → M D) : Env → M Bool := fun env => seq (fa env) boolM
theorem bool_post {P : Hp → Hp → Bool → Bool → Prop} {H : Hp} {x : D} {n : Sta} {Q : Bool → Hp → Prop} (h : Post B P H (boolM x n) Q) : ∃ b, x = .bool b ∧ ∀ b' H', Ext B.T H H' → Town B.T H' n → P H H' b' b → Q b' H' := by
  unfold boolM at h
  split at h
  · rename_i b; exact ⟨b, rfl, h⟩
  · exact h.elim
theorem testE_run {σ : L2.St} {H : Hp} {Q : Bool → Hp → Prop} (h : tG B pT (testE fa) σ H Q) : tG B (pE B) fa σ H fun x H1 => ∃ c, x = .bl c ∧ Q c H1 := by
  obtain ⟨env, O, n, s, post⟩ := h
  refine tG_seq1 (g := fun env => boolM) lat_T s post fun x vx n1 H1 s1 e1 p1 q1 => ?_
  obtain ⟨b, rfl, k⟩ := bool_post q1
  have e : vx = .bl b := by cases p1; rfl
  exact ⟨b, e, k b H1 (Ext.refl _ _) s1.town rfl⟩
theorem st_val (h : SE X B e fa) (he : ∀ whole, isTrue e X.env whole = (do let v ← whole; standAt e.pos; holding [v] (truthy v)) := by intro _; rfl) : ST X B e (testE fa) :=
  pt_weak (pt_val h he) fun _ _ _ q => testE_run q
theorem st_cmp {op : CmpOp} {g : D → D → Option D} (ho : OpD X B (compareOp op) g) (ha : SB X B a fa) (hb : SB X B b fb) (hm : behindInMarks op b = false) : ST X B (.Compare a [op] [b] pos) (testE (opE g fa fb)) := by
  refine pt_weak (pt_cmpR ho ha hb hm) fun σ H Q q => ?_
  have h := testE_run q
  exact opE_run (Q := fun x H' => ∃ k, x = .bl k ∧ Q k H') h
/-! ### chains -/
def chainE (g g' : D → D → Option D) (fa fb fc : Env → M D) : Env → M D := fun env => seq (fa env) fun x => seq (fb env) fun y => seq (lift (g x y)) fun r => seq (boolM r) fun k => if k = true then seq (fc env) fun z => lift (g' y z) else ret (.bool false)
theorem chainE_run {g g' : D → D → Option D} {σ : L2.St} {H : Hp} {Q : VK} (h : tG B (pE B) (chainE g g' fa fb fc) σ H Q) : tChain (rD B g) (rD B g') (tG B (pB B) fa) (tG B (pB B) fb) (tG B (pB B) fc) σ H Q := by
  obtain ⟨env, O, n, s, post⟩ := h
  unfold tChain
  refine tG_seq1 (g := fun env x => seq (fb env) fun y => seq (lift (g x y)) fun r => seq (boolM r) fun k => if k = true then seq (fc env) fun z => lift (g' y z) else ret (.bool false)) lat_E s post fun x vx n1 H1 s1 e1 p1 q1 => ?_
  refine tG_seq1 (g := fun env y => seq (lift (g x y)) fun r => seq (boolM r) fun k => if k = true then seq (fc env) fun z => lift (g' y z) else ret (.bool false)) lat_E s1 q1 fun y vy n2 H2 s2 e2 p2 q2 => ?_
  cases hz : g x y with
  | none => rw [hz] at q2; exact q2.elim
  | some z =>
    rw [hz] at q2
    refine ⟨O, x, y, z, s2.dom, p1.ext s2.tO e2, p2, hz, fun v H' sm r => ?_⟩
    cases z with
    | bool k =>
      have ev : v = .bl k := by cases r; rfl
      refine ⟨k, ev, ?_⟩
      cases k with
      | true =>
        have s3 : Sim B env O n2 σ H' := s2.ext (same_ext sm) (same_town sm s2.town)
        show tG B (pB B) fc σ H' fun w' H4 => rD B g' vy w' H4 Q
        refine tG_seq1 (g := fun env z => lift (g' y z)) lat_E s3 (Post.later (P := pE B O) q2 (same_ext sm) (fun _ _ _ p => p)) fun c vc n4 H4 s4 e4 p4 q4 => ?_
        obtain ⟨z', hz', k'⟩ := lift_post q4
        exact ⟨O, y, c, z', s4.dom, (p2.ext s2.tO (same_ext sm)).ext s4.tO e4, p4, hz', fun v H' sm r => k' v H' (same_ext sm) (same_town sm s4.town) r⟩
      | false => exact q2 (.bl false) H' (same_ext sm) (same_town sm s2.town) (.bl false)
    | _ => exact q2.elim
theorem se_chain {op op' : CmpOp} {g g' : D → D → Option D} (ho : OpD X B (compareOp op) g) (ho' : OpD X B (compareOp op') g') (ha : SB X B a fa) (hb : SB X B b fb) (hc : SB X B c fc) (hm : lastMarks [op, op'] [b, c] = false := by rfl) :
    SE X B (.Compare a [op, op'] [b, c] pos) (chainE g g' fa fb fc) := pe_weak (pe_chain ho ho' ha hb hc hm) fun _ _ _ h => chainE_run h
theorem st_chain {op op' : CmpOp} {g g' : D → D → Option D} (ho : OpD X B (compareOp op) g) (ho' : OpD X B (compareOp op') g') (ha : SB X B a fa) (hb : SB X B b fb) (hc : SB X B c fc) (hm : lastMarks [op, op'] [b, c] = false := by rfl) :
    ST X B (.Compare a [op, op'] [b, c] pos) (testE (chainE g g' fa fb fc)) := pt_weak (pt_chain ho ho' ha hb hc hm) fun σ H Q q => chainE_run (Q := fun x H' => ∃ k, x = .bl k ∧ Q k H') (testE_run q)
/-! ### is None -/
def isNoneD : D → Bool
  | .none => true
  | _ => false
def isNE (fa : Env → M D) : Env → M D := fun env => seq (fa env) fun x => ret (.bool (isNoneD x))
def notNE (fa : Env → M D) : Env → M D := fun env => seq (fa env) fun x => ret (.bool (!isNoneD x))
theorem rep_none {K : PySem.W.Frag} {H : Hp} {O : OS} {v : V} {d : D} (h : Rep K H O v d) : decide (v = .non) = isNoneD d := by cases h <;> rfl
theorem isNE_run {σ : L2.St} {H : Hp} {Q : VK} (h : tG B (pE B) (isNE fa) σ H Q) : tG B (pE B) fa σ H fun x H1 => Q (.bl (decide (x = .non))) H1 := by
  obtain ⟨env, O, n, s, post⟩ := h
  refine tG_seq1 (g := fun env x => ret (PyData.bool (isNoneD x))) lat_E s post fun x vx n1 H1 s1 e1 p1 q1 => ?_
  rw [rep_none p1]
  exact q1 _ H1 (Ext.refl _ _) s1.town (.bl _)
theorem notNE_run {σ : L2.St} {H : Hp} {Q : VK} (h : tG B (pE B) (notNE fa) σ H Q) : tG B (pE B) fa σ H fun x H1 => Q (.bl (!decide (x = .non))) H1 := by
  obtain ⟨env, O, n, s, post⟩ := h
  refine tG_seq1 (g := fun env x => ret (PyData.bool (!isNoneD x))) lat_E s post fun x vx n1 H1 s1 e1 p1 q1 => ?_
  rw [rep_none p1]
  exact q1 _ H1 (Ext.refl _ _) s1.town (.bl _)
theorem se_isN {j : Nat} {p : Pos} (ha : SE X B a fa) : SE X B (.Compare a [.Is] [.Constant .none j p] pos) (isNE fa) := pe_weak (pe_cmp (pc_isN ha)) fun _ _ _ h => isNE_run h
theorem se_notN {j : Nat} {p : Pos} (ha : SE X B a fa) : SE X B (.Compare a [.IsNot] [.Constant .none j p] pos) (notNE fa) := pe_weak (pe_cmp (pc_notN ha)) fun _ _ _ h => notNE_run h
theorem st_isN {j : Nat} {p : Pos} (ha : SE X B a fa) : ST X B (.Compare a [.Is] [.Constant .none j p] pos) (testE (isNE fa)) := pt_weak (pt_cmp (pc_isN ha)) fun σ H Q h => isNE_run (Q := fun x H' => ∃ k, x = .bl k ∧ Q k H') (testE_run h)
theorem st_notN {j : Nat} {p : Pos} (ha : SE X B a fa) : ST X B (.Compare a [.IsNot] [.Constant .none j p] pos) (testE (notNE fa)) := pt_weak (pt_cmp (pc_notN ha)) fun σ H Q h => notNE_run (Q := fun x H' => ∃ k, x = .bl k ∧ Q k H') (testE_run h)
/-! ### and, or, not; if -/
variable {ga gb : Env → M Bool} {rest : List Expr}
def andT (ga gb : Env → M Bool) : Env → M Bool := fun env => seq (ga env) fun x => if x = true then gb env else ret false
def orT (ga gb : Env → M Bool) : Env → M Bool := fun env => seq (ga env) fun x => if x = true then ret true else gb env
def notT (ga : Env → M Bool) : Env → M Bool := fun env => seq (ga env) fun x => ret (!x)
theorem sw_and1 (ha : ST X B a ga) : SW X B (.BoolOp .And [a] pos) ga := pw_and1 ha
theorem sw_or1 (ha : ST X B a ga) : SW X B (.BoolOp .Or [a] pos) ga := pw_or1 ha
theorem sw_and (ha : ST X B a ga) (hb : SW X B (.BoolOp .And (b :: rest) pos) gb) : SW X B (.BoolOp .And (a :: b :: rest) pos) (andT ga gb) := by
  refine pw_weak (pw_and ha hb) fun σ H Q h => ?_
  obtain ⟨env, O, n, s, post⟩ := h
  refine tG_seq1 (g := fun env x => if x = true then gb env else ret false) lat_T s post fun x vx n1 H1 s1 e1 p1 q1 => ?_
  cases p1
  cases x with
  | true => exact ⟨env, O, n1, s1, q1⟩
  | false => exact q1 false H1 (Ext.refl _ _) s1.town rfl
theorem sw_or (ha : ST X B a ga) (hb : SW X B (.BoolOp .Or (b :: rest) pos) gb) : SW X B (.BoolOp .Or (a :: b :: rest) pos) (orT ga gb) := by
  refine pw_weak (pw_or ha hb) fun σ H Q h => ?_
  obtain ⟨env, O, n, s, post⟩ := h
  refine tG_seq1 (g := fun env x => if x = true then ret true else gb env) lat_T s post fun x vx n1 H1 s1 e1 p1 q1 => ?_
  cases p1
  cases x with
  | true => exact q1 true H1 (Ext.refl _ _) s1.town rfl
  | false => exact ⟨env, O, n1, s1, q1⟩
theorem st_of (h : SW X B e ga) : ST X B e ga := h.pt
theorem st_not (ha : ST X B a ga) : ST X B (.UnaryOp .Not a pos) (notT ga) := by
  refine pt_weak (pt_not ha) fun σ H Q h => ?_
  obtain ⟨env, O, n, s, post⟩ := h
  refine tG_seq1 (g := fun env (x : Bool) => ret (!x)) lat_T s post fun x vx n1 H1 s1 e1 p1 q1 => ?_
  cases p1
  exact q1 _ H1 (Ext.refl _ _) s1.town rfl
/-- as values -/
def andE (fa fb : Env → M D) : Env → M D := fun env => seq (fa env) fun x => seq (boolM x) fun k => if k = true then fb env else ret (.bool false)
def orE (fa fb : Env → M D) : Env → M D := fun env => seq (fa env) fun x => seq (boolM x) fun k => if k = true then ret (.bool true) else fb env
def notE (fa : Env → M D) : Env → M D := fun env => seq (fa env) fun x => seq (boolM x) fun k => ret (.bool (!k))
theorem se_one {op} (h : SE X B a fa) : SE X B (.BoolOp op [a] pos) fa := pe_one h
theorem se_and (ha : SE X B a fa) (hb : SE X B (.BoolOp .And (b :: rest) pos) fb) : SE X B (.BoolOp .And (a :: b :: rest) pos) (andE fa fb) := by
  refine pe_weak (pe_and ha hb) fun σ H Q h => ?_
  obtain ⟨env, O, n, s, post⟩ := h
  refine tG_seq1 (g := fun env x => seq (boolM x) fun k => if k = true then fb env else ret (.bool false)) lat_E s post fun x vx n1 H1 s1 e1 p1 q1 => ?_
  cases p1 with
  | bl k =>
    refine ⟨k, rfl, ?_⟩
    cases k with
    | true => exact ⟨env, O, n1, s1, q1⟩
    | false => exact q1 _ H1 (Ext.refl _ _) s1.town (.bl _)
  | _ => exact q1.elim
theorem se_or (ha : SE X B a fa) (hb : SE X B (.BoolOp .Or (b :: rest) pos) fb) : SE X B (.BoolOp .Or (a :: b :: rest) pos) (orE fa fb) := by
  refine pe_weak (pe_or ha hb) fun σ H Q h => ?_
  obtain ⟨env, O, n, s, post⟩ := h
  refine tG_seq1 (g := fun env x => seq (boolM x) fun k => if k = true then ret (PyData.bool true) else fb env) lat_E s post fun x vx n1 H1 s1 e1 p1 q1 => ?_
  cases p1 with
  | bl k =>
    refine ⟨k, rfl, ?_⟩
    cases k with
    | true => exact q1 _ H1 (Ext.refl _ _) s1.town (.bl _)
    | false => exact ⟨env, O, n1, s1, q1⟩
  | _ => exact q1.elim
theorem se_not (ha : SE X B a fa) : SE X B (.UnaryOp .Not a pos) (notE fa) := by
  refine pe_weak (pe_not ha) fun σ H Q h => ?_
  obtain ⟨env, O, n, s, post⟩ := h
  refine tG_seq1 (g := fun env x => seq (boolM x) fun k => ret (PyData.bool (!k))) lat_E s post fun x vx n1 H1 s1 e1 p1 q1 => ?_
  cases p1 with
  | bl k => exact ⟨k, rfl, q1 _ H1 (Ext.refl _ _) s1.town (.bl _)⟩
  | _ => exact q1.elim
def ifE (gc : Env → M Bool) {α : Type} (fa fb : Env → M α) : Env → M α := fun env => seq (gc env) fun k => if k = true then fa env else fb env
theorem se_if {gc : Env → M Bool} (hc : ST X B c gc) (ha : SE X B a fa) (hb : SE X B b fb) : SE X B (.IfExp c a b pos) (ifE gc fa fb) := by
  refine pe_weak (pe_ifExp hc ha hb) fun σ H Q h => ?_
  obtain ⟨env, O, n, s, post⟩ := h
  refine tG_seq1 (g := fun env k => if k = true then fa env else fb env) lat_E s post fun x vx n1 H1 s1 e1 p1 q1 => ?_
  cases p1
  cases x with
  | true => exact ⟨env, O, n1, s1, q1⟩
  | false => exact ⟨env, O, n1, s1, q1⟩
theorem sb_if {gc : Env → M Bool} (hc : ST X B c gc) (ha : SB X B a fa) (hb : SB X B b fb) : SB X B (.IfExp c a b pos) (ifE gc fa fb) := by
  refine pe_weak (pe_ifExp hc ha hb) fun σ H Q h => ?_
  obtain ⟨env, O, n, s, post⟩ := h
  refine tG_seq1 (g := fun env k => if k = true then fa env else fb env) lat_B s post fun x vx n1 H1 s1 e1 p1 q1 => ?_
  cases p1
  cases x with
  | true => exact ⟨env, O, n1, s1, q1⟩
  | false => exact ⟨env, O, n1, s1, q1⟩
/-! ### argument lists -/
variable {es : List Expr}
abbrev SRs (X : Cx) (B : Bd) (es : List Expr) (f : Env → M (List D)) : Prop := PA X es (tG B (pRs B) f)
def nilE {α : Type} : Env → M (List α) := fun _ => ret []
def consE (fa : Env → M D) (fr : Env → M (List D)) : Env → M (List D) := fun env => seq (fa env) fun x => seq (fr env) fun r => ret (x :: r)
def consA (fa : Env → M D) (fr : Env → M (List SV)) : Env → M (List SV) := fun env => seq (fa env) fun x => seq (fr env) fun r => ret (.d x :: r)
def townM (fr : M (List SV)) : Option (Option SV) → M (List SV)
  | some (some .town) => seq fr fun r => ret (.town :: r)
  | _ => fault
def townA (i : Nat) (fr : Env → M (List SV)) : Env → M (List SV) := fun env => townM (fr env) env[i]?
theorem sr_nil : SRs X B [] nilE := pa_weak pa_nil fun σ H Q h => by
  obtain ⟨env, O, n, s, post⟩ := h
  exact post [] H (Ext.refl _ _) s.town .nil
theorem sbs_nil : SBs X B [] nilE := pa_weak pa_nil fun σ H Q h => by
  obtain ⟨env, O, n, s, post⟩ := h
  exact post [] H (Ext.refl _ _) s.town .nil
theorem sa_nil : SA X B [] nilE := pa_weak pa_nil fun σ H Q h => by
  obtain ⟨env, O, n, s, post⟩ := h
  exact post [] H (Ext.refl _ _) s.town .nil
theorem sr_cons {fr : Env → M (List D)} (ha : SE X B e fa) (hr : SRs X B es fr) (hs : starEach (e :: es) X.env = (false, eval e X.env) :: starEach es X.env := by rfl) : SRs X B (e :: es) (consE fa fr) :=
  pa_weak (pa_cons ha hr hs) fun σ H Q h => by
    obtain ⟨env, O, n, s, post⟩ := h
    refine tG_seq1 (g := fun env x => seq (fr env) fun r => ret (x :: r)) lat_Rs s post fun x vx n1 H1 s1 e1 p1 q1 => ?_
    refine tG_seq1 (g := fun env r => ret (x :: r)) lat_Rs s1 q1 fun y vy n2 H2 s2 e2 p2 q2 => ?_
    exact q2 _ H2 (Ext.refl _ _) s2.town (.cons (Rep.step (step_of s2.tO e2) _ _ p1) p2)
theorem sbs_cons {fr : Env → M (List D)} (ha : SB X B e fa) (hr : SBs X B es fr) (hs : starEach (e :: es) X.env = (false, eval e X.env) :: starEach es X.env := by rfl) : SBs X B (e :: es) (consE fa fr) :=
  pa_weak (pa_cons ha hr hs) fun σ H Q h => by
    obtain ⟨env, O, n, s, post⟩ := h
    refine tG_seq1 (g := fun env x => seq (fr env) fun r => ret (x :: r)) lat_Bs s post fun x vx n1 H1 s1 e1 p1 q1 => ?_
    refine tG_seq1 (g := fun env r => ret (x :: r)) lat_Bs s1 q1 fun y vy n2 H2 s2 e2 p2 q2 => ?_
    exact q2 _ H2 (Ext.refl _ _) s2.town (.cons (Brw.ext s2.tO e2 p1) p2)
theorem sa_cons {fr : Env → M (List SV)} (ha : SE X B e fa) (hr : SA X B es fr) (hs : starEach (e :: es) X.env = (false, eval e X.env) :: starEach es X.env := by rfl) : SA X B (e :: es) (consA fa fr) :=
  pa_weak (pa_cons ha hr hs) fun σ H Q h => by
    obtain ⟨env, O, n, s, post⟩ := h
    refine tG_seq1 (g := fun env x => seq (fr env) fun r => ret (SV.d x :: r)) lat_A s post fun x vx n1 H1 s1 e1 p1 q1 => ?_
    refine tG_seq1 (g := fun env r => ret (SV.d x :: r)) lat_A s1 q1 fun y vy n2 H2 s2 e2 p2 q2 => ?_
    exact q2 _ H2 (Ext.refl _ _) s2.town (.cons (show ArgOk B H2 O vx (.d x) from Rep.step (step_of s2.tO e2) _ _ p1) p2)
theorem sa_town {i : Nat} {x : Str} {fr : Env → M (List SV)} (ha : PE X (.Name x pos) (tVar i)) (hr : SA X B es fr) (hs : starEach (.Name x pos :: es) X.env = (false, eval (.Name x pos) X.env) :: starEach es X.env := by rfl) : SA X B (.Name x pos :: es) (townA i fr) :=
  pa_weak (pa_cons ha hr hs) fun σ H Q h => by
    obtain ⟨env, O, n, s, post⟩ := h
    have post : Post B (pA B O) H (townM (fr env) env[i]? n) Q := post
    rcases e : env[i]? with _ | _ | x | xs | _ | _ | _ | _ | _ | _ | _ <;> rw [e] at post <;> first | exact post.elim | skip
    · obtain ⟨v, hv, r⟩ := s.slot i _ e
      refine ⟨v, hv, ?_⟩
      refine tG_seq1 (g := fun env r => ret (SV.town :: r)) lat_A s post fun y vy n2 H2 s2 e2 p2 q2 => ?_
      exact q2 _ H2 (Ext.refl _ _) s2.town (.cons (show ArgOk B H2 O v .town from r) p2)
def scrM (fr : M (List SV)) : Option (Option SV) → M (List SV)
  | some (some (.scr ns)) => seq fr fun r => ret (.scr ns :: r)
  | _ => fault
def scrA (i : Nat) (fr : Env → M (List SV)) : Env → M (List SV) := fun env => scrM (fr env) env[i]?
theorem sa_scr {i : Nat} {x : Str} {fr : Env → M (List SV)} (ha : PE X (.Name x pos) (tVar i)) (hr : SA X B es fr) (hs : starEach (.Name x pos :: es) X.env = (false, eval (.Name x pos) X.env) :: starEach es X.env := by rfl) : SA X B (.Name x pos :: es) (scrA i fr) :=
  pa_weak (pa_cons ha hr hs) fun σ H Q h => by
    obtain ⟨env, O, n, s, post⟩ := h
    have post : Post B (pA B O) H (scrM (fr env) env[i]? n) Q := post
    rcases e : env[i]? with _ | _ | x | xs | _ | ns | _ | _ | _ | _ | _ <;> rw [e] at post <;> first | exact post.elim | skip
    · obtain ⟨v, hv, r⟩ := s.slot i _ e
      refine ⟨v, hv, ?_⟩
      refine tG_seq1 (g := fun env r => ret (SV.scr ns :: r)) lat_A s post fun y vy n2 H2 s2 e2 p2 q2 => ?_
      exact q2 _ H2 (Ext.refl _ _) s2.town (.cons (show ArgOk B H2 O v (.scr ns) from ArgOk.ext s2.tO e2 (show ArgOk B H O v (.scr ns) from r)) p2)
/-! ### displays -/
theorem step_add {H : Hp} {O : OS} {p : Addr} {o : HO} (hp : H p = none) : Step O H (addO O p) (upd H p o) := fun a u h n => ⟨by rw [upd_ne (ne_of_none h hp)]; exact h, fun z => z.elim n (ne_of_none h hp)⟩
def tupE (fr : Env → M (List D)) : Env → M D := fun env => seq (fr env) fun r => lift (if r.length ≤ big then some (.tuple r) else none)
def lstN (fr : Env → M (List D)) : Env → M (List D) := fun env => seq (fr env) fun r => lift (if r.length ≤ big then some r else none)
theorem Reps.len_le {K : PySem.W.Frag} {H : Hp} {O : OS} {vs : List V} {ds : List D} (h : Reps K H O vs ds) (l : ds.length ≤ big) : vs.length ≤ sizeLine := by rw [h.length]; exact Nat.le_trans l big_line
theorem se_tup {fr : Env → M (List D)} {k : Nat} (h : SRs X B es fr) : SE X B (.Tuple es k pos) (tupE fr) := by
  refine pe_weak (pe_tupZ h) fun σ H Q h => ?_
  obtain ⟨env, O, n, s, post⟩ := h
  refine tG_seq1 (g := fun env (r : List D) => lift (if r.length ≤ big then some (PyData.tuple r) else none)) lat_E s post fun x vx n1 H1 s1 e1 p1 q1 => ?_
  obtain ⟨z, hz, k⟩ := lift_post q1
  split at hz
  · rename_i hl
    cases hz
    exact ⟨p1.len_le hl, fun p o hp od => k _ _ (same_ext (same_new hp)) (same_town (same_new hp) s1.town) (rep_newT s1.dom hp od p1)⟩
  · cases hz
theorem sn_lst {fr : Env → M (List D)} (h : SRs X B es fr) : SN X B (.List es pos) (lstN fr) := by
  refine pe_weak (pe_lst h) fun σ H Q h => ?_
  obtain ⟨env, O, n, s, post⟩ := h
  refine tG_seq1 (g := fun env (r : List D) => lift (if r.length ≤ big then some r else none)) lat_N s post fun x vx n1 H1 s1 e1 p1 q1 => ?_
  obtain ⟨z, hz, k⟩ := lift_post q1
  split at hz
  · rename_i hl
    cases hz
    exact ⟨p1.len_le hl, fun p hp => k _ _ (same_ext (same_new hp)) (same_town (same_new hp) s1.town) ⟨p, vx, rfl, hp, upd_same, Reps.step (step_add hp) _ _ p1⟩⟩
  · cases hz
def listE (fr : Env → M (List D)) : Env → M D := fun env => seq (fr env) fun r => ret (.list r)
theorem pN_rep {H H' : Hp} {O : OS} {v : V} {ds : List D} (dom : ∀ a, O a → NF H a) (h : pN B O H H' v ds) : Rep B.K H' O v (.list ds) := by
  obtain ⟨a, xs, rfl, h1, h2, h3⟩ := h
  exact .lst ⟨.inl h2, fun z => (dom a z).ne h1⟩ (Reps.anti (fun _ q => .inl q) _ _ h3)
theorem se_of_sn {fr : Env → M (List D)} (h : SN X B e fr) : SE X B e (listE fr) := by
  refine pe_weak h fun σ H Q h => ?_
  obtain ⟨env, O, n, s, post⟩ := h
  exact tG_seq1 (g := fun env (r : List D) => ret (PyData.list r)) lat_E s post fun x vx n1 H1 s1 e1 p1 q1 => q1 _ H1 (Ext.refl _ _) s1.town (pN_rep s.dom p1)
theorem se_lst {fr : Env → M (List D)} (h : SRs X B es fr) : SE X B (.List es pos) (listE (lstN fr)) := se_of_sn (sn_lst h)
end
end Sim

namespace Sim
open PySem L2

/-! ### a[i] -/
def ixD : D → D → Option D
  | .list xs, .int i => atI xs i
  | .tuple xs, .int i => atI xs i
  | .str z, .int i => if z.length ≤ big then (atI z.cps.toList i).map fun c => .str ⟨#[c]⟩ else none
  | _, _ => none
section
variable {X : Cx} {B : Bd} {e a b c : Expr} {es : List Expr} {pos : Pos} {fa fb fc : Env → M D}
theorem Reps.atI {K : PySem.W.Frag} {H : Hp} {O : OS} {vs : List V} {ds : List D} {i : Int} {d : D} (h : Reps K H O vs ds) (e : atI ds i = some d) : ∃ v, L2.atI vs i = some v ∧ Rep K H O v d := by
  unfold L2.atI at e ⊢
  rw [h.length]
  cases q : ixN ds.length i with
  | none => rw [q] at e; cases e
  | some j =>
    rw [q] at e
    obtain ⟨v, h1, h2⟩ := Reps.of h (show ds[j]? = some d from e)
    exact ⟨v, h1, h2⟩
theorem IxR.imp {r r' : R2} (h : IxR X r) (k : ∀ x y H Q, r' x y H Q → r x y H Q) : IxR X r' := fun vl sl pins s σ H x y v u Q I rx ry q => h vl sl pins s σ H x y v u Q I rx ry (k x y H Q q)
theorem ixd (hK : B.K = X.K) : IxR X (rD B ixD) := by
  refine IxR.imp ix_seq fun x y H Q h => ?_
  obtain ⟨O, d, e, z, dom, hx, hy, hz, q⟩ := h
  unfold ixD at hz
  split at hz
  · left
    obtain ⟨a, xs, rfl, ra, rxs⟩ := hx.list
    obtain ⟨v, hv, rv⟩ := rxs.atI hz
    exact ⟨a, xs, _, v, rfl, hy.int, .inl ra, hv, q v H (fun _ _ h => h) rv⟩
  · right; left
    obtain ⟨a, xs, rfl, ra, rxs⟩ := hx.tup
    obtain ⟨v, hv, rv⟩ := rxs.atI hz
    rw [hK] at ra
    exact ⟨a, xs, _, v, rfl, hy.int, ra.sq, hv, q v H (fun _ _ h => h) rv⟩
  · right; right
    split at hz
    · rename_i hl
      rename_i z' i
      cases e : L2.atI z'.cps.toList i with
      | none => rw [e] at hz; cases hz
      | some c =>
        rw [e] at hz
        cases hz
        exact ⟨_, _, c, hx.str, hy.int, Nat.le_trans hl big_line, e, q _ H (fun _ _ h => h) (.str _)⟩
    · cases hz
  · cases hz
theorem se_ix (hK : B.K = X.K) (ha : SB X B a fa) (hb : SB X B b fb) (hs : PlainIx b) : SE X B (.Subscript a b pos) (opE ixD fa fb) :=
  pe_weak (pe_ix (ixd hK) ha hb hs) fun _ _ _ h => opE_run h
/-! ### slices -/
def cutL {α : Type} (xs : List α) (lo hi : Option Int) : List α := (xs.drop (HT.sIx xs.length 0 lo)).take (HT.sIx xs.length xs.length hi - HT.sIx xs.length 0 lo)
def sliceD : D → Option Int → Option Int → Option D
  | .list xs, lo, hi => some (.list (cutL xs lo hi))
  | .tuple xs, lo, hi => some (.tuple (cutL xs lo hi))
  | .str z, lo, hi => if z.length ≤ big then some (.str (cutS z lo hi)) else none
  | _, _, _ => none
def intM : D → M Int
  | .int i => ret i
  | _ => fault
def noneO : Env → M (Option Int) := fun _ => ret none
def someO (fa : Env → M D) : Env → M (Option Int) := fun env => seq (fa env) fun x => seq (intM x) fun i => ret (some i)
def pO : OS → Hp → Hp → Option Int → Option Int → Prop := fun _ _ _ b a => b = a
theorem lat_O : Lat B pO := fun _ _ _ _ _ _ _ _ _ p => p
abbrev SO (X : Cx) (B : Bd) (e : Option Expr) (f : Env → M (Option Int)) : Prop := PO X e (tG B pO f)
theorem po_weak {e : Option Expr} {t t' : TO} (h : PO X e t) (k : ∀ σ H Q, t' σ H Q → t σ H Q) : PO X e t' := ⟨fun pins s σ H Q I q => h.run pins s σ H Q I (k σ H Q q)⟩
theorem so_none : SO X B none noneO := po_weak po_none fun σ H Q h => by
  obtain ⟨env, O, n, s, post⟩ := h
  exact post none H (Ext.refl _ _) s.town rfl
theorem so_some (ha : SE X B a fa) : SO X B (some a) (someO fa) := po_weak (po_some ha) fun σ H Q h => by
  obtain ⟨env, O, n, s, post⟩ := h
  refine tG_seq1 (g := fun env x => seq (intM x) fun i => ret (some i)) lat_O s post fun x vx n1 H1 s1 e1 p1 q1 => ?_
  cases p1 with
  | int i => exact ⟨i, rfl, q1 _ H1 (Ext.refl _ _) s1.town rfl⟩
  | _ => exact q1.elim
def sliceE (fa : Env → M D) (fl fh : Env → M (Option Int)) : Env → M D := fun env => seq (fa env) fun x => seq (fl env) fun l => seq (fh env) fun h => lift (sliceD x l h)
theorem Reps.cut {K : PySem.W.Frag} {H : Hp} {O : OS} {vs : List V} {ds : List D} (h : Reps K H O vs ds) (lo hi : Option Int) : Reps K H O (cutV vs lo hi) (cutL ds lo hi) := by
  unfold cutV cutL
  rw [h.length]
  exact Reps.take _ (Reps.drop _ h)
theorem cut_whole {α : Type} (xs : List α) {lo hi : Option Int} (h : HT.sIx xs.length 0 lo = 0 ∧ HT.sIx xs.length xs.length hi = xs.length) : cutL xs lo hi = xs := by
  unfold cutL
  rw [h.1, h.2]; simp
theorem sld (hK : B.K = X.K) : SlR X (fun x lo hi H Q => ∃ O d z, (∀ a, O a → NF H a) ∧ Brw B H O x d ∧ sliceD d lo hi = some z ∧ ∀ v H', Same H H' → Rep B.K H' O v z → Q v H') := by
  have base := SlR.or (X := X) sl_list (SlR.or sl_tupZ sl_str)
  intro pins s σ H x v vl vu lo hi sl Q I rx hs pl pu h
  refine base pins s σ H x v vl vu lo hi sl Q I rx hs pl pu ?_
  obtain ⟨O, d, z, dom, hx, hz, q⟩ := h
  unfold sliceD at hz
  split at hz
  · cases hz; left
    obtain ⟨a, xs, rfl, ra, rxs⟩ := hx.list
    exact ⟨a, xs, rfl, .inl ra, fun p hp => q _ _ (same_new hp) (rep_newL dom hp (rxs.cut _ _))⟩
  · cases hz; right; left
    obtain ⟨a, xs, rfl, ra, rxs⟩ := hx.tup
    have ra' := ra
    rw [hK] at ra'
    refine ⟨a, xs, rfl, ra'.sq, fun hw => ?_, fun _ p o hp od => q _ _ (same_new hp) (rep_newT dom hp od (rxs.cut _ _))⟩
    rw [rxs.length] at hw
    rw [cut_whole _ hw] at q
    exact q _ H (fun _ _ h => h) (.tup ra rxs)
  · split at hz
    · rename_i hl
      cases hz; right; right
      exact ⟨_, hx.str, Nat.le_trans hl big_line, q _ H (fun _ _ h => h) (.str _)⟩
    · cases hz
  · cases hz
theorem se_slice {lo hi : Option Expr} {p2 : Pos} {fl fh : Env → M (Option Int)} (hK : B.K = X.K) (ha : SB X B a fa) (hl : SO X B lo fl) (hh : SO X B hi fh) : SE X B (.Subscript a (.Slice lo hi none p2) pos) (sliceE fa fl fh) := by
  refine pe_weak (pe_slice (sld hK) ha hl hh) fun σ H Q h => ?_
  obtain ⟨env, O, n, s, post⟩ := h
  refine tG_seq1 (g := fun env x => seq (fl env) fun l => seq (fh env) fun h => lift (sliceD x l h)) lat_E s post fun x vx n1 H1 s1 e1 p1 q1 => ?_
  refine tG_seq1 (g := fun env l => seq (fh env) fun h => lift (sliceD x l h)) lat_E s1 q1 fun y vy n2 H2 s2 e2 p2 q2 => ?_
  refine tG_seq1 (g := fun env h => lift (sliceD x y h)) lat_E s2 q2 fun w vw n3 H3 s3 e3 p3 q3 => ?_
  cases p2; cases p3
  obtain ⟨z, hz, k⟩ := lift_post q3
  exact ⟨O, x, z, s3.dom, (p1.ext s3.tO e2).ext s3.tO e3, hz, fun v H' sm r => k v H' (same_ext sm) (same_town sm s3.town) r⟩
/-- a[::-1] of a list -/
def revE (fa : Env → M D) : Env → M D := fun env => seq (fa env) fun x => lift (match x with | .list xs => some (.list xs.reverse) | _ => none)
theorem se_revL {k : Nat} {p1 p2 p3 : Pos} (hK : B.K = X.K) (ha : SB X B a fa) : SE X B (.Subscript a (.Slice none none (some (.UnaryOp .USub (.Constant (.int 1) k p1) p2)) p3) pos) (revE fa) := by
  refine pe_weak (pe_revL ha) fun σ H Q h => ?_
  obtain ⟨env, O, n, s, post⟩ := h
  refine tG_seq1 (g := fun env (x : D) => lift (match x with | .list xs => some (PyData.list xs.reverse) | _ => none)) lat_E s post fun x vx n1 H1 s1 e1 p1 q1 => ?_
  obtain ⟨z, hz, k⟩ := lift_post q1
  split at hz
  · cases hz
    obtain ⟨a, xs, rfl, ra, rxs⟩ := Brw.list p1
    exact ⟨a, xs, rfl, .inl ra, fun p hp => k _ _ (same_ext (same_new hp)) (same_town (same_new hp) s1.town) (rep_newL s1.dom hp rxs.reverse)⟩
  · cases hz
/-! ### built-ins called -/
def rC (B : Bd) (g : List D → Option D) : List V → Hp → VK → Prop := fun vs H Q => ∃ O ds z, (∀ a, O a → NF H a) ∧ Brws B H O vs ds ∧ g ds = some z ∧ ∀ v H', Same H H' → Rep B.K H' O v z → Q v H'
def CallD (X : Cx) (B : Bd) (f : Value) (g : List D → Option D) : Prop := CallR X f (rC B g)
theorem CallR.imp {f : Value} {r r' : List V → Hp → VK → Prop} (h : CallR X f r) (k : ∀ vs H Q, r' vs H Q → r vs H Q) : CallR X f r' := fun pins s σ H vs us Q I rv q => h pins s σ H vs us Q I rv (k vs H Q q)
def callB (g : List D → Option D) (fs : Env → M (List D)) : Env → M D := fun env => seq (fs env) fun ds => lift (g ds)
theorem callB_run {g : List D → Option D} {fs : Env → M (List D)} {σ : L2.St} {H : Hp} {Q : VK} (h : tG B (pE B) (callB g fs) σ H Q) : tCB (rC B g) (tG B (pBs B) fs) σ H Q := by
  obtain ⟨env, O, n, s, post⟩ := h
  refine tG_seq1 (g := fun env ds => lift (g ds)) lat_E s post fun x vx n1 H1 s1 e1 p1 q1 => ?_
  obtain ⟨z, hz, k⟩ := lift_post q1
  exact ⟨O, x, z, s1.dom, p1, hz, fun v H' sm r => k v H' (same_ext sm) (same_town sm s1.town) r⟩
theorem se_callB {id : String} {x : Str} {p : Pos} {g : List D → Option D} {fs : Env → M (List D)} (hc : CallD X B (.builtin id) g) (hg : Gl X x) (hm : X.mg x = none) (hv : bootBuiltins x = some (.builtin id)) (ha : SBs X B (e :: es) fs) (hn : x ≠ "__name__" := by decide) (hdb : (x == ("__debug__" : Str)) = false := by decide)
    (he : starEach (e :: es) X.env = (false, eval e X.env) :: starEach es X.env := by rfl) (hpl : (backTo pos (starEach es X.env)).any (·.1) = false := by rfl) : SE X B (.Call (.Name x p) (e :: es) [] pos) (callB g fs) :=
  pe_weak (pe_callB hc hg hm hv ha hn hdb he hpl) fun _ _ _ h => callB_run h
theorem se_callTy {T : String} {x : Str} {p : Pos} {g : List D → Option D} {fs : Env → M (List D)} (hc : CallD X B (.type T) g) (hg : Gl X x) (hm : X.mg x = none) (hv : bootBuiltins x = some (.type T)) (ha : SBs X B (e :: es) fs) (hn : x ≠ "__name__" := by decide) (hdb : (x == ("__debug__" : Str)) = false := by decide)
    (he : starEach (e :: es) X.env = (false, eval e X.env) :: starEach es X.env := by rfl) (hpl : (backTo pos (starEach es X.env)).any (·.1) = false := by rfl) : SE X B (.Call (.Name x p) (e :: es) [] pos) (callB g fs) :=
  pe_weak (pe_callTy hc hg hm hv ha hn hdb he hpl) fun _ _ _ h => callB_run h
theorem Brws.one {H : Hp} {O : OS} {vs : List V} {d : D} (h : Brws B H O vs [d]) : ∃ v, vs = [v] ∧ Brw B H O v d := by
  cases h with
  | cons h1 h2 => cases h2; exact ⟨_, rfl, h1⟩
theorem Brws.two {H : Hp} {O : OS} {vs : List V} {d e : D} (h : Brws B H O vs [d, e]) : ∃ v w, vs = [v, w] ∧ Brw B H O v d ∧ Brw B H O w e := by
  cases h with
  | cons h1 h2 =>
    cases h2 with
    | cons h2 h3 => cases h3; exact ⟨_, _, rfl, h1, h2⟩
def lenD : List D → Option D
  | [.list xs] => some (.int xs.length)
  | [.tuple xs] => some (.int xs.length)
  | [.str z] => if z.length ≤ big then some (.int z.length) else none
  | _ => none
theorem calld_len (hK : B.K = X.K) : CallD X B (.builtin "len") lenD := by
  refine CallR.imp (CallR.or call_len_seq call_len_str) fun vs H Q h => ?_
  obtain ⟨O, ds, z, dom, hv, hz, q⟩ := h
  unfold lenD at hz
  split at hz
  · cases hz; left
    obtain ⟨v, rfl, h1⟩ := hv.one
    obtain ⟨a, xs, rfl, ra, rxs⟩ := h1.list
    refine ⟨a, xs, rfl, .inl (.inl ra), ?_⟩
    rw [rxs.length]
    exact q _ H (fun _ _ h => h) (.int _)
  · cases hz; left
    obtain ⟨v, rfl, h1⟩ := hv.one
    obtain ⟨a, xs, rfl, ra, rxs⟩ := h1.tup
    rw [hK] at ra
    refine ⟨a, xs, rfl, .inr ra.sq, ?_⟩
    rw [rxs.length]
    exact q _ H (fun _ _ h => h) (.int _)
  · split at hz
    · rename_i hl
      cases hz; right
      obtain ⟨v, rfl, h1⟩ := hv.one
      exact ⟨_, by rw [h1.str], Nat.le_trans hl big_line, q _ H (fun _ _ h => h) (.int _)⟩
    · cases hz
  · cases hz
def intD : List D → Option D
  | [.int i] => some (.int i)
  | [.bool k] => some (.int (if k then 1 else 0))
  | [.str z] => if z.length ≤ 640 then (PySem.intText? z).map .int else none
  | _ => none
theorem calld_int : CallD X B (.type "int") intD := by
  refine CallR.imp (CallR.or call_int1 call_int_str) fun vs H Q h => ?_
  obtain ⟨O, ds, z, dom, hv, hz, q⟩ := h
  unfold intD at hz
  split at hz
  · cases hz; left; left
    obtain ⟨v, rfl, h1⟩ := hv.one
    exact ⟨_, by rw [h1.int], q _ H (fun _ _ h => h) (.int _)⟩
  · cases hz; left; right
    obtain ⟨v, rfl, h1⟩ := hv.one
    exact ⟨_, by rw [h1.bool], q _ H (fun _ _ h => h) (.int _)⟩
  · split at hz
    · rename_i hl
      right
      obtain ⟨v, rfl, h1⟩ := hv.one
      rename_i x
      cases e : PySem.intText? x with
      | none => rw [e] at hz; cases hz
      | some i =>
        rw [e] at hz; cases hz
        exact ⟨_, i, by rw [h1.str], e, hl, q _ H (fun _ _ h => h) (.int _)⟩
    · cases hz
  · cases hz
def strD : List D → Option D
  | [.int i] => if i.natAbs < 1000000 then some (.str (toString i)) else none
  | _ => none
theorem calld_str : CallD X B (.type "str") strD := by
  refine CallR.imp call_str_int fun vs H Q h => ?_
  obtain ⟨O, ds, z, dom, hv, hz, q⟩ := h
  unfold strD at hz
  split at hz
  · split at hz
    · rename_i i hl
      cases hz
      obtain ⟨v, rfl, h1⟩ := hv.one
      refine ⟨_, by rw [h1.int], ?_, q _ H (fun _ _ h => h) (.str _)⟩
      by_cases h0 : i.natAbs = 0
      · rw [h0]; decide
      · have : i.natAbs.log2 < 20 := (Nat.log2_lt h0).mpr (by omega)
        omega
    · cases hz
  · cases hz
def intsOf : List D → Option (List Int)
  | [] => some []
  | .int i :: r => (intsOf r).map (i :: ·)
  | _ :: _ => none
theorem intsOf_reps {K : PySem.W.Frag} {H : Hp} {O : OS} : ∀ {vs : List V} {ds : List D} {ns : List Int}, Reps K H O vs ds → intsOf ds = some ns → vs = ns.map V.int
  | _, _, _, .nil, e => by cases e; rfl
  | _, _, ns, .cons (d := d) (ds := ds) r t, e => by
    cases d with
    | int i =>
      unfold intsOf at e
      cases q : intsOf ds with
      | none => rw [q] at e; cases e
      | some ms =>
        rw [q] at e; cases e
        cases r
        rw [intsOf_reps t q]; rfl
    | _ => cases e
def boolsOf : List D → Option (List Bool)
  | [] => some []
  | .bool i :: r => (boolsOf r).map (i :: ·)
  | _ :: _ => none
theorem boolsOf_reps {K : PySem.W.Frag} {H : Hp} {O : OS} : ∀ {vs : List V} {ds : List D} {ns : List Bool}, Reps K H O vs ds → boolsOf ds = some ns → vs = ns.map V.bl
  | _, _, _, .nil, e => by cases e; rfl
  | _, _, ns, .cons (d := d) (ds := ds) r t, e => by
    cases d with
    | bool i =>
      unfold boolsOf at e
      cases q : boolsOf ds with
      | none => rw [q] at e; cases e
      | some ms =>
        rw [q] at e; cases e
        cases r
        rw [boolsOf_reps t q]; rfl
    | _ => cases e
def strsOf : List D → Option (List Str)
  | [] => some []
  | .str i :: r => (strsOf r).map (i :: ·)
  | _ :: _ => none
theorem strsOf_reps {K : PySem.W.Frag} {H : Hp} {O : OS} : ∀ {vs : List V} {ds : List D} {ns : List Str}, Reps K H O vs ds → strsOf ds = some ns → vs = ns.map V.str
  | _, _, _, .nil, e => by cases e; rfl
  | _, _, ns, .cons (d := d) (ds := ds) r t, e => by
    cases d with
    | str i =>
      unfold strsOf at e
      cases q : strsOf ds with
      | none => rw [q] at e; cases e
      | some ms =>
        rw [q] at e; cases e
        cases r
        rw [strsOf_reps t q]; rfl
    | _ => cases e
def sumD : List D → Option D
  | [.list xs] => (intsOf xs).map fun ns => .int ns.sum
  | _ => none
theorem calld_sum (hc : X.calm = true) : CallD X B (.builtin "sum") sumD := by
  refine CallR.imp (cr_sum hc) fun vs H Q h => ?_
  obtain ⟨O, ds, z, dom, hv, hz, q⟩ := h
  unfold sumD at hz
  split at hz
  · rename_i xs
    obtain ⟨v, rfl, h1⟩ := hv.one
    obtain ⟨a, ys, rfl, ra, rxs⟩ := h1.list
    cases e : intsOf xs with
    | none => rw [e] at hz; cases hz
    | some ns =>
      rw [e] at hz; cases hz
      have e2 := intsOf_reps rxs e
      subst e2
      exact ⟨a, ns, rfl, .inl ra, q _ H (fun _ _ h => h) (.int _)⟩
  · cases hz
def allD : List D → Option D
  | [.list xs] => (boolsOf xs).map fun ns => .bool (ns.all id)
  | _ => none
theorem calld_all (hc : X.calm = true) : CallD X B (.builtin "all") allD := by
  refine CallR.imp (cr_all hc) fun vs H Q h => ?_
  obtain ⟨O, ds, z, dom, hv, hz, q⟩ := h
  unfold allD at hz
  split at hz
  · rename_i xs
    obtain ⟨v, rfl, h1⟩ := hv.one
    obtain ⟨a, ys, rfl, ra, rxs⟩ := h1.list
    cases e : boolsOf xs with
    | none => rw [e] at hz; cases hz
    | some ns =>
      rw [e] at hz; cases hz
      have e2 := boolsOf_reps rxs e
      subst e2
      exact ⟨a, ns, rfl, .inl ra, q _ H (fun _ _ h => h) (.bl _)⟩
  · cases hz
def max2D : List D → Option D
  | [.int i, .int j] => some (.int (if j > i then j else i))
  | _ => none
theorem calld_max2 (hc : X.calm = true) : CallD X B (.builtin "max") max2D := by
  refine CallR.imp (call_max2 hc) fun vs H Q h => ?_
  obtain ⟨O, ds, z, dom, hv, hz, q⟩ := h
  unfold max2D at hz
  split at hz
  · cases hz
    obtain ⟨v, w, rfl, h1, h2⟩ := hv.two
    exact ⟨_, _, by rw [h1.int, h2.int], q _ H (fun _ _ h => h) (.int _)⟩
  · cases hz
def min2D : List D → Option D
  | [.int i, .int j] => some (.int (if j < i then j else i))
  | _ => none
theorem calld_min2 (hc : X.calm = true) : CallD X B (.builtin "min") min2D := by
  refine CallR.imp (call_min2 hc) fun vs H Q h => ?_
  obtain ⟨O, ds, z, dom, hv, hz, q⟩ := h
  unfold min2D at hz
  split at hz
  · cases hz
    obtain ⟨v, w, rfl, h1, h2⟩ := hv.two
    exact ⟨_, _, by rw [h1.int, h2.int], q _ H (fun _ _ h => h) (.int _)⟩
  · cases hz
def listD : List D → Option D
  | [.list xs] => some (.list xs)
  | [.tuple xs] => some (.list xs)
  | _ => none
theorem calld_list (hK : B.K = X.K) : CallD X B (.type "list") listD := by
  refine CallR.imp call_list_of fun vs H Q h => ?_
  obtain ⟨O, ds, z, dom, hv, hz, q⟩ := h
  unfold listD at hz
  split at hz
  · cases hz
    obtain ⟨v, rfl, h1⟩ := hv.one
    obtain ⟨a, xs, rfl, ra, rxs⟩ := h1.list
    exact ⟨a, xs, rfl, .inl (.inl ra), fun p hp => q _ _ (same_new hp) (rep_newL dom hp rxs)⟩
  · cases hz
    obtain ⟨v, rfl, h1⟩ := hv.one
    obtain ⟨a, xs, rfl, ra, rxs⟩ := h1.tup
    rw [hK] at ra
    exact ⟨a, xs, rfl, .inr ra.sq, fun p hp => q _ _ (same_new hp) (rep_newL dom hp rxs)⟩
  · cases hz
def tupleD : List D → Option D
  | [.list xs] => some (.tuple xs)
  | [.tuple xs] => some (.tuple xs)
  | _ => none
theorem calld_tuple (hK : B.K = X.K) : CallD X B (.type "tuple") tupleD := by
  refine CallR.imp call_tupleZ fun vs H Q h => ?_
  obtain ⟨O, ds, z, dom, hv, hz, q⟩ := h
  unfold tupleD at hz
  split at hz
  · cases hz
    obtain ⟨v, rfl, h1⟩ := hv.one
    obtain ⟨a, xs, rfl, ra, rxs⟩ := h1.list
    exact ⟨a, xs, rfl, .inl ⟨.inl ra, fun p o hp od => q _ _ (same_new hp) (rep_newT dom hp od rxs)⟩⟩
  · cases hz
    obtain ⟨v, rfl, h1⟩ := hv.one
    obtain ⟨a, xs, rfl, ra, rxs⟩ := h1.tup
    have ra' := ra
    rw [hK] at ra'
    exact ⟨a, xs, rfl, .inr ⟨ra'.sq, q _ H (fun _ _ h => h) (.tup ra rxs)⟩⟩
  · cases hz
/-! ### isinstance(x, T) -/
def isiE (g : D → Bool) (fa : Env → M D) : Env → M D := fun env => seq (fa env) fun x => ret (.bool (g x))
def rIsi (K : PySem.W.Frag) (T : String) (g : D → Bool) : List V → Hp → VK → Prop := fun vs H Q => ∃ x d, vs = [x, .ty T] ∧ Dp K H x d ∧ Q (.bl (g d)) H
theorem isi_of {T : String} {g : D → Bool} (h : ∀ {s : Shared} {v : Value} {d : PyData} {as : List Addr} {Q : Value → Shared → Prop} {E : Value → Shared → Prop}, Reads s.heap v d as → (∀ tk, s.toks ≤ tk → Q (.bool (g d)) { s with toks := tk }) →
    wpAny (model X.prog X.w) X.A (call (.builtin "isinstance") [v, .type T]) Q E s) : CallR X (.builtin "isinstance") (rIsi X.K T g) := by
  intro pins s σ H vs us Q I rv q
  obtain ⟨x, d, rfl, dp, q⟩ := q
  cases rv with
  | cons r1 rr =>
    cases rr with
    | cons r2 rr =>
      cases rr
      cases r2
      obtain ⟨as, rd⟩ := Dp.reads I d x _ dp r1
      exact h rd fun tk _ => ⟨.bl (g d), H, I.tok tk, rfl, q⟩
theorem isi_int : CallR X (.builtin "isinstance") (rIsi X.K "int" PyData.isInt) := isi_of fun r h => PySem.W.isinstance_int_data r h
theorem isi_bool : CallR X (.builtin "isinstance") (rIsi X.K "bool" PyData.isBool) := isi_of fun r h => PySem.W.isinstance_bool_data r h
theorem isi_str : CallR X (.builtin "isinstance") (rIsi X.K "str" PyData.isStr) := isi_of fun r h => PySem.W.isinstance_str_data r h
theorem isi_list : CallR X (.builtin "isinstance") (rIsi X.K "list" PyData.isList) := isi_of fun r h => PySem.W.isinstance_list_data r h
theorem isi_tuple : CallR X (.builtin "isinstance") (rIsi X.K "tuple" PyData.isTuple) := isi_of fun r h => PySem.W.isinstance_tuple_data r h
theorem se_isi {T : String} {g : D → Bool} {t : Str} {p p2 : Pos} (hK : B.K = X.K) (hc : CallR X (.builtin "isinstance") (rIsi X.K T g)) (hg : Gl X "isinstance") (hm : X.mg "isinstance" = none) (hgt : Gl X t) (hmt : X.mg t = none) (hvt : bootBuiltins t = some (.type T)) (ha : SB X B a fa)
    (hnt : t ≠ "__name__" := by decide) (hdt : (t == ("__debug__" : Str)) = false := by decide)
    (h1 : starEach [a, .Name t p2] X.env = (false, eval a X.env) :: starEach [.Name t p2] X.env := by rfl) (h2 : starEach [.Name t p2] X.env = (false, eval (.Name t p2) X.env) :: starEach [] X.env := by rfl) (hpl : (backTo pos (starEach [.Name t p2] X.env)).any (·.1) = false := by rfl) :
    SE X B (.Call (.Name "isinstance" p) [a, .Name t p2] [] pos) (isiE g fa) := by
  refine pe_weak (pe_callB hc hg hm (by decide +kernel) (pa_cons ha (pa_cons (pe_bltn (v := .ty T) hgt hmt hvt rfl hnt hdt) pa_nil h2) h1) (by decide) (by decide) h1 hpl) fun σ H Q h => ?_
  obtain ⟨env, O, n, s, post⟩ := h
  refine tG_seq1 (g := fun env x => ret (PyData.bool (g x))) lat_E s post fun x vx n1 H1 s1 e1 p1 q1 => ?_
  have dp := Brw.dp p1
  rw [hK] at dp
  exact ⟨vx, x, rfl, dp, q1 _ H1 (Ext.refl _ _) s1.town (.bl _)⟩
/-! ### methods -/
def rM (B : Bd) (g : D → List D → Option D) : V → List V → Hp → VK → Prop := fun x vs H Q => ∃ O d ds z, (∀ a, O a → NF H a) ∧ Brw B H O x d ∧ Brws B H O vs ds ∧ g d ds = some z ∧ ∀ v H', Same H H' → Rep B.K H' O v z → Q v H'
def MtD (X : Cx) (B : Bd) (id : String) (g : D → List D → Option D) : Prop := MtR X id (rM B g)
theorem MtR.imp {id : String} {r r' : V → List V → Hp → VK → Prop} (h : MtR X id r) (k : ∀ x vs H Q, r' x vs H Q → r x vs H Q) : MtR X id r' := fun pins s σ H x vs v us Q I rx rv q => h pins s σ H x vs v us Q I rx rv (k x vs H Q q)
def methE (ok : D → Bool) (g : D → List D → Option D) (fo : Env → M D) (fs : Env → M (List D)) : Env → M D := fun env => seq (fo env) fun x => if ok x = true then seq (fs env) fun ds => lift (g x ds) else fault
theorem se_meth {T : String} {call : Expr} {ok : D → Bool} {g : D → List D → Option D} {fo : Env → M D} {fs : Env → M (List D)} (hT : ∀ H O v d, Brw B H O v d → ok d = true → tyV X.K T v H) (h : PE X call (tBM X.K T (rM B g) (tG B (pB B) fo) (tG B (pBs B) fs))) :
    SE X B call (methE ok g fo fs) := by
  refine pe_weak h fun σ H Q h => ?_
  obtain ⟨env, O, n, s, post⟩ := h
  refine tG_seq1 (g := fun env x => if ok x = true then seq (fs env) fun ds => lift (g x ds) else fault) lat_E s post fun x vx n1 H1 s1 e1 p1 q1 => ?_
  by_cases hok : ok x = true
  · rw [if_pos hok] at q1
    refine ⟨hT _ _ _ _ p1 hok, ?_⟩
    refine tG_seq1 (g := fun env ds => lift (g x ds)) lat_E s1 q1 fun y vy n2 H2 s2 e2 p2 q2 => ?_
    obtain ⟨z, hz, k⟩ := lift_post q2
    exact ⟨O, x, y, z, s2.dom, Brw.ext s2.tO e2 p1, p2, hz, fun v H' sm r => k v H' (same_ext sm) (same_town sm s2.town) r⟩
  · rw [if_neg hok] at q1; exact q1.elim
end
end Sim

namespace Sim
open PySem L2

inductive Fl where
  | next (env : Env)
  | ret (d : D)
  | rn (xs : List D)
  | rd (kvs : List ((Int × Bool) × D))
  | brk (env : Env)
  | cont (env : Env)
/-- a new list is handed back -/
def RN (B : Bd) (H' : Hp) (v : V) (xs : List D) : Prop := ∃ a vs, v = .ref a ∧ B.H0 a = none ∧ H' a = some (.lst vs) ∧ Reps B.K H' (addO B.O0 a) vs xs
/-- a new dict is handed back -/
def RD (B : Bd) (H' : Hp) (v : V) (kvs : List ((Int × Bool) × D)) : Prop := ∃ a es, v = .ref a ∧ B.H0 a = none ∧ H' a = some (KDo a es) ∧ EntT B.K H' (addO B.O0 a) es kvs
def SPost (B : Bd) (De : Ends) (O : OS) (H : Hp) (r : R Fl) : Prop := match r with
  | .ok (.next env) n => ∀ σ' O' H', Sim B env O' n σ' H' → Step O H O' H' → De.nx σ' H'
  | .ok (.brk env) n => ∀ σ' O' H', Sim B env O' n σ' H' → Step O H O' H' → De.bk σ' H'
  | .ok (.cont env) n => ∀ σ' O' H', Sim B env O' n σ' H' → Step O H O' H' → De.ct σ' H'
  | .ok (.ret d) n => ∀ v H', Ext B.T B.H0 H' → Town B.T H' n → Rep B.K H' B.O0 v d → De.rt v H'
  | .ok (.rn xs) n => ∀ v H', Ext B.T B.H0 H' → Town B.T H' n → RN B H' v xs → De.rt v H'
  | .ok (.rd xs) n => ∀ v H', Ext B.T B.H0 H' → Town B.T H' n → RD B H' v xs → De.rt v H'
  | .exc c n => XPost B c n
  | .bad => False
def tS (B : Bd) (g : Env → M Fl) : TS := fun De σ H => ∃ env O n, Sim B env O n σ H ∧ SPost B De O H (g env n)
abbrev SS (X : Cx) (B : Bd) (st : Stmt) (g : Env → M Fl) : Prop := PS X st (tS B g)
abbrev SSs (X : Cx) (B : Bd) (sts : List Stmt) (g : Env → M Fl) : Prop := PSs X sts (tS B g)
theorem SPost.later {B : Bd} {De : Ends} {O O1 : OS} {H H1 : Hp} {r : R Fl} (h : SPost B De O H r) (st : Step O H O1 H1) : SPost B De O1 H1 r := by
  cases r with
  | ok f n =>
    cases f with
    | next env => exact fun σ' O' H' s st' => h σ' O' H' s (st.trans st')
    | brk env => exact fun σ' O' H' s st' => h σ' O' H' s (st.trans st')
    | cont env => exact fun σ' O' H' s st' => h σ' O' H' s (st.trans st')
    | ret d => exact h
    | rn xs => exact h
    | rd xs => exact h
  | exc c n => exact h
  | bad => exact h
section
variable {B : Bd} {α β : Type} {P : OS → Hp → Hp → β → α → Prop} {σ : L2.St} {H : Hp} {De : Ends}
/-- an expression first, then a flow -/
theorem tS_seq {f : Env → M α} {g : Env → α → M Fl} {Y : β → Hp → Prop} {env : Env} {O : OS} {n : Sta} (s : Sim B env O n σ H) (h : SPost B De O H (seq (f env) (g env) n))
    (k : ∀ a b n1 H1, Sim B env O n1 σ H1 → Ext B.T H H1 → P O H H1 b a → SPost B De O H1 (g env a n1) → Y b H1) : tG B P f σ H Y := by
  refine ⟨env, O, n, s, ?_⟩
  unfold seq at h
  cases e : f env n with
  | ok a n1 =>
    rw [e] at h
    intro b H1 ex tw p
    exact k a b n1 H1 (s.ext ex tw) ex p (SPost.later h (step_of s.tO ex))
  | exc c n1 => rw [e] at h; exact h
  | bad => rw [e] at h; exact h.elim
end

/-! ### what a store does -/
theorem set_slot {env : Env} {i j : Nat} {x : Option SV} {sv : SV} (h : (env.set i x)[j]? = some (some sv)) : (i = j ∧ x = some sv ∧ i < env.length) ∨ (i ≠ j ∧ env[j]? = some (some sv)) := by
  by_cases hj : i = j
  · subst hj
    by_cases hl : i < env.length
    · rw [List.getElem?_set_self hl] at h
      exact .inl ⟨rfl, Option.some.inj h, hl⟩
    · rw [List.getElem?_eq_none (by rw [List.length_set]; omega)] at h; cases h
  · rw [List.getElem?_set_ne hj] at h
    exact .inr ⟨hj, h⟩
section
variable {B : Bd} {env : Env} {O : OS} {n n' : Sta} {σ : L2.St} {H H' : Hp}
theorem Sim.setV (s : Sim B env O n σ H) (i : Nat) {v : V} {sv : SV} (w : sv.ow = false) (r : SlotOk B H O v sv) : Sim B (env.set i (some sv)) O n (σ.set i (some v)) H where
  len := by rw [List.length_set, List.length_set]; exact s.len
  slot := fun j tv h => by
    rcases set_slot h with ⟨rfl, e, hl⟩ | ⟨hj, h⟩
    · cases e
      exact ⟨v, by rw [List.getElem?_set_self (by rw [← s.len]; exact hl)], r⟩
    · rw [List.getElem?_set_ne hj]
      exact s.slot j tv h
  sep := fun j k tv uv x hjk h1 w1 h2 w2 h3 => by
    rcases set_slot h1 with ⟨rfl, e, hl⟩ | ⟨nj, h1⟩
    · cases e; rw [w] at w1; cases w1
    rcases set_slot h2 with ⟨rfl, e, hl⟩ | ⟨nk, h2⟩
    · cases e; rw [w] at w2; cases w2
    rw [List.getElem?_set_ne nj] at h3
    rw [List.getElem?_set_ne nk]
    exact s.sep j k tv uv x hjk h1 w1 h2 w2 h3
  dom := s.dom
  town := s.town
  tO := s.tO
  fr1 := s.fr1
  fr2 := s.fr2
  fr3 := s.fr3
  tK := s.tK
  tC := s.tC
theorem Sim.setD (s : Sim B env O n σ H) (i : Nat) {v : V} {d : D} (r : Rep B.K H O v d) : Sim B (env.set i (some (.d d))) O n (σ.set i (some v)) H := s.setV i rfl r
/-- a new owned thing at p -/
theorem Sim.setNew (s : Sim B env O n σ H) (i : Nat) {p : Addr} {o : HO} {sv : SV} (e : Ext B.T H H') (t : Town B.T H' n') (hp : H p = none) (hp' : H' p = some o) (no : nf o = true) (r : ¬ B.O0 p → ¬ B.T.has p → SlotOk B H' (addO O p) (.ref p) sv) :
    Sim B (env.set i (some sv)) (addO O p) n' (σ.set i (some (.ref p))) H' := by
  have st : Step O H (addO O p) H' := fun a o h na => ⟨e a o (fun z => na (s.tO a z)) h, fun z => z.elim na (ne_of_none h hp)⟩
  have npT : ¬ B.T.has p := s.town.cold hp
  have h0 : B.H0 p = none := none_back s.fr1 s.town hp
  have n0 : ¬ B.O0 p := fun z => (s.dom p (s.fr3 p z)).ne hp
  refine ⟨by rw [List.length_set, List.length_set]; exact s.len, fun j tv h => ?_, fun j k tv uv x hjk h1 w1 h2 w2 h3 => ?_, fun a h => ?_, t, fun a h => .inl (s.tO a h), s.fr1.trans e, fun a h => ?_, fun a h => .inl (s.fr3 a h), s.tK, s.tC⟩
  · rcases set_slot h with ⟨rfl, e1, hl⟩ | ⟨hj, h⟩
    · cases e1
      exact ⟨.ref p, by rw [List.getElem?_set_self (by rw [← s.len]; exact hl)], r n0 npT⟩
    · rw [List.getElem?_set_ne hj]
      obtain ⟨v, h1, h2⟩ := s.slot j tv h
      exact ⟨v, h1, h2.to st fun _ a _ o1 ne => ⟨.inl o1, fun o q => e a o ne q⟩⟩
  · rcases set_slot h1 with ⟨rfl, e1, hl⟩ | ⟨nj, h1⟩
    · rw [List.getElem?_set_self (by rw [← s.len]; exact hl)] at h3
      cases h3
      rcases set_slot h2 with ⟨rfl, _⟩ | ⟨nk, h2⟩
      · exact absurd rfl hjk
      rw [List.getElem?_set_ne nk]
      intro q
      obtain ⟨v, q1, q2⟩ := s.slot k _ h2
      obtain ⟨a, e2, _, _, _, na⟩ := q2.ow w2
      rw [q] at q1; cases q1; cases e2
      exact na hp
    · rw [List.getElem?_set_ne nj] at h3
      rcases set_slot h2 with ⟨rfl, e1, hl⟩ | ⟨nk, h2⟩
      · rw [List.getElem?_set_self (by rw [← s.len]; exact hl)]
        intro q
        cases q
        obtain ⟨v, q1, q2⟩ := s.slot j _ h1
        obtain ⟨a, e2, _, _, _, na⟩ := q2.ow w1
        rw [h3] at q1; cases q1; cases e2
        exact na hp
      · rw [List.getElem?_set_ne nk]
        exact s.sep j k tv uv x hjk h1 w1 h2 w2 h3
  · rcases h with h | h
    · exact dom_ext e t s.dom a h
    · rw [h]; exact ⟨o, hp', no⟩
  · rcases h with h | h
    · exact s.fr2 a h
    · rw [h]; exact .inr h0
theorem Sim.setOwn (s : Sim B env O n σ H) (i : Nat) {p : Addr} {vs : List V} {ds : List D} (e : Ext B.T H H') (t : Town B.T H' n') (hp : H p = none) (hp' : H' p = some (.lst vs)) (r : Reps B.K H' (addO O p) vs ds) :
    Sim B (env.set i (some (.own ds))) (addO O p) n' (σ.set i (some (.ref p))) H' := s.setNew i e t hp hp' rfl fun h1 h2 => ⟨p, vs, rfl, .inr rfl, h1, h2, hp', r⟩
/-- a cold thing is changed: what is known stays -/
theorem Town.cool {T : Hot} (t : Town T H n) {a : Addr} {o : HO} (na : ¬ T.has a) (f : NF H a) : Town T (upd H a o) n := t.keep (fun b ob u h => by
    by_cases z : b = a
    · subst z; obtain ⟨o', e', n'⟩ := f; rw [h] at e'; cases e'; cases n'
    · rw [upd_ne z]; exact h) fun b hb => upd_ne fun z => na (z ▸ hb)
/-- the owned thing of slot i is changed -/
theorem Sim.mutG (s : Sim B env O n σ H) {i : Nat} {sv sv' : SV} {a : Addr} {o : HO} (hi : env[i]? = some (some sv)) (w : sv.ow = true) (w' : sv'.ow = true) (hσ : σ[i]? = some (some (.ref a))) (no : nf o = true) (r : O a → ¬ B.O0 a → ¬ B.T.has a → Step O H O (upd H a o) → SlotOk B (upd H a o) O (.ref a) sv') :
    Sim B (env.set i (some sv')) O n σ (upd H a o) ∧ Step O H O (upd H a o) := by
  obtain ⟨v, q1, q2⟩ := s.slot i _ hi
  obtain ⟨a', e1, o1, o2, ne, na⟩ := q2.ow w
  rw [hσ] at q1
  cases q1
  cases e1
  have st : Step O H O (upd H a o) := fun b u h nb => ⟨by rw [upd_ne (fun z => nb (by rw [z]; exact o1))]; exact h, nb⟩
  have hl : i < env.length := (List.getElem?_eq_some_iff.mp hi).1
  refine ⟨⟨by rw [List.length_set]; exact s.len, fun j tv h => ?_, fun j k tv uv x hjk h1 w1 h2 w2 h3 => ?_, fun b h => ?_, s.town.cool ne (s.dom a o1), s.tO, fun b u nb h => ?_, s.fr2, s.fr3, s.tK, s.tC⟩, st⟩
  · rcases set_slot h with ⟨rfl, e1, _⟩ | ⟨hj, h⟩
    · cases e1
      exact ⟨.ref a, hσ, r o1 o2 ne st⟩
    · obtain ⟨v, h1, h2⟩ := s.slot j tv h
      refine ⟨v, h1, h2.to st fun w2 c e2 c1 c2 => ⟨c1, fun u q => ?_⟩⟩
      have nac : c ≠ a := fun z => by
        subst e2 z
        exact s.sep i j _ _ _ hj hi w h w2 hσ h1
      rw [upd_ne nac]; exact q
  · have g : ∀ (m : Nat) (zv : SV), zv.ow = true → (env.set i (some sv'))[m]? = some (some zv) → ∃ zv' : SV, env[m]? = some (some zv') ∧ zv'.ow = true := fun m zv wz h => by
      rcases set_slot h with ⟨rfl, e1, _⟩ | ⟨hm, h⟩
      · exact ⟨sv, hi, w⟩
      · exact ⟨zv, h, wz⟩
    obtain ⟨z1, g1, g2⟩ := g j _ w1 h1
    obtain ⟨z2, g3, g4⟩ := g k _ w2 h2
    exact s.sep j k _ _ x hjk g1 g2 g3 g4 h3
  · by_cases z : b = a
    · subst z; exact ⟨o, upd_same, no⟩
    · obtain ⟨u, e1, n1⟩ := s.dom b h
      exact ⟨u, by rw [upd_ne z]; exact e1, n1⟩
  · have nba : b ≠ a := fun z => by
      subst z
      rcases s.fr2 b o1 with q | q
      · exact o2 q
      · rw [q] at h; cases h
    rw [upd_ne nba]
    exact s.fr1 b u nb h
theorem Sim.mut (s : Sim B env O n σ H) {i : Nat} {xs ds : List D} {a : Addr} {vs : List V} (hi : env[i]? = some (some (.own xs))) (hσ : σ[i]? = some (some (.ref a))) (r : Reps B.K H O vs ds) :
    Sim B (env.set i (some (.own ds))) O n σ (upd H a (.lst vs)) ∧ Step O H O (upd H a (.lst vs)) :=
  s.mutG hi rfl rfl hσ rfl fun o1 o2 ne st => ⟨a, vs, rfl, o1, o2, ne, upd_same, Reps.step st _ _ r⟩
/-- an owned list is given up -/
theorem Sim.freeze (s : Sim B env O n σ H) {i : Nat} {xs : List D} (hi : env[i]? = some (some (.own xs))) : ∃ O', Sim B (env.set i (some (.d (.list xs)))) O' n σ H ∧ Step O H O' H := by
  obtain ⟨v, q1, a, vs, e1, o1, o2, ne, hv, r⟩ := s.slot i _ hi
  subst e1
  have hl : i < env.length := (List.getElem?_eq_some_iff.mp hi).1
  have sub : ∀ b, (O b ∧ b ≠ a) → O b := fun b z => z.1
  have st : Step O H (fun b => O b ∧ b ≠ a) H := fun b o h nb => ⟨h, fun z => nb z.1⟩
  refine ⟨fun b => O b ∧ b ≠ a, ⟨by rw [List.length_set]; exact s.len, fun j tv h => ?_, fun j k tv uv x hjk h1 w1 h2 w2 h3 => ?_, fun b h => s.dom b h.1, s.town, fun b h => ⟨s.tO b h, fun z => ne (z ▸ h)⟩, s.fr1, fun b h => s.fr2 b h.1, fun b h => ⟨s.fr3 b h, fun z => o2 (z ▸ h)⟩, s.tK, s.tC⟩, st⟩
  · rcases set_slot h with ⟨rfl, e1, _⟩ | ⟨hj, h⟩
    · cases e1
      exact ⟨.ref a, q1, .lst ⟨.inl hv, fun z => z.2 rfl⟩ (Reps.anti sub _ _ r)⟩
    · obtain ⟨v, h1, h2⟩ := s.slot j tv h
      refine ⟨v, h1, h2.to st fun w2 c e2 c1 c2 => ⟨⟨c1, fun z => ?_⟩, fun _ q => q⟩⟩
      subst e2 z
      exact s.sep i j _ _ _ hj hi rfl h w2 q1 h1
  · rcases set_slot h1 with ⟨rfl, e1, _⟩ | ⟨_, h1⟩
    · cases e1; cases w1
    rcases set_slot h2 with ⟨rfl, e1, _⟩ | ⟨_, h2⟩
    · cases e1; cases w2
    exact s.sep j k _ _ x hjk h1 w1 h2 w2 h3
end

/-! ### statements -/
section
variable {X : Cx} {B : Bd} {st : Stmt} {rest : List Stmt} {g g' : Env → M Fl} {e : Expr} {fa : Env → M D} {pos : Pos}
def thenM (g' : Env → M Fl) : Fl → M Fl
  | .next env => g' env
  | f => ret f
def thenS (g g' : Env → M Fl) : Env → M Fl := fun env => seq (g env) (thenM g')
def nextS : Env → M Fl := fun env => ret (.next env)
theorem ss_nil : SSs X B [] nextS := pss_weak pss_nil fun De σ H h => by
  obtain ⟨env, O, n, s, post⟩ := h
  exact post σ O H s (Step.refl _ _)
theorem ss_cons (h1 : SS X B st g) (h2 : SSs X B rest g') : SSs X B (st :: rest) (thenS g g') := by
  refine pss_weak (pss_cons h1 h2) fun De σ H h => ?_
  obtain ⟨env, O, n, s, post⟩ := h
  refine ⟨env, O, n, s, ?_⟩
  have post : SPost B De O H (seq (g env) (thenM g') n) := post
  unfold seq at post
  cases r : g env n with
  | ok f m =>
    rw [r] at post
    cases f with
    | next env' => exact fun σ' O' H' s' st' => ⟨env', O', m, s', SPost.later post st'⟩
    | ret d => exact post
    | rn xs => exact post
    | rd xs => exact post
    | brk env' => exact post
    | cont env' => exact post
  | exc c m => rw [r] at post; exact post
  | bad => rw [r] at post; exact post
theorem ss_one (h1 : SS X B st g) : SSs X B [st] g := pss_one h1
def retS (fa : Env → M D) : Env → M Fl := fun env => seq (fa env) fun d => ret (.ret d)
theorem ss_ret (h : SE X B e fa) : SS X B (.Return (some e) pos) (retS fa) := by
  refine ps_weak (ps_ret h) fun De σ H h => ?_
  obtain ⟨env, O, n, s, post⟩ := h
  refine tS_seq (g := fun env d => ret (.ret d)) s post fun x vx n1 H1 s1 e1 p1 q1 => ?_
  exact q1 vx H1 s1.fr1 s1.town (Rep.anti s1.fr3 _ _ p1)
theorem ss_retN : SS X B (.Return none pos) (fun _ => ret (.ret .none)) := by
  refine ps_weak ps_retN fun De σ H h => ?_
  obtain ⟨env, O, n, s, post⟩ := h
  exact post .non H s.fr1 s.town .non
def exprS (fa : Env → M D) : Env → M Fl := fun env => seq (fa env) fun _ => ret (.next env)
theorem ss_expr (h : SE X B e fa) (hs : swapsWith e none pos.line X.env = pure false := by rfl) : SS X B (.Expr e pos) (exprS fa) := by
  refine ps_weak (ps_expr h hs) fun De σ H h => ?_
  obtain ⟨env, O, n, s, post⟩ := h
  refine tS_seq (g := fun env _ => ret (.next env)) s post fun x vx n1 H1 s1 e1 p1 q1 => ?_
  exact q1 σ O H1 s1 (Step.refl _ _)
def ifS (gc : Env → M Bool) (g g' : Env → M Fl) : Env → M Fl := fun env => seq (gc env) fun k => if k = true then g env else g' env
theorem ss_if {c : Expr} {a b : List Stmt} {gc : Env → M Bool} (hc : ST X B c gc) (ha : SSs X B a g) (hb : SSs X B b g') : SS X B (.If c a b pos) (ifS gc g g') := by
  refine ps_weak (ps_if hc ha hb) fun De σ H h => ?_
  obtain ⟨env, O, n, s, post⟩ := h
  refine tS_seq (g := fun env k => if k = true then g env else g' env) s post fun x vx n1 H1 s1 e1 p1 q1 => ?_
  cases p1
  cases x with
  | true => exact ⟨env, O, n1, s1, q1⟩
  | false => exact ⟨env, O, n1, s1, q1⟩
theorem ss_never : SS X B st (fun _ => fault) := ps_weak ps_never fun De σ H h => by
  obtain ⟨env, O, n, s, post⟩ := h
  exact post
theorem sss_never {sts : List Stmt} : SSs X B sts (fun _ => fault) := pss_weak pss_never fun De σ H h => by
  obtain ⟨env, O, n, s, post⟩ := h
  exact post
/-- x = e, x in slot i -/
def setS (i : Nat) (fa : Env → M D) : Env → M Fl := fun env => seq (fa env) fun d => ret (.next (env.set i (some (.d d))))
theorem ss_asg {i : Nat} (h : PS X st (tAsg (tG B (pE B) fa) (gName i))) : SS X B st (setS i fa) := by
  refine ps_weak h fun De σ H h => ?_
  obtain ⟨env, O, n, s, post⟩ := h
  refine tS_seq (g := fun env d => ret (.next (env.set i (some (.d d))))) s post fun x vx n1 H1 s1 e1 p1 q1 => ?_
  exact q1 _ O H1 (s1.setD i p1) (Step.refl _ _)
def setN (i : Nat) (fr : Env → M (List D)) : Env → M Fl := fun env => seq (fr env) fun ds => ret (.next (env.set i (some (.own ds))))
theorem ss_asgN {i : Nat} {fr : Env → M (List D)} (h : PS X st (tAsg (tG B (pN B) fr) (gName i))) : SS X B st (setN i fr) := by
  refine ps_weak h fun De σ H h => ?_
  obtain ⟨env, O, n, s, post⟩ := h
  refine ⟨env, O, n, s, ?_⟩
  have post : SPost B De O H (seq (fr env) (fun ds => ret (.next (env.set i (some (.own ds))))) n) := post
  unfold seq at post
  cases r : fr env n with
  | ok ds m =>
    rw [r] at post
    intro v H' ex tw p
    obtain ⟨a, xs, rfl, h1, h2, h3⟩ := p
    have st : Step O H (addO O a) H' := fun b o h nb => ⟨ex b o (fun z => nb (s.tO b z)) h, fun z => z.elim nb (ne_of_none h h1)⟩
    exact post _ _ H' (s.setOwn i ex tw h1 h2 h3) st
  | exc c m => rw [r] at post; exact post
  | bad => rw [r] at post; exact post
/-- an owned list given up, ahead of the rest -/
def freezeEnv (i : Nat) (env : Env) : Env := match env[i]? with
  | some (some (.own xs)) => env.set i (some (.d (.list xs)))
  | _ => env
def freezeS (i : Nat) (g : Env → M Fl) : Env → M Fl := fun env => g (freezeEnv i env)
theorem ss_freeze {i : Nat} (h : SSs X B rest g) : SSs X B rest (freezeS i g) := by
  refine pss_weak h fun De σ H h => ?_
  obtain ⟨env, O, n, s, post⟩ := h
  have post : SPost B De O H (g (freezeEnv i env) n) := post
  unfold freezeEnv at post
  split at post
  · rename_i xs hi
    obtain ⟨O', s', st⟩ := s.freeze hi
    exact ⟨_, O', n, s', SPost.later post st⟩
  · exact ⟨env, O, n, s, post⟩
/-- what an owned slot holds -/
def ownM {α : Type} (k : List D → M α) : Option (Option SV) → M α
  | some (some (.own xs)) => k xs
  | _ => fault
theorem own_post {α : Type} {k : List D → M α} {o : Option (Option SV)} {n : Sta} {P : R α → Prop} (hb : P .bad → False) (h : P (ownM k o n)) : ∃ xs, o = some (some (.own xs)) ∧ P (k xs n) := by
  rcases o with _ | _ | x | xs | _ | _ | _ | _ | _ | _ | _ <;> first | exact (hb h).elim | skip
  exact ⟨xs, rfl, h⟩
theorem own_addr {env : Env} {O : OS} {n : Sta} {σ : L2.St} {H : Hp} (s : Sim B env O n σ H) {i : Nat} {xs : List D} (hi : env[i]? = some (some (.own xs))) : ∃ a vs, σ[i]? = some (some (.ref a)) ∧ ¬ B.T.has a ∧ H a = some (.lst vs) ∧ Reps B.K H O vs xs := by
  obtain ⟨v, q1, a, vs, e1, o1, o2, ne, hv, r⟩ := s.slot i _ hi
  subst e1
  exact ⟨a, vs, q1, ne, hv, r⟩
/-- xs.append(e) of an owned list -/
def appS (i : Nat) (fa : Env → M D) : Env → M Fl := fun env => ownM (fun xs => seq (fa env) fun d => if xs.length < big then ret (.next (env.set i (some (.own (xs ++ [d]))))) else fault) env[i]?
theorem ss_app {i : Nat} {K : PySem.W.Frag} (h : PS X st (tDrop (tBM K "list" rAppend (tVar i) (tCons (tG B (pE B) fa) tNil)))) : SS X B st (appS i fa) := by
  refine ps_weak h fun De σ H h => ?_
  obtain ⟨env, O, n, s, post⟩ := h
  obtain ⟨xs, hi, post⟩ := own_post (P := SPost B De O H) (fun z => z) post
  obtain ⟨a, vs, hσ, ne, hv, r⟩ := own_addr s hi
  refine ⟨_, hσ, .inl ⟨rfl, vs, .inl (.inl hv)⟩, ?_⟩
  refine tS_seq (g := fun env d => if xs.length < big then ret (.next (env.set i (some (.own (xs ++ [d]))))) else fault) s post fun x vx n1 H1 s1 e1 p1 q1 => ?_
  obtain ⟨a', vs', hσ', ne', hv', r'⟩ := own_addr s1 hi
  rw [hσ] at hσ'; cases hσ'
  by_cases hl : xs.length < big
  · rw [if_pos hl] at q1
    refine ⟨a, vs', vx, rfl, rfl, hv', by rw [r'.length]; exact Nat.lt_of_lt_of_le hl big_line, ?_⟩
    obtain ⟨s2, st2⟩ := s1.mut hi hσ (r'.append (.cons p1 .nil))
    exact q1 _ _ _ s2 st2
  · rw [if_neg hl] at q1; exact q1.elim
/-- xs.extend(e) of an owned list -/
def rExtendR : V → List V → Hp → VK → Prop := fun x vs H Q => ∃ l b xs zs, x = .ref l ∧ vs = [.ref b] ∧ H l = some (.lst xs) ∧ Rd H b (.lst zs) ∧ xs.length + zs.length ≤ sizeLine ∧ Q .non (upd H l (.lst (xs ++ zs)))
theorem mt_extendR : MtR X "list.extend" rExtendR := by
  intro pins s σ H x vs v us Q I rx rv h
  obtain ⟨l, b, xs, zs, rfl, rfl, hH, hB, hz, q⟩ := h
  cases rx
  obtain ⟨u, rfl, ru⟩ := rv.one
  cases ru
  obtain ⟨z, its, n, r, hl, e⟩ := I.lstM hH
  obtain ⟨z2, its2, n2, r2, hl2, e2⟩ := lstR I hB
  have hsz : its.toArray.size + its2.toArray.size ≤ sizeLine := by rw [List.size_toArray, List.size_toArray]; omega
  have hlong : ¬ (!its.toArray.isEmpty && Builtin.List.listTooLong (its.toArray.size + its2.toArray.size)) = true := by
    rw [notLongL hsz, Bool.and_false]
    exact Bool.false_ne_true
  refine PySem.call_meets PySem.F.slot_list_extend ⟨_, e, rfl⟩ PySem.F.entry_list_extend (PySem.F.args_list_extend_2 _ _)
    (PySem.AutoSeq1.list_extend_list_list_0 l its.toArray n b its2.toArray n2 hlong (by rw [List.size_toArray]; omega) (by omega)) ⟨e, e2, ?_⟩
  refine ⟨.non, _, I.lset (its' := its ++ its2) hH e (by simp) (r.append r2) ?_, rfl, q⟩
  rw [List.length_append]
  omega
def extM (i : Nat) (env : Env) (xs : List D) : D → M Fl
  | .list ys => if xs.length + ys.length ≤ big then ret (.next (env.set i (some (.own (xs ++ ys))))) else fault
  | _ => fault
def extS (i : Nat) (fa : Env → M D) : Env → M Fl := fun env => ownM (fun xs => seq (fa env) (extM i env xs)) env[i]?
theorem ss_ext {i : Nat} {K : PySem.W.Frag} (h : PS X st (tDrop (tBM K "list" rExtendR (tVar i) (tCons (tG B (pB B) fa) tNil)))) : SS X B st (extS i fa) := by
  refine ps_weak h fun De σ H h => ?_
  obtain ⟨env, O, n, s, post⟩ := h
  obtain ⟨xs, hi, post⟩ := own_post (P := SPost B De O H) (fun z => z) post
  obtain ⟨a, vs, hσ, ne, hv, r⟩ := own_addr s hi
  refine ⟨_, hσ, .inl ⟨rfl, vs, .inl (.inl hv)⟩, ?_⟩
  refine tS_seq (g := fun env d => extM i env xs d) s post fun x vx n1 H1 s1 e1 p1 q1 => ?_
  obtain ⟨a', vs', hσ', ne', hv', r'⟩ := own_addr s1 hi
  rw [hσ] at hσ'; cases hσ'
  cases x with
  | list ys =>
    have q1 : SPost B De O H1 ((if xs.length + ys.length ≤ big then ret (.next (env.set i (some (.own (xs ++ ys))))) else fault) n1) := q1
    by_cases hl : xs.length + ys.length ≤ big
    · rw [if_pos hl] at q1
      obtain ⟨b, zs, rfl, rb, rys⟩ := Brw.list p1
      refine ⟨a, b, vs', zs, rfl, rfl, hv', rb, by rw [r'.length, rys.length]; exact Nat.le_trans hl big_line, ?_⟩
      obtain ⟨s2, st2⟩ := s1.mut hi hσ (r'.append rys)
      exact q1 _ _ _ s2 st2
    · rw [if_neg hl] at q1; exact q1.elim
  | _ => exact q1.elim
/-- xs[k] = e of an owned list, k a written number -/
def putS (i : Nat) (k : Int) (fa : Env → M D) : Env → M Fl := fun env => seq (fa env) fun d => ownM (fun xs => match ixN xs.length k with
  | some j => ret (.next (env.set i (some (.own (xs.set j d)))))
  | none => fault) env[i]?
theorem ss_put {i : Nat} {k : Int} (h : PS X st (tAsg (tG B (pE B) fa) (gSub (tVar i) (tC (.int k)) rSetL))) : SS X B st (putS i k fa) := by
  refine ps_weak h fun De σ H h => ?_
  obtain ⟨env, O, n, s, post⟩ := h
  refine tS_seq (g := fun env d => ownM (fun xs => match ixN xs.length k with
    | some j => ret (.next (env.set i (some (.own (xs.set j d)))))
    | none => fault) env[i]?) s post fun x vx n1 H1 s1 e1 p1 q1 => ?_
  obtain ⟨xs, hi, q1⟩ := own_post (P := SPost B De O H1) (fun z => z) q1
  obtain ⟨a, vs, hσ, ne, hv, r⟩ := own_addr s1 hi
  cases hk : ixN xs.length k with
  | none => rw [hk] at q1; exact q1.elim
  | some j =>
    rw [hk] at q1
    refine ⟨_, hσ, a, vs, k, j, rfl, rfl, hv, by rw [r.length]; exact hk, ?_⟩
    obtain ⟨s2, st2⟩ := s1.mut hi hσ (Reps.set p1 j r)
    exact q1 _ _ _ s2 st2
/-- town.append(0); len(town) -/
def townK {α : Type} (k : M α) : Option (Option SV) → M α
  | some (some .town) => k
  | _ => fault
theorem town_post {α : Type} {k : M α} {o : Option (Option SV)} {n : Sta} {P : R α → Prop} (hb : P .bad → False) (h : P (townK k o n)) : o = some (some .town) ∧ P (k n) := by
  rcases o with _ | _ | x | xs | _ | _ | _ | _ | _ | _ | _ <;> first | exact (hb h).elim | skip
  exact ⟨rfl, h⟩
def tickM (env : Env) : M Fl := fun n => if n.n < big then .ok (.next env) { n with n := n.n + 1 } else .bad
theorem Town.tick {T : Hot} {H : Hp} {n : Sta} (t : Town T H n) {xs : List V} {m : Nat} (hx : xs = zeros m) : Town T (upd H T.t (.lst xs)) { n with n := m } := by
  subst hx
  have nt : ∀ l ∈ T.L, l.a ≠ T.t ∧ l.pa ≠ T.t := fun l hl => by
    refine ⟨fun z => ?_, t.2.2.1 l hl⟩
    obtain ⟨k, hk⟩ := List.mem_iff_getElem?.mp hl
    obtain ⟨l', _, f, tt, b, d, vs, e1, _⟩ := t.2.1.at hk
    rw [z, t.1] at e1
    cases e1
  refine ⟨upd_same, t.2.1.firm (fun b ob u h => ?_) (fun l hl => ⟨upd_ne (nt l hl).1, upd_ne (nt l hl).2⟩), t.2.2⟩
  rw [upd_ne (fun z => by rw [z, t.1] at h; cases h)]; exact h
def tickS (i : Nat) : Env → M Fl := fun env => townK (tickM env) env[i]?
theorem zeros_succ (n : Nat) : zeros n ++ [V.int 0] = zeros (n + 1) := by
  unfold zeros
  rw [List.replicate_succ', ]
theorem ss_tick {i : Nat} {K : PySem.W.Frag} (h : PS X st (tDrop (tBM K "list" rAppend (tVar i) (tCons (tC (.int 0)) tNil)))) : SS X B st (tickS i) := by
  refine ps_weak h fun De σ H h => ?_
  obtain ⟨env, O, n, s, post⟩ := h
  obtain ⟨hi, post⟩ := town_post (P := SPost B De O H) (fun z => z) post
  obtain ⟨v, hσ, hv⟩ := s.slot i _ hi
  have hv : v = .ref B.T.t := hv
  subst hv
  refine ⟨_, hσ, .inl ⟨rfl, zeros n.n, .inl (.inl s.town.1)⟩, ?_⟩
  unfold tickM at post
  by_cases hl : n.n < big
  · rw [if_pos hl] at post
    refine ⟨B.T.t, zeros n.n, .int 0, rfl, rfl, s.town.1, by unfold zeros; rw [List.length_replicate]; exact Nat.lt_of_lt_of_le hl big_line, ?_⟩
    have ex : Ext B.T H (upd H B.T.t (.lst (zeros n.n ++ [V.int 0]))) := fun a o na h => by rw [upd_ne (fun z => na (.inl z))]; exact h
    exact post σ O _ (s.ext ex (s.town.tick (zeros_succ _))) (step_of s.tO ex)
  · rw [if_neg hl] at post; exact post.elim
def townN (i : Nat) : Env → M D := fun env => townK (fun n => .ok (.int n.n) n) env[i]?
theorem se_townLen {i : Nat} (h : PE X e (tCB (fun xs H Q => ∃ p ys, xs = [.ref p] ∧ (SqL X.K H p ys ∨ SqT X.K H p ys) ∧ Q (.int ys.length) H) (tCons (tVar i) tNil))) : SE X B e (townN i) := by
  refine pe_weak h fun σ H Q h => ?_
  obtain ⟨env, O, n, s, post⟩ := h
  obtain ⟨hi, post⟩ := town_post (P := fun r => Post B (pE B O) H r Q) (fun z => z) post
  obtain ⟨v, hσ, hv⟩ := s.slot i _ hi
  have hv : v = .ref B.T.t := hv
  subst hv
  refine ⟨_, hσ, B.T.t, zeros n.n, rfl, .inl (.inl (.inl s.town.1)), ?_⟩
  have e : ((zeros n.n).length : Int) = n.n := by unfold zeros; rw [List.length_replicate]
  rw [e]
  exact post _ H (Ext.refl _ _) s.town (.int _)
/-- raise C('..') -/
def raiseS (c : Nat) : Env → M Fl := fun _ n => .exc c n
theorem ss_raise {c : Nat} {C : Addr} {W : WX} (hc : B.cv c = .ref C) (h : PS X st (fun _ σ H => W (.ref C) none σ H)) (hW : ∀ σ H, B.E (.ref C) none H → W (.ref C) none σ H) : SS X B st (raiseS c) := by
  refine ps_weak h fun De σ H h => ?_
  obtain ⟨env, O, n, s, post⟩ := h
  have p : B.E (B.cv c) none H := post H s.fr1 s.town
  rw [hc] at p
  exact hW σ H p
/-! ### while -/
def loopM (k : Env → M Fl) : Fl → M Fl
  | .next env => k env
  | .cont env => k env
  | .brk env => ret (.next env)
  | .ret d => ret (.ret d)
  | .rn xs => ret (.rn xs)
  | .rd xs => ret (.rd xs)
def whileF (gc : Env → M Bool) (gb : Env → M Fl) : Nat → Env → M Fl
  | 0 => fun _ => fault
  | k + 1 => fun env => seq (gc env) fun c => if c = true then seq (gb env) (loopM (whileF gc gb k)) else ret (.next env)
theorem ss_while {c : Expr} {body : List Stmt} {gc : Env → M Bool} (fuel : Nat) (hp : PassesOwn (model X.prog X.w) X.A X.env X.xe) (hc : ST X B c gc) (hb : SSs X B body g) : SS X B (.While c body [] pos) (whileF gc g fuel) := by
  refine ps_weak (ps_while hp hc hb) fun De σ H h => ?_
  refine ⟨fun m σ H => tS B (whileF gc g m) De σ H, ⟨fuel, h⟩, fun m σ H h => ?_⟩
  obtain ⟨env, O, n, s, post⟩ := h
  cases m with
  | zero => exact post.elim
  | succ k =>
    refine tS_seq (g := fun env c => if c = true then seq (g env) (loopM (whileF gc g k)) else ret (.next env)) s post fun x vx n1 H1 s1 e1 p1 q1 => ?_
    cases p1
    cases x with
    | true =>
      refine ⟨tS B (whileF gc g k) De, fun σ' H' q => ⟨k, Nat.lt_succ_self k, q⟩, env, O, n1, s1, ?_⟩
      have q1 : SPost B De O H1 (seq (g env) (loopM (whileF gc g k)) n1) := q1
      unfold seq at q1
      cases r : g env n1 with
      | ok f m =>
        rw [r] at q1
        cases f with
        | next env' => exact fun σ' O' H' s' st' => ⟨env', O', m, s', SPost.later q1 st'⟩
        | ret d => exact q1
        | rn xs => exact q1
        | rd xs => exact q1
        | brk env' => exact q1
        | cont env' => exact fun σ' O' H' s' st' => ⟨env', O', m, s', SPost.later q1 st'⟩
      | exc c m => rw [r] at q1; exact q1
      | bad => rw [r] at q1; exact q1
    | false => exact q1 σ O H1 s1 (Step.refl _ _)
end
end Sim

namespace Sim
open PySem L2

/-! ### what is walked -/
/-- the iterator J will give the data ds, as long as what is not owned stays -/
def ItOk (P : Hp → OS → V → D → Prop) (J : It) (O : OS) (H : Hp) (ds : List D) : Prop :=
  ∃ (G : Hp → Prop) (Y : Nat → Hp → V → Hp → Prop), Walk J ds.length G Y ∧ (∀ O' H', Step O H O' H' → G H') ∧
    ∀ i x O1 H1 H1', Step O H O1 H1 → (∀ a, O1 a → NF H1 a) → i < ds.length → Y i H1 x H1' → Same H1 H1' ∧ ∃ d, ds[i]? = some d ∧ P H1' O1 x d
def pI (P : Hp → OS → V → D → Prop) : OS → Hp → Hp → It → List D → Prop := fun O _ H' J ds => ItOk P J O H' ds
abbrev pRep (B : Bd) : Hp → OS → V → D → Prop := fun H O v d => Rep B.K H O v d
/-- a pair just made, to be taken apart -/
def pPair (B : Bd) : Hp → OS → V → D → Prop := fun H O v d => ∃ a xs ds, v = .ref a ∧ d = .tuple ds ∧ Rd H a (.tup xs) ∧ Reps B.K H O xs ds
abbrev SI (X : Cx) (B : Bd) (tg iter : Expr) (f : Env → M (List D)) : Prop := PI X tg iter (tG B (pI (pRep B)) f)
abbrev SIz (X : Cx) (B : Bd) (tg iter : Expr) (f : Env → M (List D)) : Prop := PI X tg iter (tG B (pI (pPair B)) f)
section
variable {X : Cx} {B : Bd} {tg e e2 a b c : Expr} {fa fb : Env → M D} {pos p : Pos}
theorem lat_I {P : Hp → OS → V → D → Prop} : Lat B (pI P) := fun _ _ _ _ _ _ _ _ _ p => p
theorem pi_weak {t t' : TI} (h : PI X tg e t) (k : ∀ σ H Q, t' σ H Q → t σ H Q) : PI X tg e t' := ⟨fun pins s σ H Q I q => h.run pins s σ H Q I (k σ H Q q)⟩
theorem pi_or {t t' : TI} (h : PI X tg e t) (h' : PI X tg e t') : PI X tg e (fun σ H R => t σ H R ∨ t' σ H R) := ⟨fun pins s σ H R I q => q.elim (h.run pins s σ H R I) (h'.run pins s σ H R I)⟩
theorem it_list {H : Hp} {O : OS} {a : Addr} {xs : List V} {ds : List D} (h : Rep B.K H O (.ref a) (.list ds)) (hr : LAt H O a xs) (r : Reps B.K H O xs ds) : ItOk (pRep B) (Itl B.K a) O H ds := by
  refine ⟨fun H' => SqL B.K H' a xs, YAt xs, r.length ▸ walk_list, fun O' H' st => (hr.step st).sq, fun i x O1 H1 H1' st dm hi y => ?_⟩
  obtain ⟨e, y⟩ := y
  subst e
  exact ⟨fun _ _ h => h, Reps.at (Reps.step st _ _ r) y⟩
theorem it_tup {H : Hp} {O : OS} {a : Addr} {xs : List V} {ds : List D} (hr : TAt B.K H O a xs) (r : Reps B.K H O xs ds) : ItOk (pRep B) (Itt B.K a) O H ds := by
  refine ⟨fun H' => SqT B.K H' a xs, YAt xs, r.length ▸ walk_tup, fun O' H' st => (hr.step st).sq, fun i x O1 H1 H1' st dm hi y => ?_⟩
  obtain ⟨e, y⟩ := y
  subst e
  exact ⟨fun _ _ h => h, Reps.at (Reps.step st _ _ r) y⟩
def signsOf (z : Str) : List D := z.cps.toList.map fun c => .str ⟨#[c]⟩
theorem it_str {H : Hp} {O : OS} {z : Str} : ItOk (pRep B) (Its z) O H (signsOf z) := by
  have el : (signsOf z).length = z.cps.size := by simp [signsOf]
  refine ⟨fun _ => True, _, el ▸ walk_str, fun _ _ _ => trivial, fun i x O1 H1 H1' st dm hi y => ?_⟩
  obtain ⟨e, c, hc, rfl⟩ := y
  subst e
  refine ⟨fun _ _ h => h, .str ⟨#[c]⟩, ?_, .str _⟩
  unfold signsOf
  rw [List.getElem?_map]
  rw [Array.getElem?_toList, hc]; rfl
def intsFrom (lo : Int) (n : Nat) (c : Int) : List D := (List.range n).map fun (i : Nat) => .int (lo + (i : Int) * c)
theorem it_range {H : Hp} {O : OS} {lo : Int} {n : Nat} : ItOk (pRep B) (Itr lo n) O H (intsFrom lo n 1) := by
  have el : (intsFrom lo n 1).length = n := by simp [intsFrom]
  refine ⟨fun _ => True, YFn fun i => .int (lo + i), (by rw [el]; exact walk_range), fun _ _ _ => trivial, fun i x O1 H1 H1' st dm hi y => ?_⟩
  obtain ⟨e, rfl⟩ := y
  subst e
  rw [el] at hi
  refine ⟨fun _ _ h => h, .int (lo + i), ?_, .int _⟩
  unfold intsFrom
  rw [List.getElem?_map, List.getElem?_range hi]
  simp
theorem it_rangeC {H : Hp} {O : OS} {lo c : Int} {n : Nat} : ItOk (pRep B) (Itc lo c n) O H (intsFrom lo n c) := by
  have el : (intsFrom lo n c).length = n := by simp [intsFrom]
  refine ⟨fun _ => True, YFn fun i => .int (lo + (i : Nat) * c), (by rw [el]; exact walk_rangeC), fun _ _ _ => trivial, fun i x O1 H1 H1' st dm hi y => ?_⟩
  obtain ⟨e, rfl⟩ := y
  subst e
  rw [el] at hi
  refine ⟨fun _ _ h => h, .int (lo + i * c), ?_, .int _⟩
  unfold intsFrom
  rw [List.getElem?_map, List.getElem?_range hi]
  simp
theorem it_pair {H : Hp} {O : OS} {J : It} {n : Nat} {G : Hp → Prop} {us ws : Nat → Option V} {ds : List D} (hn : ds.length = n) (w : Walk J n G (YPair us ws)) (hG : ∀ O' H', Step O H O' H' → G H')
    (hd : ∀ i x y O1 H1, Step O H O1 H1 → i < n → us i = some x → ws i = some y → ∃ d e, ds[i]? = some (.tuple [d, e]) ∧ Rep B.K H1 O1 x d ∧ Rep B.K H1 O1 y e) : ItOk (pPair B) J O H ds := by
  refine ⟨G, _, hn ▸ w, hG, fun i x O1 H1 H1' st dm hi y => ?_⟩
  obtain ⟨T, u, v, rfl, hT, rfl, hu, hv⟩ := y
  obtain ⟨d, e, h1, h2, h3⟩ := hd i u v O1 H1 st (hn ▸ hi) hu hv
  refine ⟨same_new hT, _, h1, _, _, _, rfl, rfl, .inl upd_same, Reps.step (same_step (same_new hT)) _ _ (.cons h2 (.cons h3 .nil))⟩
/-- a list, a tuple, a text -/
def itemsM : D → M (List D)
  | .list xs => ret xs
  | .tuple xs => ret xs
  | .str z => if z.length ≤ big then ret (signsOf z) else fault
  | _ => fault
def itemsE (fa : Env → M D) : Env → M (List D) := fun env => seq (fa env) itemsM
theorem si_seq (hK : B.K = X.K) (h : SE X B e fa) : SI X B tg e (itemsE fa) := by
  refine pi_weak (pi_or (pi_list h) (pi_or (pi_tup h) (pi_str h))) fun σ H Q q => ?_
  obtain ⟨env, O, n, s, post⟩ := q
  have post0 : Post B (pI (pRep B) O) H (seq (fa env) itemsM n) Q := post
  have post1 := post0
  unfold seq at post1
  cases r : fa env n with
  | ok d m =>
    rw [r] at post1
    cases d with
    | list ds =>
      left
      refine ⟨env, O, n, s, ?_⟩
      rw [r]
      intro v H' ex tw rep
      have rep0 := rep
      cases rep with
      | lst h1 h2 =>
        rw [← hK]
        exact ⟨_, rfl, ⟨_, h1.sq⟩, post1 _ H' ex tw (it_list rep0 h1 h2)⟩
    | tuple ds =>
      right; left
      refine ⟨env, O, n, s, ?_⟩
      rw [r]
      intro v H' ex tw rep
      cases rep with
      | tup h1 h2 =>
        rw [← hK]
        exact ⟨_, rfl, ⟨_, h1.sq⟩, post1 _ H' ex tw (it_tup h1 h2)⟩
    | str z =>
      right; right
      refine ⟨env, O, n, s, ?_⟩
      rw [r]
      intro v H' ex tw rep
      cases rep
      refine ⟨z, rfl, ?_⟩
      have post1 : Post B (pI (pRep B) O) H ((if z.length ≤ big then ret (signsOf z) else fault) m) Q := post1
      split at post1
      · exact post1 _ H' ex tw it_str
      · exact post1.elim
    | _ => exact post1.elim
  | exc c m =>
    rw [r] at post1
    left
    refine ⟨env, O, n, s, ?_⟩
    rw [r]; exact post1
  | bad => rw [r] at post1; exact post1.elim
def rng1M : List D → M (List D)
  | [.int j] => if j.natAbs ≤ big then ret (intsFrom 0 j.toNat 1) else fault
  | _ => fault
def rng2M : List D → M (List D)
  | [.int i, .int j] => if i.natAbs ≤ big ∧ j.natAbs ≤ big then ret (intsFrom i (j - i).toNat 1) else fault
  | _ => fault
def rng3M : List D → M (List D)
  | [.int i, .int j, .int c] => if c ≠ 0 ∧ c.natAbs < 1073741824 ∧ Builtin.Range.small i j c = true ∧ 0 ≤ Builtin.Range.rangeSize i j c then ret (intsFrom i (Builtin.Range.rangeSize i j c).toNat c) else fault
  | _ => fault
def rngE (k : List D → M (List D)) (fs : Env → M (List D)) : Env → M (List D) := fun env => seq (fs env) k
theorem Reps.one {K : PySem.W.Frag} {H : Hp} {O : OS} {vs : List V} {d : D} (h : Reps K H O vs [d]) : ∃ v, vs = [v] ∧ Rep K H O v d := by
  cases h with
  | cons h1 h2 => cases h2; exact ⟨_, rfl, h1⟩
theorem Rep.int_eq {K : PySem.W.Frag} {H : Hp} {O : OS} {v : V} {i : Int} (h : Rep K H O v (.int i)) : v = .int i := by cases h; rfl
theorem si_range1 {fs : Env → M (List D)} (hg : Gl X "range") (hm : X.mg "range" = none) (ha : SRs X B [a] fs) (hs : starEach [a] X.env = [(false, eval a X.env)] := by rfl) : SI X B tg (.Call (.Name "range" p) [a] [] pos) (rngE rng1M fs) := by
  refine pi_weak (pi_range1 hg hm ha hs) fun σ H Q h => ?_
  obtain ⟨env, O, n, s, post⟩ := h
  refine tG_seq1 (g := fun env => rng1M) lat_I s post fun x vx n1 H1 s1 e1 p1 q1 => ?_
  unfold rng1M at q1
  split at q1
  · rename_i j
    split at q1
    · rename_i hj
      have hb : big = 1000000 := rfl
      obtain ⟨v, rfl, r⟩ := Reps.one p1
      cases r
      exact ⟨j, rfl, by omega, by omega, q1 _ H1 (Ext.refl _ _) s1.town it_range⟩
    · exact q1.elim
  · exact q1.elim
theorem si_range2 {fs : Env → M (List D)} (hg : Gl X "range") (hm : X.mg "range" = none) (ha : SRs X B [a, b] fs) (hs : starEach [a, b] X.env = [(false, eval a X.env), (false, eval b X.env)] := by rfl) (hs2 : starEach [b] X.env = [(false, eval b X.env)] := by rfl) : SI X B tg (.Call (.Name "range" p) [a, b] [] pos) (rngE rng2M fs) := by
  refine pi_weak (pi_range2 hg hm ha hs hs2) fun σ H Q h => ?_
  obtain ⟨env, O, n, s, post⟩ := h
  refine tG_seq1 (g := fun env => rng2M) lat_I s post fun x vx n1 H1 s1 e1 p1 q1 => ?_
  unfold rng2M at q1
  split at q1
  · rename_i i j
    split at q1
    · rename_i hj
      have hb : big = 1000000 := rfl
      cases p1 with
      | cons r1 p1 =>
        obtain ⟨v, rfl, r⟩ := Reps.one p1
        cases r1
        cases r
        exact ⟨i, j, rfl, ⟨by omega, by omega, by omega, by omega⟩, q1 _ H1 (Ext.refl _ _) s1.town it_range⟩
    · exact q1.elim
  · exact q1.elim
theorem si_range3 {fs : Env → M (List D)} (hg : Gl X "range") (hm : X.mg "range" = none) (ha : SRs X B [a, b, c] fs) (hs : starEach [a, b, c] X.env = (false, eval a X.env) :: starEach [b, c] X.env := by rfl) (hpl : (backTo pos (starEach [b, c] X.env)).any (·.1) = false := by rfl) :
    SI X B tg (.Call (.Name "range" p) [a, b, c] [] pos) (rngE rng3M fs) := by
  refine pi_weak (pi_range3 hg hm ha hs hpl) fun σ H Q h => ?_
  obtain ⟨env, O, n, s, post⟩ := h
  refine tG_seq1 (g := fun env => rng3M) lat_I s post fun x vx n1 H1 s1 e1 p1 q1 => ?_
  unfold rng3M at q1
  split at q1
  · rename_i i j c
    split at q1
    · rename_i hj
      cases p1 with
      | cons r1 p1 =>
        cases p1 with
        | cons r2 p1 =>
          obtain ⟨v, rfl, r⟩ := Reps.one p1
          cases r1
          cases r2
          cases r
          refine ⟨i, j, c, (Builtin.Range.rangeSize i j c).toNat, rfl, ⟨hj.1, hj.2.1, hj.2.2.1, ?_⟩, q1 _ H1 (Ext.refl _ _) s1.town it_rangeC⟩
          rw [Int.toNat_of_nonneg hj.2.2.2]
    · exact q1.elim
  · exact q1.elim
/-- enumerate(list), zip(list, list) -/
def enumD (xs : List D) : List D := (List.range xs.length).map fun (i : Nat) => .tuple [.int (i : Int), xs.getD i .none]
def enumM : List D → M (List D)
  | [.list xs] => ret (enumD xs)
  | _ => fault
def zipD (xs ys : List D) : List D := (List.range (min xs.length ys.length)).map fun (i : Nat) => .tuple [xs.getD i .none, ys.getD i .none]
def zipM : List D → M (List D)
  | [.list xs, .list ys] => ret (zipD xs ys)
  | _ => fault
theorem si_enum {fs : Env → M (List D)} {elts : List Expr} {kk : Nat} {tpos : Pos} (hK : B.K = X.K) (hg : Gl X "enumerate") (hm : X.mg "enumerate" = none) (ha : SRs X B [e] fs) (hs : starEach [e] X.env = [(false, eval e X.env)] := by rfl) :
    SIz X B (.Tuple elts kk tpos) (.Call (.Name "enumerate" p) [e] [] pos) (rngE enumM fs) := by
  refine pi_weak (pi_enum hg hm ha hs) fun σ H Q h => ?_
  obtain ⟨env, O, n, s, post⟩ := h
  refine tG_seq1 (g := fun env => enumM) lat_I s post fun x vx n1 H1 s1 e1 p1 q1 => ?_
  unfold enumM at q1
  split at q1
  · rename_i ds
    obtain ⟨v, rfl, r⟩ := Reps.one p1
    cases r with
    | @lst a xs _ h1 h2 =>
      refine ⟨a, xs, rfl, h1.sq, q1 _ H1 (Ext.refl _ _) s1.town ?_⟩
      rw [← hK]
      have el : (enumD ds).length = xs.length := by rw [h2.length]; simp [enumD]
      refine it_pair el walk_enum (fun O' H' st => (h1.step st).sq) fun i x y O1 H2 st hi hx hy => ?_
      cases hx
      obtain ⟨d, hd, rd⟩ := Reps.at (Reps.step st _ _ h2) hy
      refine ⟨.int i, d, ?_, .int _, rd⟩
      unfold enumD
      rw [List.getElem?_map, List.getElem?_range (by rw [← h2.length]; exact hi)]
      simp [hd]
  · exact q1.elim
theorem si_zip {fs : Env → M (List D)} {elts : List Expr} {kk : Nat} {tpos : Pos} (hK : B.K = X.K) (hg : Gl X "zip") (hm : X.mg "zip" = none) (ha : SRs X B [e, e2] fs) (hs : starEach [e, e2] X.env = (false, eval e X.env) :: starEach [e2] X.env := by rfl) (hpl : (backTo pos (starEach [e2] X.env)).any (·.1) = false := by rfl) :
    SIz X B (.Tuple elts kk tpos) (.Call (.Name "zip" p) [e, e2] [] pos) (rngE zipM fs) := by
  refine pi_weak (pi_zip hg hm ha hs hpl) fun σ H Q h => ?_
  obtain ⟨env, O, n, s, post⟩ := h
  refine tG_seq1 (g := fun env => zipM) lat_I s post fun x vx n1 H1 s1 e1 p1 q1 => ?_
  unfold zipM at q1
  split at q1
  · rename_i ds es
    cases p1 with
    | cons r p1 =>
      obtain ⟨v, rfl, r'⟩ := Reps.one p1
      cases r with
      | @lst a xs _ h1 h2 =>
        cases r' with
        | @lst b ys _ g1 g2 =>
          refine ⟨a, b, xs, ys, rfl, h1.sq, g1.sq, q1 _ H1 (Ext.refl _ _) s1.town ?_⟩
          rw [← hK]
          have el : (zipD ds es).length = min xs.length ys.length := by rw [h2.length, g2.length]; simp [zipD]
          refine it_pair el (walk_zip rfl) (fun O' H' st => ⟨(h1.step st).sq, (g1.step st).sq⟩) fun i x y O1 H2 st hi hx hy => ?_
          obtain ⟨d, hd, rd⟩ := Reps.at (Reps.step st _ _ h2) hx
          obtain ⟨d', hd', rd'⟩ := Reps.at (Reps.step st _ _ g2) hy
          refine ⟨d, d', ?_, rd, rd'⟩
          unfold zipD
          rw [List.getElem?_map, List.getElem?_range (by rw [← h2.length, ← g2.length]; exact hi)]
          simp [hd, hd']
  · exact q1.elim
/-! ### targets -/
/-- slots is are stored by the datum d -/
def tTg (B : Bd) (P : Hp → OS → V → D → Prop) (is : List Nat) (bnd : D → Env → Option Env) : TG := fun v σ H Q => ∃ env O n d env', Sim B env O n σ H ∧ P H O v d ∧ bnd d env = some env' ∧ ∀ σ', Sim B env' O n σ' H → σ'.length = σ.length → (∀ j : Nat, j ∉ is → σ'[j]? = σ[j]?) → Q σ' H
abbrev SG (X : Cx) (B : Bd) (tg : Expr) (is : List Nat) (bnd : D → Env → Option Env) : Prop := PG X tg (tTg B (pRep B) is bnd)
abbrev SGb (X : Cx) (B : Bd) (tg : Expr) (is : List Nat) (bnd : D → Env → Option Env) : Prop := PG X tg (tTg B (Brw B) is bnd)
theorem pg_weak {t t' : TG} (h : PG X tg t) (k : ∀ v σ H Q, t' v σ H Q → t v σ H Q) : PG X tg t' := ⟨fun pins s σ H v u Q I r q => h.run pins s σ H v u Q I r (k v σ H Q q)⟩
theorem pg_or {t t' : TG} (h : PG X tg t) (h' : PG X tg t') : PG X tg (fun v σ H Q => t v σ H Q ∨ t' v σ H Q) := ⟨fun pins s σ H v u Q I r q => q.elim (h.run pins s σ H v u Q I r) (h'.run pins s σ H v u Q I r)⟩
theorem sg_of {is : List Nat} {bnd : D → Env → Option Env} (h : SGb X B tg is bnd) : SG X B tg is bnd := pg_weak h fun v σ H Q q => by
  obtain ⟨env, O, n, d, env', s, p, e, k⟩ := q
  exact ⟨env, O, n, d, env', s, .inl p, e, k⟩
def bndN (i : Nat) : D → Env → Option Env := fun d env => some (env.set i (some (.d d)))
theorem sg_name {i : Nat} (h : PG X tg (gName i)) : SG X B tg [i] (bndN i) := pg_weak h fun v σ H Q q => by
  obtain ⟨env, O, n, d, env', s, p, e, k⟩ := q
  cases e
  refine k _ (s.setD i p) (List.length_set ..) fun j hj => ?_
  rw [List.getElem?_set_ne (fun z => hj (by simp [z]))]
def gNames : List Nat → TGs
  | [] => gNil
  | i :: r => gCons (gName i) (gNames r)
def setAll : List Nat → List D → Env → Env
  | i :: is, d :: ds, env => setAll is ds (env.set i (some (.d d)))
  | _, _, env => env
def setAllV : List Nat → List V → L2.St → L2.St
  | i :: is, d :: ds, env => setAllV is ds (env.set i (some d))
  | _, _, env => env
theorem gNames_run : ∀ (is : List Nat) (vs : List V) (σ : L2.St) (H : Hp) (Q : L2.St → Hp → Prop), vs.length = is.length → Q (setAllV is vs σ) H → gNames is vs σ H Q
  | [], [], σ, H, Q, _, q => ⟨rfl, q⟩
  | i :: is, v :: vs, σ, H, Q, hl, q => ⟨v, vs, rfl, gNames_run is vs _ H Q (by simpa using hl) q⟩
theorem setAll_sim {O : OS} {n : Sta} {H : Hp} : ∀ (is : List Nat) (vs : List V) (ds : List D) (env : Env) (σ : L2.St), Sim B env O n σ H → Reps B.K H O vs ds → Sim B (setAll is ds env) O n (setAllV is vs σ) H
  | [], vs, ds, env, σ, s, r => by cases ds <;> cases vs <;> exact s
  | i :: is, vs, ds, env, σ, s, r => by
    cases r with
    | nil => exact s
    | cons r1 r2 => exact setAll_sim is _ _ _ _ (s.setD i r1) r2
theorem setAllV_len : ∀ (is : List Nat) (vs : List V) (σ : L2.St), (setAllV is vs σ).length = σ.length
  | [], vs, σ => by cases vs <;> rfl
  | i :: is, [], σ => rfl
  | i :: is, v :: vs, σ => by show (setAllV is vs (σ.set i (some v))).length = _; rw [setAllV_len is vs, List.length_set]
theorem setAllV_out : ∀ (is : List Nat) (vs : List V) (σ : L2.St) (j : Nat), j ∉ is → (setAllV is vs σ)[j]? = σ[j]?
  | [], vs, σ, j, _ => by cases vs <;> rfl
  | i :: is, [], σ, j, _ => rfl
  | i :: is, v :: vs, σ, j, h => by
    show (setAllV is vs (σ.set i (some v)))[j]? = _
    rw [setAllV_out is vs _ j (fun z => h (List.mem_cons_of_mem _ z)), List.getElem?_set_ne (fun z => h (by simp [z]))]
def bndT (is : List Nat) : D → Env → Option Env := fun d env => match d with
  | .tuple ds => if ds.length = is.length then some (setAll is ds env) else none
  | .list ds => if ds.length = is.length then some (setAll is ds env) else none
  | _ => none
theorem sgb_tup {is : List Nat} {es : List Expr} {k : Nat} (hK : B.K = X.K) (h1 : PG X (.Tuple es k pos) (gTup X.K is.length (gNames is))) (h2 : PG X (.Tuple es k pos) (gLst X.K is.length (gNames is))) : SGb X B (.Tuple es k pos) is (bndT is) := by
  refine pg_weak (pg_or h1 h2) fun v σ H Q q => ?_
  obtain ⟨env, O, n, d, env', s, p, e, k⟩ := q
  unfold bndT at e
  split at e
  · rename_i ds
    split at e
    · rename_i hl
      cases e
      left
      obtain ⟨a, xs, rfl, ra, rxs⟩ := p.tup
      rw [hK] at ra
      refine ⟨a, xs, rfl, ra.sq, by rw [rxs.length]; exact hl, gNames_run _ _ _ _ _ (by rw [rxs.length]; exact hl) ?_⟩
      exact k _ (setAll_sim _ _ _ _ _ s rxs) (setAllV_len ..) fun j hj => setAllV_out _ _ _ _ hj
    · cases e
  · rename_i ds
    split at e
    · rename_i hl
      cases e
      right
      obtain ⟨a, xs, rfl, ra, rxs⟩ := p.list
      refine ⟨a, xs, rfl, .inl ra, by rw [rxs.length]; exact hl, gNames_run _ _ _ _ _ (by rw [rxs.length]; exact hl) ?_⟩
      exact k _ (setAll_sim _ _ _ _ _ s rxs) (setAllV_len ..) fun j hj => setAllV_out _ _ _ _ hj
    · cases e
  · cases e
theorem sgz_tup {is : List Nat} {es : List Expr} {k : Nat} (hK : B.K = X.K) (h1 : PG X (.Tuple es k pos) (gTup X.K is.length (gNames is))) : PG X (.Tuple es k pos) (tTg B (pPair B) is (bndT is)) := by
  refine pg_weak h1 fun v σ H Q q => ?_
  obtain ⟨env, O, n, d, env', s, ⟨a, xs, ds, rfl, rfl, ra, rxs⟩, e, k⟩ := q
  unfold bndT at e
  simp only at e
  split at e
  · rename_i hl
    cases e
    refine ⟨a, xs, rfl, .inl ra, by rw [rxs.length]; exact hl, gNames_run _ _ _ _ _ (by rw [rxs.length]; exact hl) ?_⟩
    exact k _ (setAll_sim _ _ _ _ _ s rxs) (setAllV_len ..) fun j hj => setAllV_out _ _ _ _ hj
  · cases e
/-- a, b = e -/
def setT (bnd : D → Env → Option Env) (fa : Env → M D) : Env → M Fl := fun env => seq (fa env) fun d => seq (lift (bnd d env)) fun env' => ret (.next env')
theorem ss_asgT {st : Stmt} {is : List Nat} {bnd : D → Env → Option Env} (h : PS X st (tAsg (tG B (pB B) fa) (tTg B (Brw B) is bnd))) : SS X B st (setT bnd fa) := by
  refine ps_weak h fun De σ H h => ?_
  obtain ⟨env, O, n, s, post⟩ := h
  refine tS_seq (g := fun env d => seq (lift (bnd d env)) fun env' => ret (.next env')) s post fun x vx n1 H1 s1 e1 p1 q1 => ?_
  cases e : bnd x env with
  | none => rw [e] at q1; exact q1.elim
  | some env' =>
    rw [e] at q1
    exact ⟨env, O, n1, x, env', s1, p1, e, fun σ' s' _ _ => q1 σ' O H1 s' (Step.refl _ _)⟩
/-- a, b = x, y by plain names -/
def parS (is : List Nat) (fs : Env → M (List D)) : Env → M Fl := fun env => seq (fs env) fun ds => ret (.next (setAll is ds env))
theorem ss_par {st : Stmt} {i j : Nat} {fs : Env → M (List D)} (hl : ∀ env n ds n', fs env n = .ok ds n' → ds.length = 2) (h : PS X st (tPar i j (tG B (pRs B) fs))) : SS X B st (parS [i, j] fs) := by
  refine ps_weak h fun De σ H h => ?_
  obtain ⟨env, O, n, s, post⟩ := h
  refine ⟨env, O, n, s, ?_⟩
  have post : SPost B De O H (seq (fs env) (fun ds => ret (.next (setAll [i, j] ds env))) n) := post
  unfold seq at post
  cases r : fs env n with
  | ok ds m =>
    rw [r] at post
    intro vs H' ex tw p
    have hd := hl env n ds m r
    match ds, vs, p, hd with
    | [d1, d2], [v1, v2], p, _ =>
      refine ⟨v1, v2, rfl, ?_⟩
      exact post _ O H' (setAll_sim [i, j] [v1, v2] [d1, d2] env σ (s.ext ex tw) p) (step_of s.tO ex)
    | [d1, d2], [], p, _ => cases p
    | [d1, d2], [_], p, _ => cases p with | cons _ q => cases q
    | [d1, d2], _ :: _ :: _ :: _, p, _ => cases p with | cons _ q => cases q with | cons _ q => cases q
  | exc c m => rw [r] at post; exact post
  | bad => rw [r] at post; exact post
theorem ss_par3 {st : Stmt} {i j l : Nat} {fs : Env → M (List D)} (hl : ∀ env n ds n', fs env n = .ok ds n' → ds.length = 3) (h : PS X st (tPar3 i j l (tG B (pRs B) fs))) : SS X B st (parS [i, j, l] fs) := by
  refine ps_weak h fun De σ H h => ?_
  obtain ⟨env, O, n, s, post⟩ := h
  refine ⟨env, O, n, s, ?_⟩
  have post : SPost B De O H (seq (fs env) (fun ds => ret (.next (setAll [i, j, l] ds env))) n) := post
  unfold seq at post
  cases r : fs env n with
  | ok ds m =>
    rw [r] at post
    intro vs H' ex tw p
    have hd := hl env n ds m r
    have hv := p.length
    rw [hd] at hv
    match ds, vs, p, hd, hv with
    | [d1, d2, d3], [v1, v2, v3], p, _, _ =>
      refine ⟨v1, v2, v3, rfl, ?_⟩
      exact post _ O H' (setAll_sim [i, j, l] [v1, v2, v3] [d1, d2, d3] env σ (s.ext ex tw) p) (step_of s.tO ex)
  | exc c m => rw [r] at post; exact post
  | bad => rw [r] at post; exact post
theorem consE_len {fr : Env → M (List D)} {k : Nat} (h : ∀ env n ds n', fr env n = .ok ds n' → ds.length = k) : ∀ env n ds n', consE fa fr env n = .ok ds n' → ds.length = k + 1 := fun env n ds n' e => by
  unfold consE seq at e
  cases r : fa env n with
  | ok d m =>
    rw [r] at e
    simp only at e
    cases r' : fr env m with
    | ok es m' => rw [r'] at e; cases e; simp [h _ _ _ _ r']
    | exc c m' => rw [r'] at e; cases e
    | bad => rw [r'] at e; cases e
  | exc c m => rw [r] at e; cases e
  | bad => rw [r] at e; cases e
theorem nilE_len : ∀ env n (ds : List D) n', nilE env n = .ok ds n' → ds.length = 0 := fun env n ds n' e => by cases e; rfl
/-! ### for -/
def forF (bnd : D → Env → Option Env) (gb : Env → M Fl) : List D → Env → M Fl
  | [] => fun env => ret (.next env)
  | d :: ds => fun env => seq (lift (bnd d env)) fun env1 => seq (gb env1) (loopM (forF bnd gb ds))
def forS (fi : Env → M (List D)) (bnd : D → Env → Option Env) (gb : Env → M Fl) : Env → M Fl := fun env => seq (fi env) fun ds => forF bnd gb ds env
theorem ss_for {P : Hp → OS → V → D → Prop} {iter : Expr} {body : List Stmt} {is : List Nat} {fi : Env → M (List D)} {bnd : D → Env → Option Env} {gb : Env → M Fl} (hp : PassesOwn (model X.prog X.w) X.A X.env X.xe) (hc : X.calm = true) (hi : PI X tg iter (tG B (pI P) fi)) (hg : PG X tg (tTg B P is bnd)) (hb : SSs X B body gb)
    (hs : ∀ x, foldedSetIterable iter X.env x = pure x := by intro _; rfl) : SS X B (.For tg iter body [] pos) (forS fi bnd gb) := by
  refine ps_weak (ps_for hp hc hi hg hb hs) fun De σ H h => ?_
  obtain ⟨env, O, n, s, post⟩ := h
  refine tS_seq (g := fun env ds => forF bnd gb ds env) s post fun ds J n1 H1 s1 e1 p1 q1 => ?_
  obtain ⟨G, Y, W, hG, hY⟩ := p1
  refine for_it W (fun i σ' H' => ∃ env' O' n', Sim B env' O' n' σ' H' ∧ Step O H1 O' H' ∧ SPost B De O' H' (forF bnd gb (ds.drop i) env' n')) ⟨env, O, n1, s1, Step.refl _ _, q1⟩ (fun i σ' H' _ h => ?_) (fun i x σ' H' H'' hi h y => ?_) (fun σ' H' h => ?_)
  · obtain ⟨env', O', n', s', st, _⟩ := h
    exact hG O' H' st
  · obtain ⟨env', O', n', s', st, post'⟩ := h
    obtain ⟨sm, d, hd, rd⟩ := hY i x O' H' H'' st s'.dom hi y
    have s2 := s'.ext (same_ext sm) (same_town sm s'.town)
    rw [List.drop_eq_getElem_cons hi] at post'
    have ed : ds[i] = d := by rw [List.getElem?_eq_getElem hi] at hd; exact Option.some.inj hd
    rw [ed] at post'
    have post' : SPost B De O' H' (seq (lift (bnd d env')) (fun env1 => seq (gb env1) (loopM (forF bnd gb (ds.drop (i + 1))))) n') := post'
    cases eb : bnd d env' with
    | none => rw [eb] at post'; exact post'.elim
    | some env1 =>
      rw [eb] at post'
      refine ⟨env', O', n', d, env1, s2, rd, eb, fun σ2 s3 _ _ => ?_⟩
      have post' : SPost B De O' H' (seq (gb env1) (loopM (forF bnd gb (ds.drop (i + 1)))) n') := post'
      refine ⟨env1, O', n', s3, ?_⟩
      unfold seq at post'
      have st2 : Step O' H' O' H'' := same_step sm
      cases r : gb env1 n' with
      | ok f m =>
        rw [r] at post'
        cases f with
        | next env2 => exact fun σ3 O3 H3 s4 st3 => ⟨env2, O3, m, s4, (st.trans st2).trans st3, SPost.later post' (st2.trans st3)⟩
        | ret d => exact post'
        | rn xs => exact post'
        | rd xs => exact post'
        | brk env2 => exact SPost.later (De := De) (r := .ok (.next env2) m) post' st2
        | cont env2 => exact fun σ3 O3 H3 s4 st3 => ⟨env2, O3, m, s4, (st.trans st2).trans st3, SPost.later post' (st2.trans st3)⟩
      | exc c m => rw [r] at post'; exact post'
      | bad => rw [r] at post'; exact post'
  · obtain ⟨env', O', n', s', st, post'⟩ := h
    rw [List.drop_length] at post'
    exact post' σ' O' H' s' (Step.refl _ _)
end
end Sim

namespace Sim
open PySem L2

/-! ### comprehensions -/
def wipeE : Env → List Nat → Env
  | env, [] => env
  | env, v :: vs => (wipeE env vs).set v none
def noxB (B : Bd) : Bd := { B with E := fun _ _ _ => False }
section
variable {B : Bd} {env : Env} {O : OS} {n : Sta} {σ : L2.St} {H : Hp}
theorem SlotOk.nox {v : V} {sv : SV} (h : SlotOk B H O v sv) : SlotOk (noxB B) H O v sv := by cases sv <;> exact h
theorem SlotOk.unnox {v : V} {sv : SV} (h : SlotOk (noxB B) H O v sv) : SlotOk B H O v sv := by cases sv <;> exact h
theorem Sim.nox (s : Sim B env O n σ H) : Sim (noxB B) env O n σ H :=
  ⟨s.len, fun i sv h => let ⟨v, h1, h2⟩ := s.slot i sv h; ⟨v, h1, h2.nox⟩, s.sep, s.dom, s.town, s.tO, s.fr1, s.fr2, s.fr3, s.tK, s.tC⟩
theorem Sim.unnox (s : Sim (noxB B) env O n σ H) : Sim B env O n σ H :=
  ⟨s.len, fun i sv h => let ⟨v, h1, h2⟩ := s.slot i sv h; ⟨v, h1, h2.unnox⟩, s.sep, s.dom, s.town, s.tO, s.fr1, s.fr2, s.fr3, s.tK, s.tC⟩
theorem get_set_none {α : Type} {l : List (Option α)} {i j : Nat} {x : α} (h : (l.set i none)[j]? = some (some x)) : i ≠ j ∧ l[j]? = some (some x) := by
  by_cases hj : i = j
  · subst hj
    by_cases hl : i < l.length
    · rw [List.getElem?_set_self hl] at h; cases h
    · rw [List.getElem?_eq_none (by rw [List.length_set]; omega)] at h; cases h
  · rw [List.getElem?_set_ne hj] at h; exact ⟨hj, h⟩
theorem Sim.setNone (s : Sim B env O n σ H) (i : Nat) : Sim B (env.set i none) O n (σ.set i none) H := by
  refine ⟨by rw [List.length_set, List.length_set]; exact s.len, fun j sv h => ?_, fun j k tv uv x hjk h1 w1 h2 w2 h3 => ?_, s.dom, s.town, s.tO, s.fr1, s.fr2, s.fr3, s.tK, s.tC⟩
  · obtain ⟨hj, h⟩ := get_set_none h
    rw [List.getElem?_set_ne hj]
    exact s.slot j sv h
  · obtain ⟨hj, h1⟩ := get_set_none h1
    obtain ⟨hk, h2⟩ := get_set_none h2
    rw [List.getElem?_set_ne hj] at h3
    rw [List.getElem?_set_ne hk]
    exact s.sep j k tv uv x hjk h1 w1 h2 w2 h3
theorem Sim.wipe (s : Sim B env O n σ H) : ∀ vs : List Nat, Sim B (wipeE env vs) O n (L2.wipe σ vs) H
  | [] => s
  | v :: vs => (Sim.wipe s vs).setNone v
/-- a new thing at p that no slot names, taken as owned -/
theorem Sim.addFree (s : Sim B env O n σ H) {p : Addr} {o : HO} (hp : H p = none) (no : nf o = true := by rfl) : Sim B env (addO O p) n σ (upd H p o) := by
  have ex : Ext B.T H (upd H p o) := same_ext (same_new hp)
  have st : Step O H (addO O p) (upd H p o) := step_add hp
  refine ⟨s.len, fun i sv h => ?_, s.sep, fun a h => ?_, same_town (same_new hp) s.town, fun a h => .inl (s.tO a h), s.fr1.trans ex, fun a h => ?_, fun a h => .inl (s.fr3 a h), s.tK, s.tC⟩
  · obtain ⟨v, h1, h2⟩ := s.slot i sv h
    exact ⟨v, h1, h2.to st fun _ a _ o1 ne => ⟨.inl o1, fun o q => ex a o ne q⟩⟩
  · by_cases z : a = p
    · subst z; exact ⟨o, upd_same, no⟩
    · rcases h with h | h
      · obtain ⟨u, e1, n1⟩ := s.dom a h
        exact ⟨u, by rw [upd_ne z]; exact e1, n1⟩
      · exact absurd h z
  · rcases h with h | h
    · exact s.fr2 a h
    · rw [h]; exact .inr (none_back s.fr1 s.town hp)
/-- what no slot names, owned, is changed -/
theorem Sim.updFree (s : Sim B env O n σ H) {p : Addr} {o : HO} (hO : O p) (hT : ¬ B.T.has p) (h0 : B.H0 p = none) (hs : ∀ (i : Nat) (sv : SV), env[i]? = some (some sv) → sv.ow = true → σ[i]? ≠ some (some (.ref p))) (no : nf o = true := by rfl) : Sim B env O n σ (upd H p o) ∧ Step O H O (upd H p o) := by
  have st : Step O H O (upd H p o) := fun b u h nb => ⟨by rw [upd_ne (fun z => nb (by rw [z]; exact hO))]; exact h, nb⟩
  refine ⟨⟨s.len, fun i sv h => ?_, s.sep, fun a h => ?_, s.town.cool hT (s.dom p hO), s.tO, fun a u na h => ?_, s.fr2, s.fr3, s.tK, s.tC⟩, st⟩
  · obtain ⟨v, h1, h2⟩ := s.slot i sv h
    refine ⟨v, h1, h2.to st fun w a e1 o1 ne => ⟨o1, fun u q => ?_⟩⟩
    rw [upd_ne (fun z => by subst e1 z; exact hs i sv h w h1)]; exact q
  · by_cases z : a = p
    · subst z; exact ⟨o, upd_same, no⟩
    · obtain ⟨u, e1, n1⟩ := s.dom a h
      exact ⟨u, by rw [upd_ne z]; exact e1, n1⟩
  · have nap : a ≠ p := fun z => by rw [z, h0] at h; cases h
    rw [upd_ne nap]
    exact s.fr1 a u na h
/-- no owned slot names what is not there -/
theorem Sim.free (s : Sim B env O n σ H) {p : Addr} (hp : H p = none) : ∀ (i : Nat) (sv : SV), env[i]? = some (some sv) → sv.ow = true → σ[i]? ≠ some (some (.ref p)) := fun i sv h w q => by
  obtain ⟨v, h1, h2⟩ := s.slot i sv h
  obtain ⟨a, e1, _, _, _, na⟩ := h2.ow w
  rw [q] at h1; cases h1; cases e1
  exact na hp
end
theorem wipe_same {vs is : List Nat} {σ σ2 : L2.St} (hsub : ∀ i ∈ is, i ∈ vs) (hl : σ2.length = (L2.wipe σ vs).length) (ho : ∀ j : Nat, j ∉ is → σ2[j]? = (L2.wipe σ vs)[j]?) : L2.wipe σ2 vs = L2.wipe σ vs := by
  have hlen : σ2.length = σ.length := by rw [hl, wipe_length]
  have hin : ∀ (τ : L2.St) (ws : List Nat) (j : Nat), j ∈ ws → j < τ.length → (L2.wipe τ ws)[j]? = some none := by
    intro τ ws j
    induction ws with
    | nil => intro h; cases h
    | cons w ws ih =>
      intro h hj
      show ((L2.wipe τ ws).set w none)[j]? = _
      by_cases e : w = j
      · subst e; rw [List.getElem?_set_self (by rw [wipe_length]; exact hj)]
      · rw [List.getElem?_set_ne e]
        exact ih ((List.mem_cons.mp h).resolve_left (fun z => e z.symm)) hj
  apply List.ext_getElem?
  intro j
  by_cases hv : j ∈ vs
  · by_cases hj : j < σ.length
    · rw [hin σ2 vs j hv (by omega), hin σ vs j hv hj]
    · rw [List.getElem?_eq_none (by rw [wipe_length]; omega), List.getElem?_eq_none (by rw [wipe_length]; omega)]
  · rw [wipe_out hv, ho j (fun z => hv (hsub j z))]
def noexc {α : Type} (m : M α) : M α := fun n => match m n with
  | .exc _ _ => .bad
  | r => r
def lcF (bnd : D → Env → Option Env) (gt : Env → M Bool) (fe : Env → M D) (env : Env) : List D → M (List D)
  | [] => ret []
  | d :: ds => seq (lift (bnd d env)) fun env1 => seq (noexc (gt env1)) fun k => if k = true then seq (noexc (fe env1)) fun y => seq (lcF bnd gt fe env ds) fun r => ret (y :: r) else lcF bnd gt fe env ds
def lcE (fi : Env → M (List D)) (vs : List Nat) (bnd : D → Env → Option Env) (gt : Env → M Bool) (fe : Env → M D) : Env → M (List D) := fun env => seq (fi env) fun ds => if ds.length ≤ big then lcF bnd gt fe (wipeE env vs) ds else fault
theorem seq_ret {α : Type} (x : M α) : seq x (fun r => ret r) = x := by
  funext n
  unfold seq
  cases x n <;> rfl
theorem seq_app (x : M (List D)) (acc : List D) (y : D) : seq (seq x fun r => ret (y :: r)) (fun r => ret (acc ++ r)) = seq x (fun r => ret ((acc ++ [y]) ++ r)) := by
  funext n
  unfold seq
  cases x n with
  | ok a m => show R.ok _ _ = R.ok _ _; rw [List.append_assoc]; rfl
  | exc c m => rfl
  | bad => rfl
theorem lc_run {B : Bd} {P P' : Hp → OS → V → D → Prop} (hP : ∀ H O v d, P H O v d → P' H O v d) {fi : Env → M (List D)} {vs is : List Nat} {bnd : D → Env → Option Env} {gt : Env → M Bool} {fe : Env → M D} {σ : L2.St} {H : Hp} {Q : VK} (hsub : ∀ i ∈ is, i ∈ vs)
    (h : tG B (pN B) (lcE fi vs bnd gt fe) σ H Q) : tLc (tG B (pI P) fi) (tTg (noxB B) P' is bnd) (tG (noxB B) pT gt) (tG (noxB B) (pE (noxB B)) fe) vs σ H Q := by
  obtain ⟨env, O, n, s, post⟩ := h
  unfold tLc
  refine tG_seq1 (g := fun env (ds : List D) => if ds.length ≤ big then lcF bnd gt fe (wipeE env vs) ds else fault) lat_N s post fun ds J n1 H1 s1 e1 p1 q1 => ?_
  by_cases hbig : ds.length ≤ big
  · rw [if_pos hbig] at q1
    intro Dl hD
    obtain ⟨G, Y, W, hG, hY⟩ := p1
    have hDT : ¬ B.T.has Dl := s1.town.cold hD
    have hD0 : B.H0 Dl = none := none_back s1.fr1 s1.town hD
    have hDs : ∀ (i : Nat) (sv : SV), (wipeE env vs)[i]? = some (some sv) → sv.ow = true → (L2.wipe σ vs)[i]? ≠ some (some (.ref Dl)) := (s1.wipe vs).free hD
    have hst : ∀ {H' : Hp}, Ext B.T H1 H' → Step O H1 (addO O Dl) H' := fun ex a o h na => ⟨ex a o (fun z => na (s1.tO a z)) h, fun z => z.elim na (ne_of_none h hD)⟩
    refine lc_it W (fun i H' => ∃ n' acc accD, Sim B (wipeE env vs) (addO O Dl) n' (L2.wipe σ vs) H' ∧ Ext B.T H1 H' ∧ H' Dl = some (.lst acc) ∧ Reps B.K H' (addO O Dl) acc accD ∧ acc.length ≤ i ∧
      Post B (pN B O) H1 (seq (lcF bnd gt fe (wipeE env vs) (ds.drop i)) (fun r => ret (accD ++ r)) n') Q) ?_ (fun i H' _ h => ?_) (fun i x H' H'' hi h y => ?_) (fun H' h => ?_)
    · refine ⟨n1, [], [], (s1.wipe vs).addFree hD, same_ext (same_new hD), upd_same, .nil, Nat.zero_le _, ?_⟩
      have e : seq (lcF bnd gt fe (wipeE env vs) (ds.drop 0)) (fun r => ret ([] ++ r)) = lcF bnd gt fe (wipeE env vs) ds := seq_ret _
      rw [e]; exact q1
    · obtain ⟨n', acc, accD, s', ex, _⟩ := h
      exact hG _ _ (hst ex)
    · obtain ⟨n', acc, accD, s', ex, hacc, racc, hlen, post'⟩ := h
      obtain ⟨sm, d, hd, rd⟩ := hY i x _ H' H'' (hst ex) s'.dom hi y
      have s2 := s'.ext (same_ext sm) (same_town sm s'.town)
      rw [List.drop_eq_getElem_cons hi] at post'
      have ed : ds[i] = d := by rw [List.getElem?_eq_getElem hi] at hd; exact Option.some.inj hd
      rw [ed] at post'
      have post' : Post B (pN B O) H1 (seq (seq (lift (bnd d (wipeE env vs))) fun env1 => seq (noexc (gt env1)) fun k => if k = true then seq (noexc (fe env1)) fun y => seq (lcF bnd gt fe (wipeE env vs) (ds.drop (i + 1))) fun r => ret (y :: r) else lcF bnd gt fe (wipeE env vs) (ds.drop (i + 1))) (fun r => ret (accD ++ r)) n') Q := post'
      cases eb : bnd d (wipeE env vs) with
      | none => rw [eb] at post'; exact post'.elim
      | some env1 =>
        rw [eb] at post'
        refine ⟨wipeE env vs, addO O Dl, n', d, env1, s2.nox, hP _ _ _ _ rd, eb, fun σ2 s3 hl ho => ⟨wipe_same hsub hl ho, ?_⟩⟩
        have post' : Post B (pN B O) H1 (seq (seq (noexc (gt env1)) fun k => if k = true then seq (noexc (fe env1)) fun y => seq (lcF bnd gt fe (wipeE env vs) (ds.drop (i + 1))) fun r => ret (y :: r) else lcF bnd gt fe (wipeE env vs) (ds.drop (i + 1))) (fun r => ret (accD ++ r)) n') Q := post'
        refine ⟨env1, addO O Dl, n', s3, ?_⟩
        cases rt : gt env1 n' with
        | exc c m => simp only [seq, noexc, rt] at post'; exact post'.elim
        | bad => simp only [seq, noexc, rt] at post'; exact post'.elim
        | ok k m =>
          have en : noexc (gt env1) n' = .ok k m := by simp only [noexc, rt]
          have post' : Post B (pN B O) H1 (seq (if k = true then seq (noexc (fe env1)) fun y => seq (lcF bnd gt fe (wipeE env vs) (ds.drop (i + 1))) fun r => ret (y :: r) else lcF bnd gt fe (wipeE env vs) (ds.drop (i + 1))) (fun r => ret (accD ++ r)) m) Q := by
            have e2 : seq (seq (noexc (gt env1)) fun k => if k = true then seq (noexc (fe env1)) fun y => seq (lcF bnd gt fe (wipeE env vs) (ds.drop (i + 1))) fun r => ret (y :: r) else lcF bnd gt fe (wipeE env vs) (ds.drop (i + 1))) (fun r => ret (accD ++ r)) n' = seq (if k = true then seq (noexc (fe env1)) fun y => seq (lcF bnd gt fe (wipeE env vs) (ds.drop (i + 1))) fun r => ret (y :: r) else lcF bnd gt fe (wipeE env vs) (ds.drop (i + 1))) (fun r => ret (accD ++ r)) m := by
              simp only [seq, en]
            rw [e2] at post'; exact post'
          intro b H3 ex3 tw3 hb
          have ex3 : Ext B.T H'' H3 := ex3
          have tw3 : Town B.T H3 m := tw3
          cases hb
          have s4 := s2.ext ex3 tw3
          have exA : Ext B.T H1 H3 := (ex.trans (same_ext sm)).trans ex3
          have hacc3 : H3 Dl = some (.lst acc) := ex3 _ _ hDT (sm _ _ hacc)
          have racc3 : Reps B.K H3 (addO O Dl) acc accD := Reps.step (step_of s4.tO ex3) _ _ (Reps.step (same_step sm) _ _ racc)
          cases k with
          | false => exact ⟨m, acc, accD, s4, exA, hacc3, racc3, Nat.le_succ_of_le hlen, post'⟩
          | true =>
            have post' : Post B (pN B O) H1 (seq (seq (noexc (fe env1)) fun y => seq (lcF bnd gt fe (wipeE env vs) (ds.drop (i + 1))) fun r => ret (y :: r)) (fun r => ret (accD ++ r)) m) Q := post'
            refine ⟨env1, addO O Dl, m, s3.ext ex3 tw3, ?_⟩
            cases re : fe env1 m with
            | exc c m2 => simp only [seq, noexc, re] at post'; exact post'.elim
            | bad => simp only [seq, noexc, re] at post'; exact post'.elim
            | ok yd m2 =>
              have en2 : noexc (fe env1) m = .ok yd m2 := by simp only [noexc, re]
              have post' : Post B (pN B O) H1 (seq (seq (lcF bnd gt fe (wipeE env vs) (ds.drop (i + 1))) fun r => ret (yd :: r)) (fun r => ret (accD ++ r)) m2) Q := by
                have e2 : seq (seq (noexc (fe env1)) fun y => seq (lcF bnd gt fe (wipeE env vs) (ds.drop (i + 1))) fun r => ret (y :: r)) (fun r => ret (accD ++ r)) m = seq (seq (lcF bnd gt fe (wipeE env vs) (ds.drop (i + 1))) fun r => ret (yd :: r)) (fun r => ret (accD ++ r)) m2 := by
                  simp only [seq, en2]
                rw [e2] at post'; exact post'
              rw [seq_app] at post'
              intro v H4 ex4 tw4 rep
              have ex4 : Ext B.T H3 H4 := ex4
              have tw4 : Town B.T H4 m2 := tw4
              have s5 := s4.ext ex4 tw4
              obtain ⟨s6, st6⟩ := s5.updFree (o := .lst (acc ++ [v])) (.inr rfl) hDT hD0 hDs
              refine ⟨acc, ex4 _ _ hDT hacc3, ?_, m2, acc ++ [v], accD ++ [yd], s6, ?_, upd_same, ?_, ?_, post'⟩
              · have : acc.length < big := by omega
                exact Nat.lt_of_lt_of_le this big_line
              · intro a o na h
                rw [upd_ne (ne_of_none h hD)]
                exact ex4 a o na (exA a o na h)
              · exact Reps.step st6 _ _ ((Reps.step (step_of s5.tO ex4) _ _ racc3).append (.cons rep .nil))
              · rw [List.length_append, List.length_singleton]; omega
    · obtain ⟨n', acc, accD, s', ex, hacc, racc, hlen, post'⟩ := h
      rw [List.drop_length] at post'
      have post' : Post B (pN B O) H1 (ret (accD ++ []) n') Q := post'
      rw [List.append_nil] at post'
      exact post' (.ref Dl) H' ex s'.town ⟨Dl, acc, rfl, hD, hacc, racc⟩
  · rw [if_neg hbig] at q1; exact q1.elim
section
variable {X : Cx} {B : Bd}
def yesT : Env → M Bool := fun _ => ret true
theorem sts_nil : PTs X [] (tG B pT yesT) := ⟨fun pins s σ H Q I h => by
  obtain ⟨env, O, n, sm, post⟩ := h
  exact (pts_nil (X := X)).run pins s σ H Q I (post true H (Ext.refl _ _) sm.town rfl)⟩
theorem sts_one {c : Expr} {gt : Env → M Bool} (h : ST X B c gt) : PTs X [c] (tG B pT gt) := pts_one h
theorem sn_lc {P P' : Hp → OS → V → D → Prop} {elt tg iter : Expr} {ifs : List Expr} {scope : Scope} {own : List (Str × Nat)} {pos : Pos} {fi : Env → M (List D)} {is : List Nat} {bnd : D → Env → Option Env} {gt : Env → M Bool} {fe : Env → M D} (hc : X.calm = true) (hN : X.N.Nodup) (hi : PI X tg iter (tG B (pI P) fi)) (ok : BlkOk X.N X.env.scope scope own)
    (hg : ∀ (s : Shared) (H : Hp) (C : Addr) (cl : List (Str × Addr)) (fp : List Addr), PG (X.blk s H scope (compEnvC scope cl C X.env) fp) tg (tTg (noxB B) P' is bnd))
    (ht : ∀ (s : Shared) (H : Hp) (C : Addr) (cl : List (Str × Addr)) (fp : List Addr), PTs (X.blk s H scope (compEnvC scope cl C X.env) fp) ifs (tG (noxB B) pT gt))
    (he : ∀ (s : Shared) (H : Hp) (C : Addr) (cl : List (Str × Addr)) (fp : List Addr), SE (X.blk s H scope (compEnvC scope cl C X.env) fp) (noxB B) elt fe) (hsub : ∀ i ∈ is, i ∈ own.map (·.2)) (hs : ∀ x, foldedSetIterable iter X.env x = pure x := by intro _; rfl) (hP : ∀ H O v d, P H O v d → P' H O v d := by intro _ _ _ _ h; exact h) :
    SN X B (.ListComp elt [⟨tg, iter, ifs, 0⟩] scope pos) (lcE fi (own.map (·.2)) bnd gt fe) :=
  pe_weak (pe_lc hc hN hi ok hg ht he hs) fun _ _ _ h => lc_run hP hsub h
theorem ps_lcN {P P' : Hp → OS → V → D → Prop} {st : Stmt} {i : Nat} {vs is : List Nat} {fi : Env → M (List D)} {bnd : D → Env → Option Env} {gt : Env → M Bool} {fe : Env → M D} (hsub : ∀ i ∈ is, i ∈ vs)
    (h : PS X st (tAsg (tLc (tG B (pI P) fi) (tTg (noxB B) P' is bnd) (tG (noxB B) pT gt) (tG (noxB B) (pE (noxB B)) fe) vs) (gName i))) (hP : ∀ H O v d, P H O v d → P' H O v d := by intro _ _ _ _ h; exact h) : PS X st (tAsg (tG B (pN B) (lcE fi vs bnd gt fe)) (gName i)) :=
  ps_weak h fun De σ H h => lc_run (Q := fun x H1 => gName i x σ H1 De.nx) hP hsub h
theorem ss_asgLcN {st : Stmt} {i : Nat} {fr : Env → M (List D)} (h : PS X st (tAsg (tG B (pN B) fr) (gName i))) : SS X B st (setN i fr) := ss_asgN h
theorem ss_asgLcD {st : Stmt} {i : Nat} {fr : Env → M (List D)} (h : PS X st (tAsg (tG B (pN B) fr) (gName i))) : SS X B st (setS i (listE fr)) := by
  refine ss_asg (ps_weak h fun De σ H h => ?_)
  obtain ⟨env, O, n, s, post⟩ := h
  exact tG_seq1 (g := fun env (r : List D) => ret (PyData.list r)) lat_E s post fun x vx n1 H1 s1 e1 p1 q1 => q1 _ H1 (Ext.refl _ _) s1.town (pN_rep s.dom p1)
end
end Sim

namespace Sim
open PySem PySem.Spec L2

/-! ### a def's promise -/
def FPost (B : Bd) (r : R D) (Q : VK) : Prop := match r with
  | .ok d n => ∀ v H', Ext B.T B.H0 H' → Town B.T H' n → Rep B.K H' B.O0 v d → Q v H'
  | .exc c n => XPost B c n
  | .bad => False
def Hot.Fit (T : Hot) (K : PySem.W.Frag) (cv : Nat → Value) : Prop := T.K = K ∧ ∀ l ∈ T.L, cv 100 = .ref T.C
def SpF (K : PySem.W.Frag) (cv : Nat → Value) (np : Nat) (F : List SV → M D) : Sp := fun vs H Q E =>
  vs.length = np ∧ ∃ (T : Hot) (O : OS) (n : Sta) (as : List SV), (∀ a, O a → NF H a) ∧ Town T H n ∧ ((∀ a, T.has a → O a) ∧ T.Fit K cv) ∧ ArgsOk ⟨K, H, O, T, E, cv⟩ H O vs as ∧ FPost ⟨K, H, O, T, E, cv⟩ (F as n) Q
def finM : Fl → M D
  | .ret d => ret d
  | .next _ => ret .none
  | _ => fault
def startE (N : Nat) (as : List SV) : Env := as.map some ++ List.replicate (N - as.length) none
def runF (N : Nat) (g : Env → M Fl) : List SV → M D := fun as => seq (g (startE N as)) finM
theorem ArgsOk.length {B : Bd} {H : Hp} {O : OS} : ∀ {vs : List V} {as : List SV}, ArgsOk B H O vs as → vs.length = as.length
  | _, _, .nil => rfl
  | _, _, .cons _ h => congrArg (· + 1) (ArgsOk.length h)
theorem ArgsOk.at {B : Bd} {H : Hp} {O : OS} : ∀ {vs : List V} {as : List SV} {i : Nat} {a : SV}, ArgsOk B H O vs as → as[i]? = some a → ∃ v, vs[i]? = some v ∧ ArgOk B H O v a
  | _, _, _, _, .nil, e => by simp at e
  | _, _, 0, _, .cons r _, e => by simp at e; subst e; exact ⟨_, rfl, r⟩
  | _, _, i + 1, v, .cons _ t, e => by
    obtain ⟨u, h1, h2⟩ := ArgsOk.at (i := i) (a := v) t (by simpa using e)
    exact ⟨u, by simpa using h1, h2⟩
theorem ArgOk.to {B B' : Bd} (hK : B.K = B'.K) (hT : B.T = B'.T) {H : Hp} {O : OS} {v : V} {a : SV} (h : ArgOk B H O v a) : ArgOk B' H O v a := by
  cases a with
  | d x => have h : Rep B.K H O v x := h; rw [hK] at h; exact h
  | own _ => exact h
  | town => have h : v = .ref B.T.t := h; rw [hT] at h; exact h
  | scr ns => have h : ∃ a, v = .ref a ∧ ScrAt B.K H O a ns := h; rw [hK] at h; exact h
  | ex _ => exact h
  | lis k => have h : ∃ la, B.T.L[k]? = some la ∧ v = .ref la.a := h; rw [hT] at h; exact h
  | dic _ => exact h
  | fd _ => exact h
  | dt _ => exact h
theorem ArgsOk.to {B B' : Bd} (hK : B.K = B'.K) (hT : B.T = B'.T) {H : Hp} {O : OS} : ∀ {vs : List V} {as : List SV}, ArgsOk B H O vs as → ArgsOk B' H O vs as
  | _, _, .nil => .nil
  | _, _, .cons r h => .cons (r.to hK hT) (ArgsOk.to hK hT h)
theorem start_sim {K : PySem.W.Frag} {cv : Nat → Value} {T : Hot} {O : OS} {n : Sta} {H : Hp} {E : XK} {N : List Str} {vs : List V} {as : List SV} (dom : ∀ a, O a → NF H a) (tw : Town T H n) (tO : (∀ a, T.has a → O a) ∧ T.Fit K cv) (h : ArgsOk ⟨K, H, O, T, E, cv⟩ H O vs as) :
    Sim ⟨K, H, O, T, E, cv⟩ (startE N.length as) O n (L2.start N vs) H := by
  have hl := h.length
  have noown : ∀ (i : Nat) (sv : SV), (startE N.length as)[i]? = some (some sv) → sv.ow = true → False := fun i sv e w => by
    unfold startE at e
    by_cases hi : i < as.length
    · rw [List.getElem?_append_left (by simpa using hi), List.getElem?_map, List.getElem?_eq_getElem hi] at e
      have e : as[i] = sv := by simpa using e
      obtain ⟨v, _, q⟩ := h.at (i := i) (a := sv) (by rw [List.getElem?_eq_getElem hi, e])
      cases sv with
      | own _ => exact q
      | dic _ => exact q
      | dt _ => exact q
      | _ => cases w
    · rw [List.getElem?_append_right (by simpa using hi)] at e
      by_cases hj : i - (as.map some).length < N.length - as.length
      · rw [List.getElem?_replicate, if_pos hj] at e; cases e
      · rw [List.getElem?_replicate, if_neg hj] at e; cases e
  refine ⟨by simp [startE, L2.start, hl], fun i sv e => ?_, fun i j sv tv v _ e w => (noown i sv e w).elim, dom, tw, tO.1, Ext.refl _ _, fun a h => .inl h, fun a h => h, tO.2.1, tO.2.2⟩
  have e0 := e
  unfold startE at e
  by_cases hi : i < as.length
  · rw [List.getElem?_append_left (by simpa using hi), List.getElem?_map, List.getElem?_eq_getElem hi] at e
    have e : as[i] = sv := by simpa using e
    obtain ⟨v, hv, q⟩ := h.at (i := i) (a := sv) (by rw [List.getElem?_eq_getElem hi, e])
    refine ⟨v, ?_, ?_⟩
    · unfold L2.start
      rw [List.getElem?_append_left (by rw [List.length_map, hl]; exact hi), List.getElem?_map, hv]; rfl
    · cases sv with
      | d x => exact q
      | own xs => exact (noown i _ e0 rfl).elim
      | town => exact q
      | scr ns => exact q
      | ex _ => exact q
      | lis _ => exact q
      | dic xs => exact (noown i _ e0 rfl).elim
      | fd xs => exact (show False from q).elim
      | dt xs => exact (noown i _ e0 rfl).elim
  · rw [List.getElem?_append_right (by simpa using hi)] at e
    by_cases hj : i - (as.map some).length < N.length - as.length
    · rw [List.getElem?_replicate, if_pos hj] at e; cases e
    · rw [List.getElem?_replicate, if_neg hj] at e; cases e
theorem body_post {B : Bd} {O : OS} {H : Hp} {x : M Fl} {n : Sta} {Q : VK} (h : FPost B (seq x finM n) Q) : SPost B { nx := fun _ H' => Q .non H', rt := Q } O H (x n) := by
  unfold seq at h
  cases r : x n with
  | ok f n =>
    rw [r] at h
    cases f with
    | next env => exact fun σ' O' H' s st => h .non H' s.fr1 s.town .non
    | ret d => exact h
    | rn xs => exact h.elim
    | rd xs => exact h.elim
    | brk env => exact h.elim
    | cont env => exact h.elim
  | exc c n => rw [r] at h; exact h
  | bad => rw [r] at h; exact h
section
variable {P : Program} {w : World} {K : PySem.W.Frag} {mg : Str → Option Value} {base : Heap} {cv : Nat → Value}
/-- THE RULE for a def -/
theorem fn_sim {x qual : Str} {st : Stmt} {f : Addr} {fd : FuncData} {N ps : List Str} {k : Nat} {g : Env → M Fl} {sc : Scope} (F : Fun K x qual st f fd) (hsc : defScope st = sc) (S : FnScope N ps sc)
    (hbody : ∀ (cdv : Value) (A : Around) (outer : List PySem.Env) (s : Shared) (H : Hp) (E : XK) (B : Bd), B.K = K → B.cv = cv → B.E = E → Room k (A.deeper (PyProof.Rows.envOfC qual sc s.heap.objs.size f cdv)) →
      SSs (cxOf (L2N.CX P w) P w K mg base N qual sc f cdv A outer s H E) B (defBody st) g) : FnOk P w K mg base (L2N.CX P w) (k + 1) f fd ps (SpF K cv ps.length (runF N.length g)) := by
  subst hsc
  obtain ⟨oc, od, kV, doc, pm, an, cdv, ct, osl, rfl, lk, hcd⟩ := F.ex
  refine fn_of lk hcd S (fun vs H Q E h => h.1) fun A outer s H vs Q E hr hsp => ?_
  obtain ⟨hl, T, O, n, as, dom, tw, tO, ha, post⟩ := hsp
  refine ⟨_, hbody cdv A outer s H E ⟨K, H, O, T, E, cv⟩ rfl rfl rfl hr, startE N.length as, O, n, start_sim dom tw tO ha, body_post post⟩
end
section
variable {X : Cx} {B : Bd} {e : Expr}
/-- f(..) -/
def callF (np : Nat) (F : List SV → M D) (fs : Env → M (List SV)) : Env → M D := fun env => seq (fs env) fun as => if as.length = np then F as else fault
theorem callF_run {np : Nat} {F : List SV → M D} {fs : Env → M (List SV)} {σ : L2.St} {H : Hp} {Q : VK} (h : tG B (pE B) (callF np F fs) σ H Q) : tG B (pA B) fs σ H fun vs H1 => SpF B.K B.cv np F vs H1 Q B.E := by
  obtain ⟨env, O, n, s, post⟩ := h
  refine tG_seq1 (g := fun env (as : List SV) => if as.length = np then F as else fault) lat_E s post fun as vs n1 H1 s1 e1 p1 q1 => ?_
  by_cases hl : as.length = np
  · rw [if_pos hl] at q1
    refine ⟨by rw [ArgsOk.length p1]; exact hl, B.T, O, n1, as, s1.dom, s1.town, ⟨s1.tO, s1.tK, s1.tC⟩, ArgsOk.to (B := B) (B' := ⟨B.K, H1, O, B.T, B.E, B.cv⟩) rfl rfl p1, ?_⟩
    cases r : F as n1 with
    | ok d m => rw [r] at q1; exact q1
    | exc c m => rw [r] at q1; exact fun H' ex tw => q1 H' (s1.fr1.trans ex) tw
    | bad => rw [r] at q1; exact q1
  · rw [if_neg hl] at q1; exact q1.elim
theorem se_call {np : Nat} {F : List SV → M D} {fs : Env → M (List SV)} {K : PySem.W.Frag} {cv : Nat → Value} {E : XK} (hK : B.K = K) (hcv : B.cv = cv) (hE : B.E = E) (h : PE X e (tCall (SpF K cv np F) [] E (tG B (pA B) fs))) : SE X B e (callF np F fs) := by
  subst hK hcv hE
  refine pe_weak h fun σ H Q q => ?_
  have := callF_run q
  show tG B (pA B) fs σ H fun vs H1 => SpF B.K B.cv np F (vs ++ []) H1 Q B.E
  simp only [List.append_nil]
  exact this
theorem se_call0 {F : List SV → M D} {K : PySem.W.Frag} {cv : Nat → Value} {E : XK} (hK : B.K = K) (hcv : B.cv = cv) (hE : B.E = E) (h : PE X e (tCall (SpF K cv 0 F) [] E tNil)) : SE X B e (callF 0 F nilE) := by
  subst hK hcv hE
  refine pe_weak h fun σ H Q q => ?_
  obtain ⟨env, O, n, s, post⟩ := callF_run q
  exact post [] H (Ext.refl _ _) s.town .nil
/-! ### the script -/
def scrK {α : Type} (k : List Int → M α) : Option (Option SV) → M α
  | some (some (.scr ns)) => k ns
  | _ => fault
theorem scr_post {α : Type} {k : List Int → M α} {o : Option (Option SV)} {n : Sta} {P : R α → Prop} (hb : P .bad → False) (h : P (scrK k o n)) : ∃ ns, o = some (some (.scr ns)) ∧ P (k ns n) := by
  rcases o with _ | _ | x | xs | _ | ns | _ | _ | _ | _ | _ <;> first | exact (hb h).elim | skip
  exact ⟨ns, rfl, h⟩
def scrLen (i : Nat) : Env → M D := fun env => scrK (fun ns => ret (.int ns.length)) env[i]?
theorem se_scrLen {i : Nat} (hK : B.K = X.K) (h : PE X e (tCB (fun xs H Q => ∃ p ys, xs = [.ref p] ∧ (SqL X.K H p ys ∨ SqT X.K H p ys) ∧ Q (.int ys.length) H) (tCons (tVar i) tNil))) : SE X B e (scrLen i) := by
  refine pe_weak h fun σ H Q h => ?_
  obtain ⟨env, O, n, s, post⟩ := h
  obtain ⟨ns, hi, post⟩ := scr_post (P := fun r => Post B (pE B O) H r Q) (fun z => z) post
  obtain ⟨v, hσ, a, rfl, hs⟩ := s.slot i _ hi
  rw [hK] at hs
  refine ⟨_, hσ, a, ns.map V.int, rfl, .inl hs.sq, ?_⟩
  rw [List.length_map]
  exact post _ H (Ext.refl _ _) s.town (.int _)
def scrIx (i : Nat) (fa : Env → M D) : Env → M D := fun env => scrK (fun ns => seq (fa env) fun d => seq (intM d) fun j => lift ((atI ns j).map .int)) env[i]?
theorem atI_map {ns : List Int} {j x : Int} (h : atI ns j = some x) : atI (ns.map V.int) j = some (V.int x) := by
  unfold atI at h ⊢
  rw [List.length_map]
  cases q : ixN ns.length j with
  | none => rw [q] at h; cases h
  | some k =>
    rw [q] at h
    have h : ns[k]? = some x := h
    show (ns.map V.int)[k]? = some (V.int x)
    rw [List.getElem?_map, h]; rfl
theorem se_scrIx {i : Nat} {fa : Env → M D} (hK : B.K = X.K) (h : PE X e (tOp (rIxL X.K) (tVar i) (tG B (pE B) fa))) : SE X B e (scrIx i fa) := by
  refine pe_weak h fun σ H Q h => ?_
  obtain ⟨env, O, n, s, post⟩ := h
  obtain ⟨ns, hi, post⟩ := scr_post (P := fun r => Post B (pE B O) H r Q) (fun z => z) post
  obtain ⟨v, hσ, a, rfl, hs⟩ := s.slot i _ hi
  refine ⟨_, hσ, ?_⟩
  refine tG_seq1 (g := fun env d => seq (intM d) fun j => lift ((atI ns j).map PyData.int)) lat_E s post fun x vx n1 H1 s1 e1 p1 q1 => ?_
  cases p1 with
  | int j =>
    have q1 : Post B (pE B O) H1 (lift ((atI ns j).map PyData.int) n1) Q := q1
    obtain ⟨z, hz, k⟩ := lift_post q1
    cases e : atI ns j with
    | none => rw [e] at hz; cases hz
    | some x =>
      rw [e] at hz; cases hz
      have hs1 := hs.step (step_of s1.tO e1)
      rw [hK] at hs1
      exact ⟨a, _, j, .int x, rfl, rfl, hs1.sq, atI_map e, k _ H1 (Ext.refl _ _) s1.town (.int _)⟩
  | _ => exact q1.elim
def scrEmpty (i : Nat) : Env → M D := fun env => scrK (fun ns => ret (.bool ns.isEmpty)) env[i]?
theorem dp_ints {K : PySem.W.Frag} {H : Hp} : ∀ ns : List Int, DpAll K H (ns.map V.int) (ns.map PyData.int)
  | [] => .nil
  | n :: ns => .cons (.int n) (dp_ints ns)
theorem depth_ints : ∀ ns : List Int, PyData.depthAll (ns.map PyData.int) = 0
  | [] => rfl
  | n :: ns => by show max (PyData.depth (.int n)) (PyData.depthAll (ns.map PyData.int)) = 0; rw [depth_ints ns]; rfl
theorem op_eqP (hu : X.A.units + 64 < cLine) : OpR X (compareOp .Eq) (fun x y H Q => ∃ d e, Dp X.K H x d ∧ Dp X.K H y e ∧ min d.depth e.depth ≤ 60 ∧ Q (.bl (PyData.eqv d e)) H) := by
  intro pins s σ H x y v u Q I rx ry h
  obtain ⟨d, e, dx, dy, hl, q⟩ := h
  obtain ⟨as, r1⟩ := Dp.reads I d x v dx rx
  obtain ⟨bs, r2⟩ := Dp.reads I e y u dy ry
  exact PySem.SeqAt.eq_plain r1 r2 (plain_dp _ _ dx) (plain_dp _ _ dy) (by omega) ⟨.bl _, H, I, rfl, q⟩
theorem st_scrEmpty {i : Nat} (hK : B.K = X.K) (h : PT X e (tTest (tOp (fun x y H Q => ∃ d e, Dp X.K H x d ∧ Dp X.K H y e ∧ min d.depth e.depth ≤ 60 ∧ Q (.bl (PyData.eqv d e)) H) (tVar i) (tLst tNil)))) : ST X B e (testE (scrEmpty i)) := by
  refine pt_weak h fun σ H Q h => ?_
  obtain ⟨env, O, n, s, post⟩ := h
  have post : Post B (pT O) H (seq (scrK (fun ns => ret (.bool ns.isEmpty)) env[i]?) boolM n) Q := post
  rcases hi : env[i]? with _ | _ | x | xs | _ | ns | _ | _ | _ | _ | _ <;> rw [hi] at post <;> first | exact post.elim | skip
  · obtain ⟨v, hσ, a, rfl, hs⟩ := s.slot i _ hi
    refine ⟨_, hσ, Nat.zero_le _, fun p hp => ?_⟩
    have hs1 := hs.step (same_step (same_new (o := .lst []) hp))
    rw [hK] at hs1
    refine ⟨.list (ns.map .int), .list [], .lst hs1.sq (dp_ints ns), .lst (.inl (.inl upd_same)) .nil, ?_, _, rfl, ?_⟩
    · exact Nat.le_trans (Nat.min_le_right _ _) (by decide)
    · have e : PyData.eqv (.list (ns.map .int)) (.list []) = ns.isEmpty := by cases ns <;> simp [PyData.eqv, PyData.eqvAll]
      rw [e]
      exact post _ _ (same_ext (same_new hp)) (same_town (same_new hp) s.town) rfl
end
/-! ### the law -/
def spLaw (K : PySem.W.Frag) : Sp := fun vs H Q _ => ∃ (a : Addr) (ns : List Int), vs = [.ref a] ∧ SqL K H a (ns.map V.int) ∧ ns.length ≤ 63 ∧ ∀ H', Q (.bl true) H'
/-- behind town = [] in slot 1 (the script stands in slot 0) -/
def lawEnv (N : Nat) (ns : List Int) : Env := some (.scr ns) :: some .town :: List.replicate (N - 2) none
def lawR (N : Nat) (g : Env → M Fl) (ns : List Int) : R D := seq (g (lawEnv N ns)) finM ⟨0, []⟩
theorem law_sim {P : Program} {w : World} {K : PySem.W.Frag} {mg : Str → Option Value} {base : Heap} {cv : Nat → Value} {qual : Str} {st : Stmt} {f : Addr} {fd : FuncData} {N : List Str} {k : Nat} {g : Env → M Fl} {s0 : Stmt} {rest : List Stmt} {sc : Scope} (F : Fun K "law" qual st f fd) (hsc : defScope st = sc) (S : FnScope N ["script"] sc) (hN : 2 ≤ N.length)
    (hb : defBody st = s0 :: rest)
    (h0 : ∀ (cdv : Value) (A : Around) (outer : List PySem.Env) (s : Shared) (H : Hp) (E : XK), PS (cxOf (L2N.CX P w) P w K mg base N qual sc f cdv A outer s H E) s0 (tAsg (tLst tNil) (gName 1)))
    (hbody : ∀ (cdv : Value) (A : Around) (outer : List PySem.Env) (s : Shared) (H : Hp) (E : XK) (B : Bd), B.K = K → B.cv = cv → B.E = E → Room k (A.deeper (PyProof.Rows.envOfC qual sc s.heap.objs.size f cdv)) →
      SSs (cxOf (L2N.CX P w) P w K mg base N qual sc f cdv A outer s H E) B rest g)
    (hlaw : ∀ ns : List Int, ns.length ≤ 63 → ∃ n, lawR N.length g ns = .ok (.bool true) n) : FnOk P w K mg base (L2N.CX P w) (k + 1) f fd ["script"] (spLaw K) := by
  subst hsc
  obtain ⟨oc, od, kV, doc, pm, an, cdv, ct, osl, rfl, lk, hcd⟩ := F.ex
  refine fn_of lk hcd S (fun vs H Q E h => ?_) fun A outer s H vs Q E hr hsp => ?_
  · obtain ⟨a, ns, rfl, _⟩ := h; rfl
  · obtain ⟨a, ns, rfl, hS, hlen, q⟩ := hsp
    have hr2 : PSs (cxOf (L2N.CX P w) P w K mg base N qual (defScope st) f cdv A outer s H E) rest (fun De σ H' => ∃ B : Bd, (B.K = K ∧ B.cv = cv ∧ B.E = E) ∧ tS B g De σ H') :=
      ⟨fun pins s' σ H' De I h => by
        obtain ⟨B, ⟨h1, h2, h3⟩, h⟩ := h
        exact (hbody cdv A outer s H E B h1 h2 h3 hr).run pins s' σ H' De I h⟩
    refine ⟨_, by rw [hb]; exact pss_cons (h0 cdv A outer s H E) hr2, ?_⟩
    refine ⟨Nat.zero_le _, fun p hp => ?_⟩
    have nap : ∀ o, H a = some o → a ≠ p := fun o h => ne_of_none h hp
    refine ⟨⟨K, upd H p (.lst []), fun b => b = p, ⟨p, K, 0, []⟩, E, cv⟩, ⟨rfl, rfl, rfl⟩, lawEnv N.length ns, fun b => b = p, ⟨0, []⟩, ?_, ?_⟩
    · have hsc : ScrAt K (upd H p (.lst [])) (fun b => b = p) a ns := by
        rcases hS with (h | ⟨o, h⟩) | h
        · exact .inl ⟨.inl (by rw [upd_ne (nap _ h)]; exact h), nap _ h⟩
        · exact .inl ⟨.inr ⟨o, by rw [upd_ne (nap _ h)]; exact h⟩, nap _ h⟩
        · exact .inr h
      have hshape : ∀ i : Nat, 2 ≤ i → (lawEnv N.length ns)[i]? = none ∨ (lawEnv N.length ns)[i]? = some none := fun i hi => by
        unfold lawEnv
        match i, hi with
        | j + 2, _ =>
          show (List.replicate (N.length - 2) none)[j]? = none ∨ (List.replicate (N.length - 2) none)[j]? = some none
          rw [List.getElem?_replicate]
          by_cases hj : j < N.length - 2
          · rw [if_pos hj]; exact .inr rfl
          · rw [if_neg hj]; exact .inl rfl
      have hσ0 : ((L2.start N [V.ref a]).set 1 (some (.ref p)))[0]? = some (some (.ref a)) := by
        rw [List.getElem?_set_ne (by decide)]; rfl
      have hσ1 : ((L2.start N [V.ref a]).set 1 (some (.ref p)))[1]? = some (some (.ref p)) := by
        rw [List.getElem?_set_self]
        show 1 < ([some (V.ref a)] ++ List.replicate (N.length - 1) none).length
        simp; omega
      refine ⟨?_, fun i sv e => ?_, fun i j sv tv v _ e w => ?_, fun b h => ?_, ⟨upd_same, .nil, (fun _ h => by cases h), .nil⟩, fun a h => ?_, Ext.refl _ _, fun b h => .inl h, fun b h => h, rfl, fun _ h => by cases h⟩
      · show (lawEnv N.length ns).length = ((L2.start N [V.ref a]).set 1 (some (.ref p))).length
        rw [List.length_set]
        simp [lawEnv, L2.start]; omega
      · match i, e with
        | 0, e => cases e; exact ⟨_, hσ0, a, rfl, hsc⟩
        | 1, e => cases e; exact ⟨_, hσ1, rfl⟩
        | j + 2, e => rcases hshape (j + 2) (by omega) with q | q <;> rw [q] at e <;> cases e
      · match i, e with
        | 0, e => cases e; cases w
        | 1, e => cases e; cases w
        | j + 2, e => rcases hshape (j + 2) (by omega) with q | q <;> rw [q] at e <;> cases e
      · rw [show b = p from h]; exact ⟨_, upd_same, rfl⟩
      · rcases h with h | ⟨l, hl, _⟩
        · exact h
        · cases hl
    · obtain ⟨m, hm⟩ := hlaw ns hlen
      refine body_post (B := ⟨K, upd H p (.lst []), fun b => b = p, ⟨p, K, 0, []⟩, E, cv⟩) (Q := Q) ?_
      have hm : seq (g (lawEnv N.length ns)) finM ⟨0, []⟩ = .ok (.bool true) m := hm
      rw [hm]
      intro v H' _ _ r
      have e : v = .bl true := by cases r; rfl
      rw [e]; exact q H'
end Sim

namespace Sim
open PySem PySem.Spec L2

section
variable {X : Cx} {B : Bd} {e : Expr} {fa fb fc fk : Env → M D}
/-- no exception leaves a block -/
theorem passN {X : Cx} : Passes (L2N.CX X.prog X.w) X (fun _ _ _ => False) := fun _ _ _ _ _ _ _ h => by
  obtain ⟨_, _, _, _, _, _, _, _, _, _, _, _, z⟩ := h
  exact z.elim
/-! ### {k1: a, k2: b, k3: c}[k], the keys written texts -/
def pick3 (k1 k2 k3 : Str) (x1 x2 x3 : D) : D → M D
  | .str z => if z = k1 then ret x1 else if z = k2 then ret x2 else if z = k3 then ret x3 else fault
  | _ => fault
def dict3E (k1 k2 k3 : Str) (fa fb fc fk : Env → M D) : Env → M D := fun env => seq (fa env) fun x1 => seq (fb env) fun x2 => seq (fc env) fun x3 => seq (fk env) (pick3 k1 k2 k3 x1 x2 x3)
theorem merge3 {k1 k2 k3 : Str} (h12 : k1 ≠ k2) (h13 : k1 ≠ k3) (h23 : k2 ≠ k3) (v1 v2 v3 : V) : mergeK [] [((Sum.inr k1 : Key), v1), (Sum.inr k2, v2), (Sum.inr k3, v3)] = [((Sum.inr k1 : Key), v1), (Sum.inr k2, v2), (Sum.inr k3, v3)] := by
  have e12 : ¬ (Sum.inr k1 : Key) = Sum.inr k2 := fun z => h12 (Sum.inr.inj z)
  have e13 : ¬ (Sum.inr k1 : Key) = Sum.inr k3 := fun z => h13 (Sum.inr.inj z)
  have e23 : ¬ (Sum.inr k2 : Key) = Sum.inr k3 := fun z => h23 (Sum.inr.inj z)
  simp [mergeK, putK, e12, e13, e23]
/-- the first part of a sequence; the rest is carried by any word of its end -/
theorem tG_seqR {α β γ : Type} {P : OS → Hp → Hp → β → α → Prop} {f : Env → M α} {g : Env → α → M γ} {Y : β → Hp → Prop} {env : Env} {O : OS} {n : Sta} {σ : L2.St} {H : Hp} {W : R γ → Prop} (s : Sim B env O n σ H) (h : W (seq (f env) (g env) n)) (hx : ∀ c m, W (.exc c m) → XPost B c m) (hb : W .bad → False)
    (k : ∀ a b n1 H1, Sim B env O n1 σ H1 → Ext B.T H H1 → P O H H1 b a → W (g env a n1) → Y b H1) : tG B P f σ H Y := by
  refine ⟨env, O, n, s, ?_⟩
  unfold seq at h
  cases e : f env n with
  | ok a n1 =>
    rw [e] at h
    intro b H1 ex tw p
    exact k a b n1 H1 (s.ext ex tw) ex p h
  | exc c n1 => rw [e] at h; exact hx c n1 h
  | bad => rw [e] at h; exact (hb h).elim
theorem se_dict3 {k1 k2 k3 : Str} (h12 : k1 ≠ k2) (h13 : k1 ≠ k3) (h23 : k2 ≠ k3)
    (h : PE X e (tDGet (tDisp [(tC (.str k1), tG B (pE B) fa), (tC (.str k2), tG B (pE B) fb), (tC (.str k3), tG B (pE B) fc)]) (tG B (pE B) fk))) : SE X B e (dict3E k1 k2 k3 fa fb fc fk) := by
  refine pe_weak h fun σ H Q q => ?_
  obtain ⟨env, O, n, s, post⟩ := q
  intro p hp
  have hpT : ¬ B.T.has p := s.town.cold hp
  have hp0 : B.H0 p = none := none_back s.fr1 s.town hp
  have hps : ∀ (i : Nat) (sv : SV), env[i]? = some (some sv) → sv.ow = true → σ[i]? ≠ some (some (.ref p)) := s.free hp
  have s0 : Sim B env (addO O p) n σ (upd H p (.dK [])) := s.addFree hp
  have ext0 : Ext B.T H (upd H p (.dK [])) := same_ext (same_new hp)
  have hx : ∀ c m, Post B (pE B O) H (.exc c m) Q → XPost B c m := fun c m z => z
  have hb : Post B (pE B O) H .bad Q → False := fun z => z
  show tG B (pE B) fa σ (upd H p (.dK [])) _
  refine tG_seqR (W := fun r => Post B (pE B O) H r Q) (g := fun env x1 => seq (fb env) fun x2 => seq (fc env) fun x3 => seq (fk env) (pick3 k1 k2 k3 x1 x2 x3)) s0 post hx hb fun x1 v1 n1 H1 s1 e1 p1 q1 => ?_
  show tG B (pE B) fb σ H1 _
  refine tG_seqR (W := fun r => Post B (pE B O) H r Q) (g := fun env x2 => seq (fc env) fun x3 => seq (fk env) (pick3 k1 k2 k3 x1 x2 x3)) s1 q1 hx hb fun x2 v2 n2 H2 s2 e2 p2 q2 => ?_
  show tG B (pE B) fc σ H2 _
  refine tG_seqR (W := fun r => Post B (pE B O) H r Q) (g := fun env x3 => seq (fk env) (pick3 k1 k2 k3 x1 x2 x3)) s2 q2 hx hb fun x3 v3 n3 H3 s3 e3 p3 q3 => ?_
  have hd : H3 p = some (.dK []) := e3 _ _ hpT (e2 _ _ hpT (e1 _ _ hpT upd_same))
  refine ⟨hd, [((Sum.inr k1 : Key), v1), (Sum.inr k2, v2), (Sum.inr k3, v3)], rfl, by show 3 ≤ 15; decide, ?_⟩
  rw [merge3 h12 h13 h23]
  obtain ⟨s4, st4⟩ := s3.updFree (o := .dK [((Sum.inr k1 : Key), v1), (Sum.inr k2, v2), (Sum.inr k3, v3)]) (.inr rfl) hpT hp0 hps
  refine tG_seqR (W := fun r => Post B (pE B O) H r Q) (g := fun env => pick3 k1 k2 k3 x1 x2 x3) s4 q3 hx hb fun y vy n5 H5 s5 e5 p5 q5 => ?_
  have full : Ext B.T H H5 := fun a o na h => by
    have hne : a ≠ p := ne_of_none h hp
    refine e5 a o na ?_
    rw [upd_ne hne]
    exact e3 a o na (e2 a o na (e1 a o na (by rw [upd_ne hne]; exact h)))
  have up : ∀ {v : V} {d : D}, Rep B.K H3 (addO O p) v d → Rep B.K H5 O v d := fun r => Rep.anti (fun _ z => .inl z) _ _ (Rep.step (step_of s5.tO e5) _ _ (Rep.step st4 _ _ r))
  have r1 : Rep B.K H3 (addO O p) v1 x1 := Rep.step (step_of s3.tO e3) _ _ (Rep.step (step_of s3.tO e2) _ _ p1)
  have r2 : Rep B.K H3 (addO O p) v2 x2 := Rep.step (step_of s3.tO e3) _ _ p2
  have hd5 : H5 p = some (.dK [((Sum.inr k1 : Key), v1), (Sum.inr k2, v2), (Sum.inr k3, v3)]) := e5 _ _ hpT upd_same
  cases y with
  | str z =>
    have ey : vy = .str z := by cases p5; rfl
    subst ey
    have q5 : Post B (pE B O) H ((if z = k1 then ret x1 else if z = k2 then ret x2 else if z = k3 then ret x3 else fault) n5) Q := q5
    have dg : ∀ {v : V}, valV [((Sum.inr k1 : Key), v1), (Sum.inr k2, v2), (Sum.inr k3, v3)] (Sum.inr z) = some v → DGet H5 p (.str z) (some v) := fun {v} h => .inl ⟨_, Sum.inr z, .inl hd5, rfl, h.symm⟩
    by_cases z1 : z = k1
    · rw [if_pos z1] at q5
      exact ⟨p, v1, rfl, dg (by simp [valV, z1]), q5 v1 H5 full s5.town (up r1)⟩
    · rw [if_neg z1] at q5
      have n1 : ¬ (Sum.inr k1 : Key) = Sum.inr z := fun q => z1 (Sum.inr.inj q).symm
      by_cases z2 : z = k2
      · rw [if_pos z2] at q5
        exact ⟨p, v2, rfl, dg (by subst z2; simp [valV, List.find?_cons, n1]), q5 v2 H5 full s5.town (up r2)⟩
      · rw [if_neg z2] at q5
        have n2 : ¬ (Sum.inr k2 : Key) = Sum.inr z := fun q => z2 (Sum.inr.inj q).symm
        by_cases z3 : z = k3
        · rw [if_pos z3] at q5
          exact ⟨p, v3, rfl, dg (by subst z3; simp [valV, List.find?_cons, n1, n2]), q5 v3 H5 full s5.town (up p3)⟩
        · rw [if_neg z3] at q5; exact q5.elim
  | _ => exact q5.elim
/-! ### ''.join(..), l.index(x), l.count(x), min(list) -/
def joinD : D → List D → Option D
  | .str a, [.list xs] => (strsOf xs).bind fun ys => if (ys.map (·.length)).sum + ys.length * a.length ≤ big then some (.str (Txt.join a ys)) else none
  | _, _ => none
theorem mtd_join : MtD X B "str.join" joinD := by
  refine MtR.imp mt_join fun x vs H Q h => ?_
  obtain ⟨O, d, ds, z, dom, hx, hv, hz, q⟩ := h
  unfold joinD at hz
  split at hz
  · rename_i a xs
    obtain ⟨v, rfl, h1⟩ := hv.one
    obtain ⟨p, ws, rfl, rp, rws⟩ := h1.list
    cases e : strsOf xs with
    | none => rw [e] at hz; cases hz
    | some ys =>
      rw [e] at hz
      have hz : (if (ys.map (·.length)).sum + ys.length * a.length ≤ big then some (PyData.str (Txt.join a ys)) else none) = some z := hz
      split at hz
      · rename_i hl
        cases hz
        have e2 := strsOf_reps rws e
        subst e2
        refine ⟨a, p, ys, hx.str, rfl, .inl (.inl rp), ?_, q _ H (fun _ _ h => h) (.str _)⟩
        have : big = 1000000 := rfl
        omega
      · cases hz
  · cases hz
def isStrD : D → Bool
  | .str _ => true
  | _ => false
def isListD : D → Bool
  | .list _ => true
  | _ => false
theorem ty_str {K : PySem.W.Frag} : ∀ H O v d, Brw B H O v d → isStrD d = true → tyV K "str" v H := fun H O v d h e => by
  cases d with
  | str z => rw [h.str]; rfl
  | _ => cases e
theorem ty_list {K : PySem.W.Frag} : ∀ H O v d, Brw B H O v d → isListD d = true → tyV K "list" v H := fun H O v d h e => by
  cases d with
  | list z => obtain ⟨a, xs, rfl, ra, rxs⟩ := h.list; exact .inl ⟨rfl, xs, .inl ra⟩
  | _ => cases e
def countD : D → List D → Option D
  | .list xs, [d] => if min (PyData.depthAll xs) d.depth ≤ 60 then some (.int ((xs.countP fun y => PyData.eqv y d : Nat) : Int)) else none
  | _, _ => none
theorem mtd_count (hK : B.K = X.K) (hu : X.A.units + 64 < cLine) : MtD X B "list.count" countD := by
  intro pins s σ H x vs v us Q I rx rv h
  obtain ⟨O, d, ds, z, dom, hx, hv, hz, q⟩ := h
  unfold countD at hz
  split at hz
  · rename_i xs d
    split at hz
    · rename_i hl
      cases hz
      obtain ⟨w, rfl, h1⟩ := hv.one
      obtain ⟨a, ws, rfl, ra, rws⟩ := hx.list
      cases rx
      obtain ⟨u, rfl, ru⟩ := rv.one
      have dy := h1.dp
      rw [hK] at dy rws
      obtain ⟨bs, r2⟩ := Dp.reads I _ _ u dy ru
      obtain ⟨_, its, n, rvs, hlen, e⟩ := lstR I ra
      obtain ⟨as, r1⟩ := Dp.readsAll I _ _ _ (Reps.dp _ _ rws) rvs
      refine PySem.SeqAt.count_list_data (vs := its.toArray) ⟨_, e, rfl, n, rfl⟩ (by simpa using r1) r2 (plainAll_dp _ _ (Reps.dp _ _ rws)) (plain_dp _ _ dy) (by omega) ?_
      exact ⟨.int _, H, I.tok _, ⟨_, rfl⟩, q _ H (fun _ _ h => h) (.int _)⟩
    · cases hz
  · cases hz
def indexD : D → List D → Option D
  | .list xs, [d] => if min (PyData.depthAll xs) d.depth ≤ 60 ∧ xs.length ≤ big then (xs.findIdx? fun y => PyData.eqv y d).map fun j => .int (j : Int) else none
  | _, _ => none
theorem mtd_index (hK : B.K = X.K) (hu : X.A.units + 64 < cLine) : MtD X B "list.index" indexD := by
  intro pins s σ H x vs v us Q I rx rv h
  obtain ⟨O, d, ds, z, dom, hx, hv, hz, q⟩ := h
  unfold indexD at hz
  split at hz
  · rename_i xs d
    split at hz
    · rename_i hl
      obtain ⟨w, rfl, h1⟩ := hv.one
      obtain ⟨a, ws, rfl, ra, rws⟩ := hx.list
      cases rx
      obtain ⟨u, rfl, ru⟩ := rv.one
      have dy := h1.dp
      rw [hK] at dy rws
      obtain ⟨bs, r2⟩ := Dp.reads I _ _ u dy ru
      obtain ⟨_, its, n, rvs, hlen, e⟩ := lstR I ra
      obtain ⟨as, r1⟩ := Dp.readsAll I _ _ _ (Reps.dp _ _ rws) rvs
      have pxs := plainAll_dp _ _ (Reps.dp _ _ rws)
      cases ej : xs.findIdx? (fun y => PyData.eqv y d) with
      | none => rw [ej] at hz; cases hz
      | some j =>
        rw [ej] at hz; cases hz
        have r1' : ReadsAll s.heap its.toArray.toList xs as := by simpa using r1
        obtain ⟨hj, hhit, hno⟩ := PySem.SeqAt.hit_at (d := d) r1' pxs ej
        refine PySem.call_meets PySem.F.slot_list_index ⟨_, e, rfl⟩ PySem.F.entry_list_index (PySem.F.args_list_index_2 _ _)
          (PySem.SeqAt.list_indexAt a its.toArray n none #[] u (fun u => PyData.eqv (PySem.SeqAt.readOf s.heap u) d) j hj ?_ hhit hno) ⟨e, PySem.SeqAt.items_plain r1' r2 pxs (plain_dp _ _ dy) (by omega), ?_⟩
        · have := sizeLine_eq
          have hb : big = 1000000 := rfl
          have := rws.length
          have hjl : j < its.length := by simpa using hj
          omega
        · exact ⟨.int _, H, I.tok _, ⟨_, rfl⟩, q _ H (fun _ _ h => h) (.int _)⟩
    · cases hz
  · cases hz
def minLD : List D → Option D
  | [.list xs] => (intsOf xs).bind fun ns => ns.min?.map .int
  | _ => none
theorem calld_minL (hc : X.calm = true) : CallD X B (.builtin "min") minLD := by
  refine CallR.imp (cr_min hc) fun vs H Q h => ?_
  obtain ⟨O, ds, z, dom, hv, hz, q⟩ := h
  unfold minLD at hz
  split at hz
  · rename_i xs
    obtain ⟨v, rfl, h1⟩ := hv.one
    obtain ⟨a, ys, rfl, ra, rxs⟩ := h1.list
    cases e : intsOf xs with
    | none => rw [e] at hz; cases hz
    | some ns =>
      rw [e] at hz
      have hz : ns.min?.map PyData.int = some z := hz
      cases em : ns.min? with
      | none => rw [em] at hz; cases hz
      | some m =>
        rw [em] at hz; cases hz
        have e2 := intsOf_reps rxs e
        subst e2
        refine ⟨a, ns, rfl, .inl ra, ?_, fun m' hm' hle => ?_⟩
        · cases ns with
          | nil => cases em
          | cons _ _ => simp
        · have hm := List.min?_eq_some_iff.mp em
          have : m' = m := Int.le_antisymm (hle m hm.1) (hm.2 m' hm')
          subst this
          exact q _ H (fun _ _ h => h) (.int _)
  · cases hz
theorem pe_neg1 {j : Nat} {p pos : Pos} : PE X (.UnaryOp .USub (.Constant (.int 1) j p) pos) (tC (.int (-1))) := pe_weak (pe_un un_neg pe_int) fun σ H Q h => ⟨1, rfl, h⟩
theorem ss_raiseC {c : Nat} {C : Addr} {E : XK} {x m : Str} {j : Nat} {p p2 pos pos' : Pos} (hcv : B.cv c = .ref C) (hc : X.calm = true) (hE : B.E = E) (tk : L2N.Takes X (fun cls d _ H => E cls d H))
    (q : PySem.W.excIn X.K C [.type "ValueError", .type "Exception", .type "BaseException", .type "object"] "ValueError.__new__" = true) (gC : X.mg x = some (.ref C)) (kC : PySem.W.keepIn X.K (.ref C) = true) (hs : PySem.W.subIn X.K (.ref C) (.type "BaseException") = some true) (ht : PySem.W.typeIn X.K (.ref C) = some (.type "type")) (hg : Gl X x)
    (hdb : (x == ("__debug__" : Str)) = false := by decide) : SS X B (.Raise (some (.Call (.Name x p) [.Constant (.str m) j p2] [] pos)) none pos') (raiseS c) :=
  ss_raise (W := fun cls d _ H => E cls d H) hcv (L2N.ps_raise hc tk (L2N.pmk_own PySem.F.excBase_ValueError q gC kC (raises_own hs ht) hg hdb)) fun _ _ h => hE ▸ h
/-! ### -x; a new list by + -/
def negD : D → Option D
  | .int i => some (.int (-i))
  | _ => none
def negE (fa : Env → M D) : Env → M D := fun env => seq (fa env) fun x => lift (negD x)
theorem se_neg {a : Expr} {pos : Pos} (ha : SE X B a fa) : SE X B (.UnaryOp .USub a pos) (negE fa) := by
  refine pe_weak (pe_un un_neg ha) fun σ H Q h => ?_
  obtain ⟨env, O, n, s, post⟩ := h
  refine tG_seq1 (g := fun env x => lift (negD x)) lat_E s post fun x vx n1 H1 s1 e1 p1 q1 => ?_
  obtain ⟨z, hz, k⟩ := lift_post q1
  cases p1 with
  | int i => cases hz; exact ⟨i, rfl, k _ H1 (Ext.refl _ _) s1.town (.int _)⟩
  | _ => cases hz
def catM : D → D → M (List D)
  | .list xs, .list ys => if xs.length + ys.length ≤ big then ret (xs ++ ys) else fault
  | _, _ => fault
def catN (fa fb : Env → M D) : Env → M (List D) := fun env => seq (fa env) fun x => seq (fb env) fun y => catM x y
theorem sn_cat {a b : Expr} {pos : Pos} (ha : SB X B a fa) (hb : SB X B b fb) : SN X B (.BinOp a .Add b pos) (catN fa fb) := by
  refine pe_weak (pe_op op_catR ha hb) fun σ H Q h => ?_
  obtain ⟨env, O, n, s, post⟩ := h
  refine tG_seq1 (g := fun env x => seq (fb env) fun y => catM x y) lat_N s post fun x vx n1 H1 s1 e1 p1 q1 => ?_
  refine tG_seq1 (g := fun env y => catM x y) lat_N s1 q1 fun y vy n2 H2 s2 e2 p2 q2 => ?_
  cases x with
  | list xs =>
    cases y with
    | list ys =>
      have q2 : Post B (pN B O) H2 ((if xs.length + ys.length ≤ big then ret (xs ++ ys) else fault) n2) Q := q2
      split at q2
      · rename_i hl
        obtain ⟨a, us, rfl, ra, rxs⟩ := (Brw.ext s2.tO e2 p1).list
        obtain ⟨b, ws, rfl, rb, rys⟩ := Brw.list p2
        refine ⟨a, b, us, ws, rfl, rfl, ra, rb, by rw [rxs.length, rys.length]; exact Nat.le_trans hl big_line, fun p hp => ?_⟩
        exact q2 _ _ (same_ext (same_new hp)) (same_town (same_new hp) s2.town) ⟨p, us ++ ws, rfl, hp, upd_same, Reps.step (step_add hp) _ _ (rxs.append rys)⟩
      · exact q2.elim
    | _ => exact q2.elim
  | _ => exact q2.elim
end
/-! ### what the top has left -/
theorem noCX {P : Program} {w : World} {H : Hp} {s : Shared} {e : Value} {s' : Shared} (h : L2N.CX P w [] H s (fun _ _ _ => False) e s') : False := by
  obtain ⟨_, _, _, _, _, _, _, _, _, _, _, _, z⟩ := h
  exact z
section
variable {K : PySem.W.Frag} {mg : Str → Option Value} {h : Heap} {R : Prop} {x qual : Str}
theorem def_use {st : Stmt} {ps : List Str} {f : Addr} {oc : Value} {od an : Option Addr} {osl : Array (Option Value)} {kV doc pm cdv ct : Value} (X : K.In h) (G : h.Ns mainGlobals mg) (a : PySem.W.nsIn K mainGlobals x = some (some (.ref f)))
    (l : K.lookup f = some ⟨oc, od, .func (PySem.W.fnOf x qual (defArgs st) (defBody st) (defScope st) .none kV doc pm an cdv ct), osl⟩) (c : PySem.W.codeIn K cdv qual = true) (k : PySem.W.keepIn K (.ref f) = true)
    (hb : ∀ (kV doc pm : Value) (an : Option Addr) (cdv ct : Value) (us : List Value), us.length = ps.length → bindArgs (PySem.W.fnOf x qual (defArgs st) (defBody st) (defScope st) .none kV doc pm an cdv ct) ⟨us, []⟩ = pure (ps.zip us))
    (n : ∀ f fd, mg x = some (.ref f) → Fun K x qual st f fd → Binds K fd ps [] → R) : R := n f _ (PySem.W.mg_of X G a) (fun_mk (st := st) l c k) ((fun_mk (st := st) l c k).binds hb)
theorem law_use {st : Stmt} {f : Addr} {oc : Value} {od an : Option Addr} {osl : Array (Option Value)} {kV doc pm cdv ct : Value} (X : K.In h) (G : h.Ns mainGlobals mg) (a : PySem.W.nsIn K mainGlobals "law" = some (some (.ref f)))
    (l : K.lookup f = some ⟨oc, od, .func (PySem.W.fnOf "law" "law" (defArgs st) (defBody st) (defScope st) .none kV doc pm an cdv ct), osl⟩) (c : PySem.W.codeIn K cdv "law" = true) (k : PySem.W.keepIn K (.ref f) = true)
    (hb : ∀ (kV doc pm : Value) (an : Option Addr) (cdv ct : Value) (us : List Value), us.length = 1 → bindArgs (PySem.W.fnOf "law" "law" (defArgs st) (defBody st) (defScope st) .none kV doc pm an cdv ct) ⟨us, []⟩ = pure (([("script" : Str)] : List Str).zip us))
    (n : ∀ f fd, mg "law" = some (.ref f) → Fun K "law" "law" st f fd → Binds K fd ["script"] [] → (∀ (s : Shared) (u : Value), BindsTo s fd ⟨[u], []⟩ [("script", u)]) → R) : R :=
  n f _ (PySem.W.mg_of X G a) (fun_mk (st := st) l c k) ((fun_mk (st := st) l c k).binds hb) (fun s u => .of_eq (hb _ _ _ _ _ _ [u] rfl))
theorem tup_use {a : Addr} {its : Array Value} {m : Nat} {sl : Array (Option Value)} {xs : List V} (X : K.In h) (G : h.Ns mainGlobals mg) (ha : PySem.W.nsIn K mainGlobals x = some (some (.ref a))) (l : K.lookup a = some ⟨.type "tuple", none, .seq its m, sl⟩) (z : its.size ≤ 1000) (v : Vals xs its.toList)
    (n : ∀ a, mg x = some (.ref a) → KT K a xs → R) : R := n a (PySem.W.mg_of X G ha) ⟨_, its, m, l, rfl, rfl, rfl, Nat.le_trans z (by decide), v⟩
theorem exc_use {C : Addr} (X : K.In h) (G : h.Ns mainGlobals mg) (a : PySem.W.nsIn K mainGlobals x = some (some (.ref C))) (q : PySem.W.excIn K C [.type "ValueError", .type "Exception", .type "BaseException", .type "object"] "ValueError.__new__" = true) (k : PySem.W.keepIn K (.ref C) = true) (s : PySem.W.subIn K (.ref C) (.type "BaseException") = some true) (t : PySem.W.typeIn K (.ref C) = some (.type "type"))
    (n : ∀ C, mg x = some (.ref C) → PySem.W.excIn K C [.type "ValueError", .type "Exception", .type "BaseException", .type "object"] "ValueError.__new__" = true → PySem.W.keepIn K (.ref C) = true → PySem.W.subIn K (.ref C) (.type "BaseException") = some true → PySem.W.typeIn K (.ref C) = some (.type "type") → R) : R := n C (PySem.W.mg_of X G a) q k s t
theorem none_use (X : K.In h) (G : h.Ns mainGlobals mg) (a : PySem.W.nsIn K mainGlobals x = some none) (n : mg x = none → R) : R := n (PySem.W.mg_none_of X G a)
theorem int_use {i : Int} {t : Tok} (X : K.In h) (G : h.Ns mainGlobals mg) (a : PySem.W.nsIn K mainGlobals x = some (some (.int i t))) (n : (∃ t, mg x = some (.int i t)) → R) : R := n ⟨t, PySem.W.mg_of X G a⟩
theorem str_use {z : Str} {t : Tok} (X : K.In h) (G : h.Ns mainGlobals mg) (a : PySem.W.nsIn K mainGlobals x = some (some (.str z t))) (n : (∃ t, mg x = some (.str z t)) → R) : R := n ⟨t, PySem.W.mg_of X G a⟩
end
end Sim

/-! except WireError as e: return _law_which(e) -/
namespace Sim
open PySem PySem.Spec L2

/-! ### isinstance(e, C), e the caught error, in a def that the suite calls -/
def exK {α : Type} (k : Addr → M α) : Option (Option SV) → M α
  | some (some (.ex a)) => k a
  | _ => fault
theorem ex_post {α : Type} {k : Addr → M α} {o : Option (Option SV)} {n : Sta} {P : R α → Prop} (hb : P .bad → False) (h : P (exK k o n)) : ∃ a, o = some (some (.ex a)) ∧ P (k a n) := by
  rcases o with _ | _ | x | xs | _ | ns | a | _ | _ | _ | _ <;> first | exact (hb h).elim | skip
  exact ⟨a, rfl, h⟩
def isX (a0 : Addr) (i : Nat) (b : Bool) : Env → M D := fun env => exK (fun a => if a = a0 then ret (.bool b) else fault) env[i]?
theorem isX_0 (a : Addr) (b : Bool) (env : Env) : isX a 0 b (some (.ex a) :: env) = ret (.bool b) := by
  show (if a = a then ret (PyData.bool b) else fault) = _
  rw [if_pos rfl]
section
variable {X : Cx} {B : Bd}
theorem call_isX {a D : Addr} {oe : Obj} (C : ExcC X.K D) (hp : (a, oe) ∈ X.pn) (hz : Zc (.ref D) none oe) (hf : ∃ ws, oe.data = .fields ws) : CallR X (.builtin "isinstance") (rIsE X.K D a) := by
  intro pl t σ G ys zs Q J rr hh
  obtain ⟨cc, cval, yes, rfl, hval, kit, fin⟩ := hh
  obtain ⟨z1, z2, rfl, q1, q2⟩ := vals2 rr
  cases (show z1 = Value.ref a from q1)
  cases hval _ q2
  have gt := (J.pin (a, oe) (List.mem_append_left _ hp)).1
  obtain ⟨ws, hw⟩ := hf
  have at_ : PySem.W.InstAt t.heap a oe D none := by
    obtain ⟨c1, c2, c3, c4⟩ := oe
    obtain ⟨k1, k2⟩ := hz
    simp only at k1 k2 hw
    subst k1 k2 hw
    exact ⟨gt, rfl, rfl, trivial⟩
  exact PySem.W.kia_one (PySem.W.handS_kitx_exc C.hg C.hk C.hs C.hd C.ha C.hn C.ht C.hm) J.kIn at_ kit (fun z => nomatch z) fun tk => ⟨.bl yes, G, J.kept (t' := tk) fun _ _ z => z, rfl, fin⟩
theorem se_isX {i : Nat} {a D : Addr} {b : Bool} {x : Str} {cE : Expr} {c : V} {cv : Value} {p p2 pos : Pos} (hc : CallR X (.builtin "isinstance") (rIsE X.K D a)) (pv0 : PE X (.Name x p) (tVar i)) (pc : PE X cE (tC c)) (hcv : ∀ u, RelV c u → u = cv) (hk : PySem.W.kitOne X.K (.ref D) cv = some b)
    (hg : Gl X "isinstance") (hm : X.mg "isinstance" = none) (h1 : starEach [.Name x p, cE] X.env = (false, eval (.Name x p) X.env) :: starEach [cE] X.env := by rfl) (h2 : starEach [cE] X.env = (false, eval cE X.env) :: starEach [] X.env := by rfl) (hpl : (backTo pos (starEach [cE] X.env)).any (·.1) = false := by rfl) :
    SE X B (.Call (.Name "isinstance" p2) [.Name x p, cE] [] pos) (isX a i b) := by
  refine pe_weak (pe_callB hc hg hm (by decide +kernel) (pa_cons pv0 (pa_cons pc pa_nil h2) h1) (by decide) (by decide) h1 hpl) fun σ H Q h => ?_
  obtain ⟨env, O, n, s, post⟩ := h
  obtain ⟨a', he, post⟩ := ex_post (P := fun r => Post B (pE B O) H r Q) (fun z => z) post
  by_cases ea : a' = a
  · subst ea
    simp only [if_true] at post
    obtain ⟨v, hσ, rfl⟩ := s.slot i _ he
    exact ⟨_, hσ, c, cv, b, rfl, hcv, hk, post _ H (Ext.refl _ _) s.town (.bl b)⟩
  · simp only [if_neg ea] at post
    exact post.elim
end
/-! ### a def that the suite calls -/
structure FnW (P : Program) (w : World) (K : PySem.W.Frag) (mg : Str → Option Value) (base : Heap) (k : Nat) (f : Addr) (fd : FuncData) (ps : List Str) (sp : Addr × Obj → Sp) : Prop where
  len : ∀ p vs H Q E, sp p vs H Q E → vs.length = ps.length
  run : ∀ (A : Around) (outer : List PySem.Env) (s : Shared) (H : Hp) (args : Args) (us : List Value) (vs : List V) (Q : VK) (E : XK) (p : Addr × Obj), L2H.RoomH k A → L2H.Hot1 A p → L2H.PinOk outer H s p → Env0 P w K mg base A outer s H →
    BindsTo s fd args (ps.zip us) → Vals vs us → sp p vs H Q E → codeAny (model P w) A (.call (.ref f) args) (CR (L2N.CX P w) outer P w H s Q E) s
section
variable {P : Program} {w : World} {K : PySem.W.Frag} {mg : Str → Option Value} {base : Heap}
theorem fnw_of {k : Nat} {f : Addr} {name qual : Str} {params : Arguments} {body : List Stmt} {scope : Scope} {dV kV doc pm cdv ct oc : Value} {an od : Option Addr} {osl : Array (Option Value)} {N ps : List Str} {sp : Addr × Obj → Sp}
    (lk : K.lookup f = some ⟨oc, od, .func (PySem.W.fnOf name qual params body scope dV kV doc pm an cdv ct), osl⟩) (hcd : PySem.W.codeIn K cdv qual = true) (S : FnScope N ps scope) (len : ∀ p vs H Q E, sp p vs H Q E → vs.length = ps.length)
    (hbody : ∀ (A : Around) (outer : List PySem.Env) (s : Shared) (H : Hp) (vs : List V) (Q : VK) (E : XK) (p : Addr × Obj), L2H.RoomH k (A.deeper (PyProof.Rows.envOfC qual scope s.heap.objs.size f cdv)) → sp p vs H Q E →
      ∃ t, PSs (L2H.cxH (L2N.CX P w) P w K mg base N qual scope f cdv A outer s H E p) body t ∧ t { nx := fun _ H' => Q .non H', rt := Q } (L2.start N vs) H) :
    FnW P w K mg base (k + 1) f (PySem.W.fnOf name qual params body scope dV kV doc pm an cdv ct) ps sp := by
  refine ⟨len, fun A outer s0 H args us vs Q E p room _hot pin env0 binds rel hsp => ?_⟩
  have keep0 : ∀ b o, base.get? b = some o → s0.heap.get? b = some o := fun b o e => (env0.bs b o e).1
  have kin : K.In s0.heap := env0.mod.kin.keeps keep0
  have kinds : ∀ y ∈ ps.zip us, scope.names.lookup y.1 = some .local ∨ (scope.names.lookup y.1 = some .cell ∧ ((cellsFrom (s0.heap.objs.size + 1) scope.names []).lookup y.1).isSome = true) := by
    rintro ⟨n1, v1⟩ hy
    have hn1 := (List.of_mem_zip hy).1
    exact (S.par n1 hn1).imp id fun q => ⟨q, PySem.W.cellsFrom_some _ _ _ (.inl q)⟩
  refine codeAny_call_function room.depth (kin _ _ lk) rfl S.co S.gen rfl (PySem.W.codeRec_of kin hcd) (binds _ _ _ _ (wpAny_newFunctionEnv_cells S.kind kinds ?_))
  rintro env1 rfl s1 x1
  refine ⟨(env0.mod.nolimit.keeps keep0).keeps x1.toInCall.keep, codeAny_func ?_⟩
  obtain ⟨t, ht, hq⟩ := hbody A outer s0 H vs Q E p (room.deeper _) hsp
  refine wpAny_mono (ht.run [] s1 (L2.start N vs) H _ (L2H.inv_startH S pin env0 (len _ _ _ _ _ hsp) rel x1) hq) (fun fl s2 done => ?_) fun _ _ z => z
  match fl, done with
  | .ret u, ⟨v, σ', H', J, rv, q⟩ => exact ⟨v, H', J.os, J.bare, J.base, J.hok, rv, q⟩
  | .next, ⟨σ', H', J, q⟩ => exact ⟨V.non, H', J.os, J.bare, J.base, J.hok, rfl, q⟩
  | .brk, ⟨_, _, _, q⟩ => exact q.elim
  | .cont, ⟨_, _, _, q⟩ => exact q.elim
end
section
variable {X : Cx} {k : Nat} {f : Addr} {fd : FuncData} {ps : List Str} {sp : Addr × Obj → Sp} {x : Str} {q pos : Pos} {e : Expr} {es : List Expr} {t : TA}
theorem pe_callW {p : Addr × Obj} (F : FnW X.prog X.w X.K X.mg X.base k f fd ps sp) (room : L2H.RoomH k X.A) (hot : L2H.Hot1 X.A p) (hp : p ∈ X.pn) (hg : Gl X x) (hm : X.mg x = some (.ref f)) (hk : PySem.W.keepIn X.K (.ref f) = true) (hb : Binds X.K fd ps [])
    (ha : PA X (e :: es) t) (hdb : (x == ("__debug__" : Str)) = false := by decide) (he : starEach (e :: es) X.env = (false, eval e X.env) :: starEach es X.env := by rfl) (hpl : (backTo pos (starEach es X.env)).any (·.1) = false := by rfl) :
    PE X (.Call (.Name x q) (e :: es) [] pos) (fun σ H Q => t σ H fun vs H1 => sp p vs H1 Q fun _ _ _ => False) := by
  refine ⟨fun pl s0 σ H Q J h => wpAny_Call_Name_kw (ld_glob J hg hm ?_ hdb)⟩
  refine PySem.W.callWith_K (h₀ := X.base) J.ok.mod.kin hk (thn (ha.run pos pl s0 σ H _ J h) ?_) he hpl
  rintro us s1 ⟨vs, H1, J1, rel, hsp⟩
  refine ⟨J1.kIn, ?_⟩
  have hlen : (us ++ []).length = ps.length := by rw [List.append_nil, ← rel.length]; exact F.len _ _ _ _ _ hsp
  have b1 := hb s1 us J1.kIn hlen
  rw [List.append_nil] at b1
  obtain ⟨p1, p2, p3, p4, p5⟩ := J1.pin p (List.mem_append_left _ hp)
  have pin : L2H.PinOk X.stack H1 s1 p := ⟨p1, p2, fun z => (List.mem_cons.mp (J1.stkSub p.1 z)).elim p3 p4, p5⟩
  refine wpAny_call (codeAny_mono (F.run X.A X.stack s1 H1 ⟨us, []⟩ us vs Q _ p room hot pin J1.env0 b1 rel hsp) fun res s2 got => ?_)
  match res, got with
  | .error e', z => obtain ⟨_, _, _, _, _, _, _, _, _, _, _, _, no⟩ := z; exact no.elim
  | .ok (.ret u), z => exact J1.after z
  | .ok .next, z => exact z.elim
  | .ok .brk, z => exact z.elim
  | .ok .cont, z => exact z.elim
end
/-! ### the clause -/
def spW (K : PySem.W.Frag) (cv : Nat → Value) (N : Nat) (g : Addr → Nat → Env → M Fl) : Addr × Obj → Sp := fun p vs H Q E => ∃ c, c < 12 ∧ L2N.Zn (cv c) none p.2 ∧ (∃ ws, p.2.data = .fields ws) ∧ SpF K cv 1 (runF N (g p.1 c)) vs H Q E
theorem fnw_sim {P : Program} {w : World} {K : PySem.W.Frag} {mg : Str → Option Value} {base : Heap} {cv : Nat → Value} {x qual : Str} {st : Stmt} {f : Addr} {fd : FuncData} {N : List Str} {k : Nat} {g : Addr → Nat → Env → M Fl} {sc : Scope} (F : Fun K x qual st f fd) (hsc : defScope st = sc) (S : FnScope N ["e"] sc)
    (hbody : ∀ (cdv : Value) (A : Around) (outer : List PySem.Env) (s : Shared) (H : Hp) (E : XK) (p : Addr × Obj) (c : Nat) (B : Bd), c < 12 → L2N.Zn (cv c) none p.2 → (∃ ws, p.2.data = .fields ws) → B.K = K → B.cv = cv → B.E = E → L2H.RoomH k (A.deeper (PyProof.Rows.envOfC qual sc s.heap.objs.size f cdv)) →
      SSs (L2H.cxH (L2N.CX P w) P w K mg base N qual sc f cdv A outer s H E p) B (defBody st) (g p.1 c)) : FnW P w K mg base (k + 1) f fd ["e"] (spW K cv N.length g) := by
  subst hsc
  obtain ⟨oc, od, kV, doc, pm, an, cdv, ct, osl, rfl, lk, hcd⟩ := F.ex
  refine fnw_of lk hcd S (fun p vs H Q E h => ?_) fun A outer s H vs Q E p hr hsp => ?_
  · obtain ⟨c, _, _, _, h⟩ := h; exact h.1
  · obtain ⟨c, hc, hz, hd, hl, T, O, n, as, dom, tw, tO, ha, post⟩ := hsp
    exact ⟨_, hbody cdv A outer s H E p c ⟨K, H, O, T, E, cv⟩ hc hz hd rfl rfl rfl hr, startE N.length as, O, n, start_sim dom tw tO ha, body_post post⟩
def refused (c : Nat) : D := .tuple [.str "refused", .int c]
def tryS (g : Env → M Fl) : Env → M Fl := fun env n => match g env n with
  | .exc c m => if c < 12 then .ok (.ret (refused c)) m else .bad
  | .ok a m => .ok a m
  | .bad => .bad
section
variable {X : Cx} {B : Bd}
/-- what the suite wants -/
def tWhich (X : Cx) (B : Bd) (i : Nat) : Addr → Value → Option Addr → TS := fun a cls d De σ H => σ.length = X.N.length → ∃ c n, c < 12 ∧ cls = B.cv c ∧ d = none ∧ σ[i]? = some (some (.ref a)) ∧ Ext B.T B.H0 H ∧ Town B.T H n ∧ ∀ v H', Ext B.T B.H0 H' → Town B.T H' n → Rep B.K H' B.O0 v (refused c) → De.rt v H'
theorem ss_try {x n wh : Str} {cW f : Addr} {fd : FuncData} {i k N : Nat} {body : List Stmt} {np pos pos' q p1 p2 p3 : Pos} {g : Env → M Fl} {gw : Addr → Nat → Env → M Fl} {Wout : WX} {cv : Nat → Value}
    (hs : X.stack = X.env :: X.outer) (hf : X.env.frame = some X.env.locals) (hN : X.N.Nodup) (hi : X.N[i]? = some n) (hln : X.env.kindOf n = some .local) (hc : Names X x (.ref cW)) (tk : L2N.Takes X Wout) (hO : ∀ a, B.O0 a → NF B.H0 a) (hT : (∀ a, B.T.has a → B.O0 a) ∧ B.T.Fit B.K B.cv) (hK : B.K = X.K) (hcv : B.cv = cv)
    (hex : ∀ c, c < 12 → PySem.W.exmOne X.K (cv c) (.ref cW) = some true) (F : FnW X.prog X.w X.K X.mg X.base k f fd ["e"] (spW X.K cv N gw)) (hgw : ∀ a c, c < 12 → runF N (gw a c) [.ex a] = ret (refused c)) (room : Room k X.A) (hg : Gl X wh) (hm : X.mg wh = some (.ref f)) (hk : PySem.W.keepIn X.K (.ref f) = true) (hb : Binds X.K fd ["e"] [])
    (pv0 : ∀ a pn, PE (X.suite a pn) (.Name n p1) (tVar i))
    (hbody : ∀ (W : WX) (pn : List (Addr × Obj)) (xe : Value → Shared → Prop) (B' : Bd), B'.K = X.K → B'.cv = cv → B'.E = (fun cls d H => ∀ σ, W cls d σ H) → L2N.Takes (X.tr pn xe) W → PassesOwn (model X.prog X.w) X.A X.env xe → SSs (X.tr pn xe) B' body g)
    (hdb : (wh == ("__debug__" : Str)) = false := by decide) (he : ∀ a pn, starEach [.Name n p1] (X.suite a pn).env = (false, eval (.Name n p1) (X.suite a pn).env) :: starEach [] (X.suite a pn).env := by intro _ _; rfl) (hpl : ∀ a pn, (backTo p2 (starEach [] (X.suite a pn).env)).any (·.1) = false := by intro _ _; rfl) :
    SS X B (.Try body [.ExceptHandler (some (.Name x np)) (some n) [.Return (some (.Call (.Name wh q) [.Name n p1] [] p2)) p3] pos'] [] [] pos) (tryS g) := by
  subst hcv
  refine ps_weak (L2N.ps_try_as (tb := fun W De σ H => tS { B with E := fun cls d H => ∀ σ, W cls d σ H } g De σ H) (ts := tWhich X B i) hs hf hN hi hln hc tk ?_ ?_) ?_
  · intro W pn xe tk' po
    exact hbody W pn xe _ hK rfl rfl tk' po
  · intro a oe cls d pn hz hd
    have hot : L2H.Hot1 (X.suite a ((a, oe) :: pn)).A (a, oe) := by
      obtain ⟨ws, hw⟩ := hd
      exact ⟨rfl, ws, hw, hz.2.2 ws hw⟩
    have call := pe_callW (X := X.suite a ((a, oe) :: pn)) (p := (a, oe)) (x := wh) (q := q) (pos := p2) F (L2H.roomH_of (k := k) ⟨room.hd, room.dp, room.un⟩ |> fun r => ⟨r.dp, r.un⟩) hot List.mem_cons_self hg hm hk hb (pa_cons (pv0 a _) pa_nil (he a _)) hdb (he a _) (hpl a _)
    refine ⟨fun pins s σ H De J h => ?_⟩
    refine (pss_one (ps_ret (pos := p3) call)).run pins s σ H De J ?_
    obtain ⟨c, m, c12, rfl, rfl, hσ, ex, tw, q⟩ := h J.len
    refine ⟨_, hσ, ?_⟩
    refine ⟨c, c12, hz, hd, rfl, B.T, B.O0, m, [.ex a], dom_ext ex tw hO, tw, hK ▸ hT, .cons rfl .nil, ?_⟩
    · rw [hgw a c c12]
      intro v H' ex' tw' r
      have r : Rep X.K H' B.O0 v (refused c) := r
      rw [← hK] at r
      exact q v H' (ex.trans ex') tw' r
  · rintro De σ H ⟨env, O, m, s, post⟩
    refine ⟨env, O, m, ⟨s.len, s.slot, s.sep, s.dom, s.town, s.tO, s.fr1, s.fr2, s.fr3, s.tK, s.tC⟩, ?_⟩
    have post : SPost B De O H (tryS g env m) := post
    unfold tryS at post
    cases r : g env m with
    | ok fl m' =>
      rw [r] at post
      cases fl with
      | next env' => exact fun σ' O' H' s' st => post σ' O' H' ⟨s'.len, s'.slot, s'.sep, s'.dom, s'.town, s'.tO, s'.fr1, s'.fr2, s'.fr3, s'.tK, s'.tC⟩ st
      | brk env' => exact fun σ' O' H' s' st => post σ' O' H' ⟨s'.len, s'.slot, s'.sep, s'.dom, s'.town, s'.tO, s'.fr1, s'.fr2, s'.fr3, s'.tK, s'.tC⟩ st
      | cont env' => exact fun σ' O' H' s' st => post σ' O' H' ⟨s'.len, s'.slot, s'.sep, s'.dom, s'.town, s'.tO, s'.fr1, s'.fr2, s'.fr3, s'.tK, s'.tC⟩ st
      | ret d => exact post
      | rn xs => exact post
      | rd xs => exact post
    | exc c m' =>
      rw [r] at post
      by_cases c12 : c < 12
      · simp only [if_pos c12] at post
        intro H' ex tw σ'
        refine ⟨true, hex c c12, fun _ a ha hl => ?_, fun z => nomatch z⟩
        refine ⟨c, m', c12, rfl, rfl, ?_, ex, tw, post⟩
        rw [List.getElem?_set_self]
        rw [List.length_set] at hl
        rw [hl]
        exact (List.getElem?_eq_some_iff.mp hi).1
      · simp only [if_neg c12] at post
        exact post.elim
    | bad => rw [r] at post; exact post.elim
end
/-! ### the classes -/
structure Ex1 (K : PySem.W.Frag) (cW C : Addr) : Prop where
  f1 : PySem.W.findIn K (.ref C) "__getattribute__" = some (some (.builtin "BaseException.__getattribute__"))
  f2 : PySem.W.findIn K (.ref C) "__getattr__" = some none
  f3 : PySem.W.findIn K (.ref C) "__class__" = some (some (.builtin "object.__class__"))
  hd : PySem.W.hasDictIn K C = true
  ty : PySem.W.typeIn K (.ref C) = some (.type "type")
  cl : ∃ cd, PySem.W.clsIn K C = some cd ∧ cd.mro = [.ref C, .ref cW, .type "ValueError", .type "Exception", .type "BaseException", .type "object"]
theorem Ex1.mro {K : PySem.W.Frag} {cW C : Addr} (h : Ex1 K cW C) (b : Value) : PySem.W.subIn K (.ref C) b = some ([Value.ref C, .ref cW, .type "ValueError", .type "Exception", .type "BaseException", .type "object"].contains b) := by
  obtain ⟨cd, e, m⟩ := h.cl
  show PySem.W.mroIn K C b = _
  unfold PySem.W.mroIn
  rw [e]
  show (if cd.mro.isEmpty then none else some (cd.mro.contains b)) = _
  rw [m]; rfl
theorem contains_mem {b : Value} {l : List Value} (h : b ∈ l) : l.contains b = true := by simpa using h
theorem contains_not {b : Value} {l : List Value} (h : b ∉ l) : l.contains b = false := by simpa using h
structure ExcT (K : PySem.W.Frag) (cl : Nat → Addr) (cW : Addr) : Prop where
  ec : ∀ c, c < 12 → ExcC K (cl c)
  kit : ∀ c j, c < 12 → j < 12 → PySem.W.kitOne K (.ref (cl c)) (.ref (cl j)) = some (decide (c = j))
  ve : ∀ c, c < 12 → PySem.W.kitOne K (.ref (cl c)) (.type "ValueError") = some true
  ex : ∀ c, c < 12 → PySem.W.exmOne K (.ref (cl c)) (.ref cW) = some true
theorem exct_mk {K : PySem.W.Frag} {cl : Nat → Addr} {cW : Addr} (h : ∀ c, c < 12 → Ex1 K cW (cl c)) (inj : ∀ c j, c < 12 → j < 12 → cl c = cl j → c = j) (nW : ∀ c, c < 12 → cl c ≠ cW) (hn : PySem.W.specialIn K (.builtin "object.__class__") "__get__" = some (some (.builtin "getset_descriptor.__get__"))) (ht : PySem.W.takesIn K (.builtin "object.__class__") = some true)
    (sW : PySem.W.subIn K (.ref cW) (.type "BaseException") = some true) (dW : PySem.W.hasDictIn K cW = true) (tW : PySem.W.typeIn K (.ref cW) = some (.type "type")) : ExcT K cl cW := by
  refine ⟨fun c hc => ?_, fun c j hc hj => ?_, fun c hc => ?_, fun c hc => ?_⟩
  · have q := h c hc
    refine ⟨q.f1, q.f2, ?_, q.hd, q.f3, hn, ht, ?_⟩
    · rw [q.mro]; exact congrArg some (contains_mem (by simp))
    · have := q.mro (.type "object")
      rw [contains_mem (by simp)] at this
      exact this
  · unfold PySem.W.kitOne
    by_cases e : c = j
    · subst e
      rw [if_pos (beq_self_eq_true _), decide_eq_true rfl]
    · have ne : cl c ≠ cl j := fun z => e (inj c j hc hj z)
      rw [if_neg (by simpa using ne), decide_eq_false e]
      obtain ⟨cd, e1, _⟩ := (h j hj).cl
      show (if ((PySem.W.clsIn K (cl j)).isSome && PySem.W.typeIn K (.ref (cl j)) == some (.type "type")) = true then PySem.W.subIn K (.ref (cl c)) (.ref (cl j)) else none) = _
      rw [e1, (h j hj).ty, if_pos (by simp), (h c hc).mro]
      refine congrArg some (contains_not ?_)
      simp only [List.mem_cons, List.not_mem_nil, or_false, not_or, Value.ref.injEq, reduceCtorEq, not_false_eq_true, and_true]
      exact ⟨fun z => ne z.symm, nW j hj⟩
  · unfold PySem.W.kitOne
    rw [if_neg (by simp)]
    show (if PySem.W.kitMeta "ValueError" = true then PySem.W.subIn K (.ref (cl c)) (.type "ValueError") else none) = _
    rw [if_pos (by decide +kernel), (h c hc).mro]
    exact congrArg some (contains_mem (by simp))
  · refine PySem.W.exm_ref sW dW tW ?_
    rw [(h c hc).mro]
    exact congrArg some (contains_mem (by simp))
theorem exct_dflt {K : PySem.W.Frag} {l : List Addr} {cW z : Addr} (et : ExcT K (fun c => l.getD c 0) cW) (h : ∀ c, c < 12 → c < l.length) : ExcT K (fun c => l.getD c z) cW := by
  have e : ∀ c, c < 12 → l.getD c z = l.getD c 0 := fun c hc => by rw [List.getD_eq_getElem?_getD, List.getD_eq_getElem?_getD, List.getElem?_eq_getElem (h c hc)]; rfl
  refine ⟨fun c hc => ?_, fun c j hc hj => ?_, fun c hc => ?_, fun c hc => ?_⟩
  · show ExcC K (l.getD c z); rw [e c hc]; exact et.ec c hc
  · show PySem.W.kitOne K (.ref (l.getD c z)) (.ref (l.getD j z)) = _; rw [e c hc, e j hj]; exact et.kit c j hc hj
  · show PySem.W.kitOne K (.ref (l.getD c z)) _ = _; rw [e c hc]; exact et.ve c hc
  · show PySem.W.exmOne K (.ref (l.getD c z)) _ = _; rw [e c hc]; exact et.ex c hc
def apart12 (cs : List Addr) (cW : Addr) : Bool := (List.range 12).all fun i => !(cs.getD i 0 == cW) && (List.range 12).all fun j => (cs.getD i 0 == cs.getD j 0) == (i == j)
theorem ex1_use {K : PySem.W.Frag} {mg : Str → Option Value} {R : Prop} {x : Str} {C cW : Addr} {cd : ClassData} (_ : mg x = some (.ref C)) (_ : mg "WireError" = some (.ref cW)) (ty : PySem.W.typeIn K (.ref C) = some (.type "type")) (f1 : PySem.W.findIn K (.ref C) "__getattribute__" = some (some (.builtin "BaseException.__getattribute__"))) (f2 : PySem.W.findIn K (.ref C) "__getattr__" = some none)
    (f3 : PySem.W.findIn K (.ref C) "__class__" = some (some (.builtin "object.__class__"))) (hd : PySem.W.hasDictIn K C = true) (e : PySem.W.clsIn K C = some cd) (m : cd.mro = [.ref C, .ref cW, .type "ValueError", .type "Exception", .type "BaseException", .type "object"]) (n : Ex1 K cW C → R) : R := n ⟨f1, f2, f3, hd, ty, cd, e, m⟩
theorem wire_use {K : PySem.W.Frag} {mg : Str → Option Value} {h : Heap} {R : Prop} {cW : Addr} (X : K.In h) (G : h.Ns mainGlobals mg) (a : PySem.W.nsIn K mainGlobals "WireError" = some (some (.ref cW))) (hn : PySem.W.specialIn K (.builtin "object.__class__") "__get__" = some (some (.builtin "getset_descriptor.__get__"))) (ht : PySem.W.takesIn K (.builtin "object.__class__") = some true)
    (sW : PySem.W.subIn K (.ref cW) (.type "BaseException") = some true) (dW : PySem.W.hasDictIn K cW = true) (tW : PySem.W.typeIn K (.ref cW) = some (.type "type"))
    (n : mg "WireError" = some (.ref cW) → PySem.W.specialIn K (.builtin "object.__class__") "__get__" = some (some (.builtin "getset_descriptor.__get__")) → PySem.W.takesIn K (.builtin "object.__class__") = some true → PySem.W.subIn K (.ref cW) (.type "BaseException") = some true → PySem.W.hasDictIn K cW = true → PySem.W.typeIn K (.ref cW) = some (.type "type") → R) : R := n (PySem.W.mg_of X G a) hn ht sW dW tW
theorem excs_all {K : PySem.W.Frag} {C0 C1 C2 C3 C4 C5 C6 C7 C8 C9 C10 C11 cW : Addr} (h0 : Ex1 K cW C0) (h1 : Ex1 K cW C1) (h2 : Ex1 K cW C2) (h3 : Ex1 K cW C3) (h4 : Ex1 K cW C4) (h5 : Ex1 K cW C5) (h6 : Ex1 K cW C6) (h7 : Ex1 K cW C7) (h8 : Ex1 K cW C8) (h9 : Ex1 K cW C9) (h10 : Ex1 K cW C10) (h11 : Ex1 K cW C11)
    (ap : apart12 [C0, C1, C2, C3, C4, C5, C6, C7, C8, C9, C10, C11] cW = true) (hn : PySem.W.specialIn K (.builtin "object.__class__") "__get__" = some (some (.builtin "getset_descriptor.__get__"))) (ht : PySem.W.takesIn K (.builtin "object.__class__") = some true) (sW : PySem.W.subIn K (.ref cW) (.type "BaseException") = some true) (dW : PySem.W.hasDictIn K cW = true) (tW : PySem.W.typeIn K (.ref cW) = some (.type "type")) : ExcT K (fun c => [C0, C1, C2, C3, C4, C5, C6, C7, C8, C9, C10, C11].getD c 0) cW := by
  unfold apart12 at ap
  simp only [List.all_eq_true, List.mem_range, Bool.and_eq_true, Bool.not_eq_true', beq_eq_false_iff_ne, beq_iff_eq] at ap
  refine exct_mk (fun c hc => ?_) (fun c j hc hj e => ?_) (fun c hc => (ap c hc).1) hn ht sW dW tW
  · match c, hc with
    | 0, _ => exact h0
    | 1, _ => exact h1
    | 2, _ => exact h2
    | 3, _ => exact h3
    | 4, _ => exact h4
    | 5, _ => exact h5
    | 6, _ => exact h6
    | 7, _ => exact h7
    | 8, _ => exact h8
    | 9, _ => exact h9
    | 10, _ => exact h10
    | 11, _ => exact h11
  · have q := (ap c hc).2 j hj
    rw [show ([C0, C1, C2, C3, C4, C5, C6, C7, C8, C9, C10, C11].getD c 0 == [C0, C1, C2, C3, C4, C5, C6, C7, C8, C9, C10, C11].getD j 0) = true from beq_iff_eq.mpr e] at q
    exact beq_iff_eq.mp q.symm
theorem exc_usec {K : PySem.W.Frag} {mg : Str → Option Value} {h : Heap} {R : Prop} {x : Str} {C : Addr} (X : K.In h) (G : h.Ns mainGlobals mg) (a : PySem.W.nsIn K mainGlobals x = some (some (.ref C))) (q : PySem.W.excIn K C [.type "ValueError", .type "Exception", .type "BaseException", .type "object"] "ValueError.__new__" = true) (k : PySem.W.keepIn K (.ref C) = true) (s : PySem.W.subIn K (.ref C) (.type "BaseException") = some true) (t : PySem.W.typeIn K (.ref C) = some (.type "type"))
    (n : mg x = some (.ref C) → PySem.W.excIn K C [.type "ValueError", .type "Exception", .type "BaseException", .type "object"] "ValueError.__new__" = true → PySem.W.keepIn K (.ref C) = true → PySem.W.subIn K (.ref C) (.type "BaseException") = some true → PySem.W.typeIn K (.ref C) = some (.type "type") → R) : R := n (PySem.W.mg_of X G a) q k s t
theorem _root_.L2H.RoomH.units {k : Nat} {A : Around} (r : L2H.RoomH k A) : A.units + 64 < cLine := by have := r.un; omega
/-! ### a def with the clause -/
theorem fn_simT {P : Program} {w : World} {K : PySem.W.Frag} {mg : Str → Option Value} {base : Heap} {cv : Nat → Value} {x qual : Str} {st : Stmt} {f : Addr} {fd : FuncData} {N ps : List Str} {k : Nat} {g : Env → M Fl} {sc : Scope} (F : Fun K x qual st f fd) (hsc : defScope st = sc) (S : FnScope N ps sc)
    (hbody : ∀ (cdv : Value) (A : Around) (outer : List PySem.Env) (s : Shared) (H : Hp) (E : XK) (B : Bd), B.K = K → B.cv = cv → B.E = E → (∀ a, B.O0 a → NF B.H0 a) → ((∀ a, B.T.has a → B.O0 a) ∧ B.T.Fit B.K B.cv) → Room k (A.deeper (PyProof.Rows.envOfC qual sc s.heap.objs.size f cdv)) →
      SSs (cxOf (L2N.CX P w) P w K mg base N qual sc f cdv A outer s H E) B (defBody st) g) : FnOk P w K mg base (L2N.CX P w) (k + 1) f fd ps (SpF K cv ps.length (runF N.length g)) := by
  subst hsc
  obtain ⟨oc, od, kV, doc, pm, an, cdv, ct, osl, rfl, lk, hcd⟩ := F.ex
  refine fn_of lk hcd S (fun vs H Q E h => h.1) fun A outer s H vs Q E hr hsp => ?_
  obtain ⟨hl, T, O, n, as, dom, tw, tO, ha, post⟩ := hsp
  refine ⟨_, hbody cdv A outer s H E ⟨K, H, O, T, E, cv⟩ rfl rfl rfl dom tO hr, startE N.length as, O, n, start_sim dom tw tO ha, body_post post⟩
/-! ### [f, g][i](..) -/
def tabE (np : Nat) (Fs : List (List SV → M D)) (fi : Env → M D) (fs : Env → M (List SV)) : Env → M D := fun env => seq (fi env) fun d => seq (intM d) fun i => seq (lift (atI Fs i)) fun F => callF np F fs env
inductive Tab (P : Program) (w : World) (K : PySem.W.Frag) (mg : Str → Option Value) (base : Heap) (k np : Nat) (cv : Nat → Value) : List Addr → List (List SV → M D) → Prop
  | nil : Tab P w K mg base k np cv [] []
  | cons {f : Addr} {F : List SV → M D} {fd : FuncData} {ps : List Str} {as : List Addr} {Fs : List (List SV → M D)} {j : Nat} : FnOk P w K mg base (L2N.CX P w) j f fd ps (SpF K cv np F) → j ≤ k → PySem.W.keepIn K (.ref f) = true → Binds K fd ps [] → Tab P w K mg base k np cv as Fs → Tab P w K mg base k np cv (f :: as) (F :: Fs)
theorem Tab.len {P : Program} {w : World} {K : PySem.W.Frag} {mg : Str → Option Value} {base : Heap} {k np : Nat} {cv : Nat → Value} {as : List Addr} {Fs : List (List SV → M D)} (t : Tab P w K mg base k np cv as Fs) : as.length = Fs.length := by
  induction t with
  | nil => rfl
  | cons _ _ _ _ _ ih => simp [ih]
theorem Tab.at {P : Program} {w : World} {K : PySem.W.Frag} {mg : Str → Option Value} {base : Heap} {k np : Nat} {cv : Nat → Value} {as : List Addr} {Fs : List (List SV → M D)} (t : Tab P w K mg base k np cv as Fs) : ∀ {i : Nat} {F : List SV → M D}, Fs[i]? = some F →
    ∃ f fd ps, as[i]? = some f ∧ FnOk P w K mg base (L2N.CX P w) k f fd ps (SpF K cv np F) ∧ PySem.W.keepIn K (.ref f) = true ∧ Binds K fd ps [] := by
  induction t with
  | nil => intro i F h; simp at h
  | cons ok le kp bd _ ih =>
    intro i F h
    cases i with
    | zero => simp at h; subst h; exact ⟨_, _, _, rfl, ok.mono le, kp, bd⟩
    | succ i => simpa using ih (by simpa using h)
theorem se_tab {X : Cx} {B : Bd} {np k : Nat} {Fs : List (List SV → M D)} {as : List Addr} {elts : List Expr} {ie e : Expr} {es : List Expr} {fi : Env → M D} {fs : Env → M (List SV)} {lp sp pos : Pos} {E : XK} {cv : Nat → Value} (hK : B.K = X.K) (hcv : B.cv = cv) (hE : B.E = E) (t : Tab X.prog X.w X.K X.mg X.base k np cv as Fs) (hr : Room k X.A) (hx : Passes (L2N.CX X.prog X.w) X E)
    (hn : PA X elts (fun _ H Q => Q (as.map V.ref) H)) (hi : SE X B ie fi) (hs : PlainIx ie) (ha : SA X B (e :: es) fs) (hlen : as.length ≤ sizeLine)
    (ht : eval (.Call (.Subscript (.List elts lp) ie sp) (e :: es) [] pos) X.env = (do callWith pos (← eval (.Subscript (.List elts lp) ie sp) X.env) [] (backTo pos (starEach (e :: es) X.env)) (backToKw pos (keywordEach [] X.env))) := by rfl)
    (he : starEach (e :: es) X.env = (false, eval e X.env) :: starEach es X.env := by rfl) (hpl : (backTo pos (starEach es X.env)).any (·.1) = false := by rfl) :
    SE X B (.Call (.Subscript (.List elts lp) ie sp) (e :: es) [] pos) (tabE np Fs fi fs) := by
  subst hE hcv
  refine ⟨fun pins s0 σ H Q J h => ?_⟩
  rw [ht]
  obtain ⟨env, O, n, s, post⟩ := h
  have sub := pe_ix (pos := sp) ix_list (pe_lst (pos := lp) hn) hi hs
  refine wpAny_bind (thn (sub.run pins s0 σ H (fun v H2 => ∃ f fd ps F n2, v = .ref f ∧ FnOk X.prog X.w X.K X.mg X.base (L2N.CX X.prog X.w) k f fd ps (SpF X.K B.cv np F) ∧ PySem.W.keepIn X.K (.ref f) = true ∧ Binds X.K fd ps [] ∧ Sim B env O n2 σ H2 ∧ Ext B.T H H2 ∧ Post B (pE B O) H2 (callF np F fs env n2) Q) J ?_) ?_)
  · refine ⟨by rw [List.length_map]; exact hlen, fun p hp => ?_⟩
    have s1 : Sim B env O n σ (upd H p (.lst (as.map V.ref))) := s.ext (same_ext (same_new hp)) (same_town (same_new hp) s.town)
    have npT : ¬ B.T.has p := s.town.cold hp
    refine tG_seq1 (P := pE B) (g := fun env d => seq (intM d) fun i => seq (lift (atI Fs i)) fun F => callF np F fs env) lat_E s1 (post.later (same_ext (same_new hp)) fun _ _ _ z => z) fun x vx n1 H1 s2 e1 p1 q1 => ?_
    cases p1 with
    | int i =>
      have q1 : Post B (pE B O) H1 (seq (lift (atI Fs i)) (fun F => callF np F fs env) n1) Q := q1
      cases hat : atI Fs i with
      | none => rw [hat] at q1; exact q1.elim
      | some F =>
        rw [hat] at q1
        have q1 : Post B (pE B O) H1 (callF np F fs env n1) Q := q1
        have hp1 : H1 p = some (.lst (as.map V.ref)) := e1 p _ npT upd_same
        have atf : ∃ f fd ps, atI as i = some f ∧ FnOk X.prog X.w X.K X.mg X.base (L2N.CX X.prog X.w) k f fd ps (SpF X.K B.cv np F) ∧ PySem.W.keepIn X.K (.ref f) = true ∧ Binds X.K fd ps [] := by
          unfold atI at hat ⊢
          rw [t.len]
          cases q : ixN Fs.length i with
          | none => rw [q] at hat; cases hat
          | some j => rw [q] at hat; exact t.at hat
        obtain ⟨f, fd, ps, hf, ok, kp, bd⟩ := atf
        refine ⟨p, as.map V.ref, i, .ref f, rfl, rfl, .inl (.inl hp1), ?_, f, fd, ps, F, n1, rfl, ok, kp, bd, s2, (same_ext (same_new hp)).trans e1, q1⟩
        unfold atI at hf ⊢
        rw [List.length_map]
        cases q : ixN as.length i with
        | none => rw [q] at hf; cases hf
        | some j =>
          rw [q] at hf
          have hf : as[j]? = some f := hf
          show (as.map V.ref)[j]? = some (V.ref f)
          rw [List.getElem?_map, hf]; rfl
    | _ => exact q1.elim
  · rintro u s1 ⟨v, H2, J1, rv, f, fd, ps, F, n2, rfl, ok, kp, bd, s2, _, post2⟩
    cases (show u = Value.ref f from rv)
    have run2 := callF_run (B := B) (np := np) (F := F) (fs := fs) (σ := σ) (H := H2) (Q := Q) ⟨env, O, n2, s2, post2⟩
    refine PySem.W.callWith_K (h₀ := X.base) J1.ok.mod.kin kp (thn (ha.run pos pins s1 σ H2 _ J1 run2) ?_) he hpl
    rintro us s3 ⟨vs, H3, J3, rel, hsp⟩
    refine ⟨J3.kIn, run_fn ok hr bd .nil hx J3 rel ?_⟩
    rw [List.append_nil, ← hK]
    exact hsp
/-! ### a call that is not followed further -/
def stopE (fs : Env → M (List D)) : Env → M D := fun env => seq (fs env) fun _ => fault
section
variable {X : Cx} {B : Bd} {e : Expr} {es : List Expr} {pos : Pos}
theorem stop_run {fs : Env → M (List D)} {σ : L2.St} {H : Hp} {Q : VK} (h : tG B (pE B) (stopE fs) σ H Q) : tG B (pBs B) fs σ H fun _ _ => False := by
  obtain ⟨env, O, n, s, post⟩ := h
  exact tG_seq1 (P := pBs B) (g := fun _ _ => (fault : M D)) lat_E s post fun x vx n1 H1 s1 e1 p1 q1 => q1
theorem se_stopB {id : String} {x : Str} {p : Pos} {fs : Env → M (List D)} (hg : Gl X x) (hm : X.mg x = none) (hv : bootBuiltins x = some (.builtin id)) (ha : SBs X B (e :: es) fs) (hn : x ≠ "__name__" := by decide) (hdb : (x == ("__debug__" : Str)) = false := by decide)
    (he : starEach (e :: es) X.env = (false, eval e X.env) :: starEach es X.env := by rfl) (hpl : (backTo pos (starEach es X.env)).any (·.1) = false := by rfl) : SE X B (.Call (.Name x p) (e :: es) [] pos) (stopE fs) :=
  pe_weak (pe_callB (r := fun _ _ _ => False) (fun _ _ _ _ _ _ _ _ _ z => z.elim) hg hm hv ha hn hdb he hpl) fun _ _ _ h => stop_run h
theorem se_stopTy {T : String} {x : Str} {p : Pos} {fs : Env → M (List D)} (hg : Gl X x) (hm : X.mg x = none) (hv : bootBuiltins x = some (.type T)) (ha : SBs X B (e :: es) fs) (hn : x ≠ "__name__" := by decide) (hdb : (x == ("__debug__" : Str)) = false := by decide)
    (he : starEach (e :: es) X.env = (false, eval e X.env) :: starEach es X.env := by rfl) (hpl : (backTo pos (starEach es X.env)).any (·.1) = false := by rfl) : SE X B (.Call (.Name x p) (e :: es) [] pos) (stopE fs) :=
  pe_weak (pe_callTy (r := fun _ _ _ => False) (fun _ _ _ _ _ _ _ _ _ z => z.elim) hg hm hv ha hn hdb he hpl) fun _ _ _ h => stop_run h
end
end Sim

namespace Sim
open PySem L2

/-! ### sorted -/
def tupConsB : D → Bool
  | .tuple (_ :: _) => true
  | _ => false
def atomB : D → Bool
  | .none => false
  | .tuple _ => false
  | _ => true
def sortOkB (xs : List D) : Bool := (xs.all fun x => xs.all fun y => PySem.W.alike x y) && (xs.all tupConsB || xs.all atomB) && decide (xs.length ≤ big) && xs.all fun x => decide (x.depth ≤ 50)
def sortL (xs : List D) : List D := xs.mergeSort (PySem.W.dataLe false fun d : D => d)
def sortedD : List D → Option D
  | [.list xs] => if sortOkB xs = true then some (.list (sortL xs)) else none
  | _ => none
section
variable {X : Cx} {B : Bd} {H : Hp} {O : OS}
theorem each_of {pins : List (Addr × Obj)} {σ : L2.St} {s : Shared} (hK : B.K = X.K) (I : Inv X pins σ H s) : ∀ {ys : List V} {its : List Value} {xs : List D}, Vals ys its → Reps B.K H O ys xs →
    PySem.W.EachIs (fun v d => (∃ x, RelV x v ∧ Rep B.K H O x d) ∧ ∃ as, Reads s.heap v d as) its xs
  | _, _, _, .nil, .nil => .nil
  | _, _, _, .cons r rv, .cons p ps => by
    refine .cons ⟨⟨_, r, p⟩, ?_⟩ (each_of hK I rv ps)
    have dp := Rep.dp _ _ p
    rw [hK] at dp
    exact Dp.reads I _ _ _ dp r
theorem each_back {K : PySem.W.Frag} : ∀ {out : List Value} {xs : List D}, PySem.W.EachIs (fun v d => ∃ x, RelV x v ∧ Rep K H O x d) out xs → ∃ ys, Vals ys out ∧ Reps K H O ys xs
  | _, _, .nil => ⟨[], .nil, .nil⟩
  | _, _, .cons h t => by
    obtain ⟨x, r, p⟩ := h
    obtain ⟨ys, rv, ps⟩ := each_back t
    exact ⟨x :: ys, .cons r rv, .cons p ps⟩
theorem calld_sorted (hK : B.K = X.K) (hu : X.A.units + 64 < cLine) : CallD X B (.builtin "sorted") sortedD := by
  intro pins s σ H vs us Q I r h
  obtain ⟨O, ds, z, dom, hv, hz, q⟩ := h
  unfold sortedD at hz
  split at hz
  · rename_i xs
    split at hz
    · rename_i hok
      cases hz
      unfold sortOkB at hok
      simp only [Bool.and_eq_true, Bool.or_eq_true, decide_eq_true_eq, List.all_eq_true] at hok
      obtain ⟨⟨⟨o1, o2⟩, o3⟩, o4⟩ := hok
      obtain ⟨v, rfl, h1⟩ := hv.one
      obtain ⟨a, ys, rfl, ra, rxs⟩ := h1.list
      obtain ⟨its, rv, hl, hzl⟩ := I.list (.inl ra)
      rw [Vals.ref1 r]
      have he := each_of (O := O) hK I rv rxs
      refine PySem.W.sorted_data (enc := fun d : D => d) (R := fun v d => ∃ x, RelV x v ∧ Rep B.K H O x d) hl.isList (he.mono fun _ _ h => h.1) (he.mono fun _ _ h => h.2) ?_ ?_ (Nat.le_trans o3 big_line) (fun b hb => ?_) fun out hlen hout => ?_
      · rw [List.map_id']
        exact fun d hd d' hd' => o1 d hd d' hd'
      · rw [List.map_id']
        rcases o2 with o2 | o2
        · left
          intro d hd
          have h1 := o2 d hd
          unfold tupConsB at h1
          split at h1
          · exact ⟨_, _, rfl⟩
          · cases h1
        · right
          intro d hd
          have h1 := o2 d hd
          refine ⟨fun z => ?_, fun xs z => ?_⟩
          · subst z; cases h1
          · subst z; cases h1
      · have := o4 b hb
        omega
      · obtain ⟨ys', rv', rp'⟩ := each_back hout
        obtain ⟨ep, he'⟩ := PyProof.Rows.sortedAll_at s.heap its (List.toArray out)
        have hlen' : ys'.length ≤ sizeLine := by rw [rv'.length, hlen]; exact Nat.le_trans o3 big_line
        have hf : H (s.heap.objs.size + 1) = none := I.hok.fresh (Nat.le_succ _)
        exact ⟨.ref _, upd H (s.heap.objs.size + 1) (.lst ys'), I.laid (t' := s.toks) (fun _ _ => PyProof.Rows.sortedAll_old) (Nat.le_succ _) ⟨hlen', out, ep, rv', he'⟩, rfl, q _ _ (same_new hf) (rep_newL dom hf rp')⟩
    · cases hz
  · cases hz
/-! ### is True -/
def isTD (k : Bool) : D → Bool
  | .bool b => b == k
  | _ => false
def isTE (k : Bool) (fa : Env → M D) : Env → M D := fun env => seq (fa env) fun x => ret (.bool (isTD k x))
theorem rel_bool {x : V} {v : Value} (k : Bool) (r : RelV x v) : plainIs v (.bool k) = true ∧ (v == Value.bool k) = decide (x = .bl k) := by
  cases x with
  | non => cases r; exact ⟨rfl, by simp⟩
  | bl b => cases r; exact ⟨rfl, by cases b <;> cases k <;> rfl⟩
  | int _ => obtain ⟨t, rfl⟩ := r; exact ⟨rfl, by simp⟩
  | str _ => obtain ⟨t, rfl⟩ := r; exact ⟨rfl, by simp⟩
  | byt _ => obtain ⟨t, rfl⟩ := r; exact ⟨rfl, by simp⟩
  | flt _ => obtain ⟨t, rfl⟩ := r; exact ⟨rfl, by simp⟩
  | ref _ => cases r; exact ⟨rfl, by simp⟩
  | ty _ => cases r; exact ⟨rfl, by simp⟩
theorem rep_bool {K : PySem.W.Frag} {v : V} {d : D} (k : Bool) (h : Rep K H O v d) : decide (v = .bl k) = isTD k d := by
  cases h with
  | bl b => cases b <;> cases k <;> rfl
  | _ => simp [isTD]
theorem pc_isT {a : Expr} {ta : TE} {k : Bool} {j pos'} (ha : PE X a ta) : PC X .Is a (.Constant (.bool k) j pos') (fun σ H Q => ta σ H fun x H1 => Q (.bl (decide (x = .bl k))) H1) := by
  refine ⟨fun pins s σ H Q I h => ?_⟩
  refine thn (ha.run pins s σ H _ I h) fun v s1 ⟨x, H1, I1, r1, q1⟩ => ?_
  have hb := rel_bool k r1
  exact PyProof.Rows.Constant_bool (wpAny_is_plain hb.1 ⟨.bl _, H1, I1, by rw [hb.2]; rfl, q1⟩)
theorem isTE_run {fa : Env → M D} {k : Bool} {σ : L2.St} {H : Hp} {Q : VK} (h : tG B (pE B) (isTE k fa) σ H Q) : tG B (pE B) fa σ H fun x H1 => Q (.bl (decide (x = .bl k))) H1 := by
  obtain ⟨env, O, n, s, post⟩ := h
  refine tG_seq1 (g := fun env x => ret (PyData.bool (isTD k x))) lat_E s post fun x vx n1 H1 s1 e1 p1 q1 => ?_
  rw [rep_bool k p1]
  exact q1 _ H1 (Ext.refl _ _) s1.town (.bl _)
theorem se_isT {a : Expr} {fa : Env → M D} {k : Bool} {j : Nat} {p pos : Pos} (ha : SE X B a fa) : SE X B (.Compare a [.Is] [.Constant (.bool k) j p] pos) (isTE k fa) := pe_weak (pe_cmp (pc_isT ha)) fun _ _ _ h => isTE_run h
theorem st_isT {a : Expr} {fa : Env → M D} {k : Bool} {j : Nat} {p pos : Pos} (ha : SE X B a fa) : ST X B (.Compare a [.Is] [.Constant (.bool k) j p] pos) (testE (isTE k fa)) := pt_weak (pt_cmp (pc_isT ha)) fun σ H Q h => isTE_run (Q := fun x H' => ∃ k, x = .bl k ∧ Q k H') (testE_run h)
/-! ### text[lo:hi:step] -/
def stepS (z : Str) (lo hi : Option Int) (k : Int) : Str := if ((k == 1 && (Builtin.Str.strSliceIndices lo hi k z.length).length == z.length) = true) then z else ⟨((Builtin.Str.strSliceIndices lo hi k z.length).filterMap (z.cps[·]?)).toArray⟩
theorem stepS_le (z : Str) (lo hi : Option Int) {k : Int} (h0 : k ≠ 0) : (stepS z lo hi k).length ≤ z.length := by
  unfold stepS
  split
  · exact Nat.le_refl _
  · show (List.filterMap _ _).toArray.size ≤ z.length
    rw [List.size_toArray]
    exact Nat.le_trans (List.length_filterMap_le _ _) (sliceIndicesBy_le lo hi k h0 z.length)
theorem pe_sliceK {e : Expr} {te : TE} {lo hi st : Option Expr} {tl th ts : TO} {pos p2 : Pos} (he : PE X e te) (hl : PO X lo tl) (hu : PO X hi th) (hst : PO X st ts)
    (hops : ∀ (z : Str) (t : Tok) (q : Value), subscripted (.Slice lo hi st p2) false (.str z t) q = operate [.str z t, q] (getItem (.str z t) q) := by intro _ _ _; with_unfolding_all rfl) (hgo : ∀ (z : Str) (t : Tok) (r : Value), letTemporaryGo e (.str z t) r = pure () := by intro _ _ _; with_unfolding_all rfl) :
    PE X (.Subscript e (.Slice lo hi st p2) pos) (fun σ H Q => te σ H fun x H1 => tl σ H1 fun l H2 => th σ H2 fun u H3 => ts σ H3 fun k H4 => ∃ z j, x = .str z ∧ k = some j ∧ j ≠ 0 ∧ z.length ≤ sizeLine ∧ Q (.str (stepS z l u j)) H4) := by
  constructor
  intro pins s0 σ H Q I h
  apply PyProof.Rows.Subscript_
  refine thn (he.run pins s0 σ H _ I h) ?_
  rintro v sA ⟨x, HA, IA, rA, qA⟩
  apply wpAny_Slice
  refine thn (hl.run pins sA σ HA _ IA qA) ?_
  rintro vl sB ⟨l, HB, IB, pB, qB⟩
  refine thn (hu.run pins sB σ HB _ IB qB) ?_
  rintro vu sC ⟨u, HC, IC, pC, qC⟩
  refine thn (hst.run pins sC σ HC _ IC qC) ?_
  rintro vk sD ⟨k, HD, ID, pD, qD⟩
  obtain ⟨z, j, rfl, rfl, h0, hz, q⟩ := qD
  obtain ⟨t, rfl⟩ := rA
  obtain ⟨l', rfl, rfl⟩ := IsPart.raw pB
  obtain ⟨u', rfl, rfl⟩ := IsPart.raw pC
  obtain ⟨k', rfl, hk'⟩ := IsPart.raw pD
  cases k' with
  | none => cases hk'
  | some kk =>
    obtain ⟨j', tk⟩ := kk
    have hj : j = j' := (Option.some.inj hk').symm
    subst hj
    have J : L2.Inv X pins σ HD { sD with heap := sD.heap.push { cls := .type "slice", data := .fields #[partValue l', partValue u', partValue (some (j, tk))] } } := ID.kept (t' := sD.toks) fun b ob g => Heap.get?_push_of_some _ g
    have hle : (stepS z (l'.map (·.1)) (u'.map (·.1)) j).length ≤ sizeLine := Nat.le_trans (stepS_le z _ _ h0) hz
    refine PyProof.Rows.tail_of_ItemOn ⟨"str", _, F.slot_str_getitem.lookup, typeIs_str _ _ _, wpAny_getItem_str_slice (l := l') (u := u') (st := some (j, tk)) ⟨_, Heap.get?_push_size _ rfl, rfl, rfl⟩ (by simpa using h0) ?_⟩ (hops _ _ _) (hgo _ _)
    show Made.post (if ((j == 1 && (Builtin.Str.strSliceIndices (l'.map (·.1)) (u'.map (·.1)) j z.length).length == z.length) = true) then Made.val (.str z t) else Made.str ⟨((Builtin.Str.strSliceIndices (l'.map (·.1)) (u'.map (·.1)) j z.length).filterMap (z.cps[·]?)).toArray⟩) (EP X pins σ Q) _
    unfold stepS at q hle
    by_cases c : ((j == 1 && (Builtin.Str.strSliceIndices (l'.map (·.1)) (u'.map (·.1)) j z.length).length == z.length) = true)
    · rw [if_pos c] at q ⊢
      exact ⟨.str z, HD, J, ⟨t, rfl⟩, q⟩
    · rw [if_neg c] at q hle ⊢
      exact ⟨hle, .str _, HD, J.tok _, ⟨_, rfl⟩, q⟩
def sliceKM (x : D) (l h k : Option Int) : M D := match x, k with
  | .str z, some j => if j ≠ 0 ∧ z.length ≤ big then ret (.str (stepS z l h j)) else fault
  | _, _ => fault
def sliceKE (fa : Env → M D) (fl fh fk : Env → M (Option Int)) : Env → M D := fun env => seq (fa env) fun x => seq (fl env) fun l => seq (fh env) fun h => seq (fk env) fun k => sliceKM x l h k
theorem se_sliceK {a : Expr} {fa : Env → M D} {lo hi st : Option Expr} {pos p2 : Pos} {fl fh fk : Env → M (Option Int)} (ha : SE X B a fa) (hl : SO X B lo fl) (hh : SO X B hi fh) (hk : SO X B st fk)
    (hops : ∀ (z : Str) (t : Tok) (q : Value), subscripted (.Slice lo hi st p2) false (.str z t) q = operate [.str z t, q] (getItem (.str z t) q) := by intro _ _ _; with_unfolding_all rfl) (hgo : ∀ (z : Str) (t : Tok) (r : Value), letTemporaryGo a (.str z t) r = pure () := by intro _ _ _; with_unfolding_all rfl) :
    SE X B (.Subscript a (.Slice lo hi st p2) pos) (sliceKE fa fl fh fk) := by
  refine pe_weak (pe_sliceK ha hl hh hk hops hgo) fun σ H Q h => ?_
  obtain ⟨env, O, n, s, post⟩ := h
  refine tG_seq1 (g := fun env x => seq (fl env) fun l => seq (fh env) fun h => seq (fk env) fun k => sliceKM x l h k) lat_E s post fun x vx n1 H1 s1 e1 p1 q1 => ?_
  refine tG_seq1 (g := fun env l => seq (fh env) fun h => seq (fk env) fun k => sliceKM x l h k) lat_E s1 q1 fun y vy n2 H2 s2 e2 p2 q2 => ?_
  refine tG_seq1 (g := fun env h => seq (fk env) fun k => sliceKM x y h k) lat_E s2 q2 fun w vw n3 H3 s3 e3 p3 q3 => ?_
  refine tG_seq1 (g := fun env k => sliceKM x y w k) lat_E s3 q3 fun k vk n4 H4 s4 e4 p4 q4 => ?_
  cases p2; cases p3; cases p4
  unfold sliceKM at q4
  split at q4
  · split at q4
    · rename_i z j hc
      have hs : vx = .str z := by cases p1; rfl
      exact ⟨z, j, hs, rfl, hc.1, Nat.le_trans hc.2 big_line, q4 _ H4 (Ext.refl _ _) s4.town (.str _)⟩
    · exact q4.elim
  · exact q4.elim
end
end Sim

/-! sorted(set(ints)) -/
namespace Sim
open PySem L2 L2 PyProof.Rows

/-! ### the plain side: strictly rising lists -/
def insU (x : Int) : List Int → List Int
  | [] => [x]
  | y :: l => if x < y then x :: y :: l else if x = y then y :: l else y :: insU x l
def setSortL (ns : List Int) : List Int := ns.foldr insU []
theorem mem_insU {x z : Int} : ∀ {l : List Int}, z ∈ insU x l ↔ z = x ∨ z ∈ l
  | [] => by simp [insU]
  | y :: l => by
    unfold insU
    split
    · simp
    · split
      · rename_i h; subst h; simp
      · rw [List.mem_cons, List.mem_cons, mem_insU (l := l)]
        constructor
        · rintro (h | h | h)
          · exact .inr (.inl h)
          · exact .inl h
          · exact .inr (.inr h)
        · rintro (h | h | h)
          · exact .inr (.inl h)
          · exact .inl h
          · exact .inr (.inr h)
theorem pw_insU {x : Int} : ∀ {l : List Int}, l.Pairwise (· < ·) → (insU x l).Pairwise (· < ·)
  | [], _ => List.pairwise_singleton _ _
  | y :: l, h => by
    obtain ⟨h1, h2⟩ := List.pairwise_cons.mp h
    unfold insU
    split
    · rename_i hxy
      refine List.pairwise_cons.mpr ⟨fun z hz => ?_, h⟩
      rcases List.mem_cons.mp hz with rfl | hz
      · exact hxy
      · exact Int.lt_trans hxy (h1 z hz)
    · split
      · exact h
      · refine List.pairwise_cons.mpr ⟨fun z hz => ?_, pw_insU h2⟩
        rcases mem_insU.mp hz with rfl | hz
        · omega
        · exact h1 z hz
theorem mem_setSort {z : Int} : ∀ {ns : List Int}, z ∈ setSortL ns ↔ z ∈ ns
  | [] => by simp [setSortL]
  | n :: ns => by
    show z ∈ insU n (setSortL ns) ↔ _
    rw [mem_insU, mem_setSort (ns := ns), List.mem_cons]
theorem pw_setSort : ∀ ns : List Int, (setSortL ns).Pairwise (· < ·)
  | [] => List.Pairwise.nil
  | n :: ns => pw_insU (pw_setSort ns)
theorem rising_one : ∀ {l m : List Int}, l.Pairwise (· < ·) → m.Pairwise (· < ·) → (∀ z, z ∈ l ↔ z ∈ m) → l = m
  | [], [], _, _, _ => rfl
  | [], b :: m, _, _, h => absurd ((h b).mpr List.mem_cons_self) (by simp)
  | a :: l, [], _, _, h => absurd ((h a).mp List.mem_cons_self) (by simp)
  | a :: l, b :: m, hl, hm, h => by
    obtain ⟨l1, l2⟩ := List.pairwise_cons.mp hl
    obtain ⟨m1, m2⟩ := List.pairwise_cons.mp hm
    have hab : a = b := by
      rcases List.mem_cons.mp ((h a).mp List.mem_cons_self) with e | e
      · exact e
      · rcases List.mem_cons.mp ((h b).mpr List.mem_cons_self) with e' | e'
        · exact e'.symm
        · have := m1 a e
          have := l1 b e'
          omega
    subst hab
    congr 1
    refine rising_one l2 m2 fun z => ⟨fun hz => ?_, fun hz => ?_⟩
    · rcases List.mem_cons.mp ((h z).mp (List.mem_cons_of_mem _ hz)) with e | e
      · have := l1 z hz
        omega
      · exact e
    · rcases List.mem_cons.mp ((h z).mpr (List.mem_cons_of_mem _ hz)) with e | e
      · have := m1 z hz
        omega
      · exact e
theorem nodup_of_lt {l : List Int} (h : l.Pairwise (· < ·)) : l.Nodup := h.imp fun h e => by omega
/-! ### set(list of ints) -/
section
variable {prog : Program} {w : World} {A : Around} {E : Value → Shared → Prop} {st : Shared}
abbrev bareSet (w : World) : PySem.Obj := { cls := .type "set", dict := none, data := .set #[] 0 (.fresh 0 0 (!w.params.followText "set-order")) }
set_option maxHeartbeats 8000000 in
theorem set_listI {a : Addr} {its : Array Value} (ns : List Int) {Q : Value → Shared → Prop} (calm : A.handled = none) (isl : st.heap.IsList a its) (hints : IntsAre its.toList ns) (few : ns.length + 1 < scanBound)
    (fin : ∀ (g : Heap) (tk c : Nat), SetR w g st.heap.objs.size (fun j => decide (j ∈ ns)) c → c ≤ ns.length → (∀ b o, st.heap.get? b = some o → g.get? b = some o) → Q (.ref st.heap.objs.size) { st with heap := g, toks := tk }) :
    wpAny (model prog w) A (call (.type "set") [.ref a]) Q E st := by
  have sz : its.size = ns.length := by
    rw [← Array.length_toList]; exact IntsAre.length hints
  obtain ⟨c0, tl0, mro0⟩ := F.called_set.mro
  have mk := F.called_set.made
  have sb := F.called_set.sub
  apply wpAny_call
  apply codeAny_of_tree
  show wpAny _ _ (callAny (.type "set") _) _ _ _
  refine wpAny_pure ⟨Code.quiet_builtin _ (by decide +kernel), ?_⟩
  apply codeAny_builtin F.entry_type_call
  rw [Around.under_plain (weight_type_call_type "set" [.ref a] []) rfl]
  have n1 := F.called_set.notType
  have n2 := F.called_set.canCreate
  have tc := F.typeCall_set_1 (.ref a)
  repeat (any_goals (first | assumption | wp_step))
  apply codeAny_mono (code_set_led1 (.ref a) (E := E) (Q₁ := fun ob t => ob = .ref st.heap.objs.size ∧ t = { st with heap := st.heap.push (bareSet w) }) ⟨rfl, rfl⟩)
  intro r t1 hr
  cases r with
  | error e => exact hr
  | ok fl =>
    cases fl with
    | ret ob =>
      obtain ⟨rfl, rfl⟩ := hr
      have gS : (st.heap.push (bareSet w)).get? st.heap.objs.size = some (bareSet w) := Heap.get?_push_size _ rfl
      have tS : Shared.TypeIs { st with heap := st.heap.push (bareSet w) } (.ref st.heap.objs.size) "set" := ⟨_, gS, rfl⟩
      have i1 := F.called_set.init.lookup
      have i2 := F.called_set.init.bind (.ref st.heap.objs.size)
      repeat (any_goals (first | assumption | wp_step))
      apply codeAny_mono (codeAny_call_builtin (R := wants (fun r t => r = .none ∧ ∃ g tk c, t = { st with heap := g, toks := tk } ∧ SetR w g st.heap.objs.size (fun j => decide (j ∈ ns)) c ∧ c ≤ ns.length ∧ ∀ b o, st.heap.get? b = some o → g.get? b = some o) E) F.called_set.init.plain F.entry_set_init (check_set_init_1 tS ?_))
      · intro r2 t2 hr2
        cases r2 with
        | error e => exact hr2
        | ok f2 =>
          cases f2 with
          | ret r3 =>
            obtain ⟨rfl, g, tk, c, rfl, k1, k2, k3⟩ := hr2
            repeat (any_goals (first | assumption | wp_step))
            exact fin g tk c k1 k2 k3
          | _ => exact hr2.elim
      · obtain ⟨oL, gL, cL, nL, dL⟩ := isl
        obtain ⟨x1, x2, x3, x4⟩ := oL
        simp only at cL dL
        subst cL; subst dL
        have gL' : (st.heap.push (bareSet w)).get? a = some { cls := .type "list", dict := x2, data := .seq its nL, slots := x4 } := Heap.get?_push_of_some _ gL
        have s1 := F.sub_list_set
        have s2 := F.sub_list_frozenset
        have nd : (Value.type "list" == Value.type "dict") = false := by decide
        have isl' : (st.heap.push (bareSet w)).IsList a its := ⟨_, gL', rfl, nL, rfl⟩
        unfold Builtin.«set.__init__» noKeywords Builtin.Frozenset.updateFrom
        generalize hIt : pyIter = It
        wp_walk
        subst hIt
        apply wpAny_pyIter_list isl'
        apply wpAny_bind
        apply wpAny_runValue
        have ltS : a < st.heap.objs.size := Heap.lt_size gL
        have calm3 : A.in1.in1.in1.handled = none := by simp [calm]
        have sz1 : (st.heap.push (bareSet w)).objs.size = st.heap.objs.size + 1 := Heap.size_push ..
        have neI : a ≠ (st.heap.push (bareSet w)).objs.size := by rw [sz1]; exact Nat.ne_of_lt (Nat.lt_succ_of_lt ltS)
        have outS : st.heap.objs.size ∉ [(st.heap.push (bareSet w)).objs.size, a] := by
          rw [sz1]
          simp only [List.mem_cons, List.not_mem_nil, or_false, not_or]
          exact And.intro (Nat.ne_of_lt (Nat.lt_succ_self _)) (Nat.ne_of_gt ltS)
        have vals : ∀ (i : Nat) (v : Value), its[i]? = some v → ∃ k t, ns[i]? = some k ∧ v = .int k t := by
          intro i v hv
          have hi : i < ns.length := by
            have := (Array.getElem?_eq_some_iff.mp hv).1
            omega
          obtain ⟨t, e⟩ := IntsAre.int_at hints i v (by rw [Array.getElem?_toList]; exact hv)
          have e2 : ns.getD i 0 = ns[i] := by rw [List.getD_eq_getElem?_getD, List.getElem?_eq_getElem hi]; rfl
          exact ⟨ns[i], t, List.getElem?_eq_getElem hi, by rw [e, e2]⟩
        apply set_update_ints ((Walks.list calm3 _ a neI its).toS) st.heap.objs.size outS ns sz few vals (its.size - 0) 0 _ (by omega) (Nat.zero_le _) ⟨⟨_, Heap.get?_push_size _ rfl, rfl, rfl⟩, (isl'.push _)⟩
        · exact ⟨0, Nat.le_refl 0, setR_new_at (Heap.get?_push_of_some _ gS)⟩
        · intro t3 c3 mv cl sR
          obtain ⟨g3, q3, d3, k3, o3⟩ := t3
          have z1 : q3 = st.gens := mv.gens
          have z2 : d3 = st.drawn := mv.drawn
          have z3 : o3 = st.os := mv.os
          subst z1; subst z2; subst z3
          show wpAny _ _ _ _ _ _
          apply wpAny_pure
          show wpAny _ _ (PySem.ret Value.none) _ _ _
          rw [sz] at cl
          refine wpAny_pure ⟨rfl, g3, k3, c3, rfl, sR, cl, fun b o e => ?_⟩
          have lb : b < st.heap.objs.size := Heap.lt_size e
          refine mv.heap b o ?_ (Heap.get?_push_of_some _ (Heap.get?_push_of_some _ e))
          simp only [List.mem_cons, List.not_mem_nil, or_false, not_or]
          rw [sz1]
          exact And.intro (Nat.ne_of_lt lb) (Nat.ne_of_lt (Nat.lt_succ_of_lt lb))
    | _ => exact hr.elim
end
/-! ### as rules -/
section
variable {X : Cx} {B : Bd}
def rSetI (K : PySem.W.Frag) (w : World) : List V → Hp → VK → Prop := fun vs H Q => ∃ (a : Addr) (ns : List Int), vs = [V.ref a] ∧ SqL K H a (ns.map V.int) ∧ ns.length ≤ 1000 ∧ (setSortL ns).length < 64 ∧ ∀ p, H p = none → Q (.ref p) (upd H p (SetO w p (fun j => decide (j ∈ ns)) (setSortL ns).length))
theorem setR_count {w : World} {h : Heap} {a : Addr} {ns : List Int} {c : Nat} (R : SetR w h a (fun j => decide (j ∈ ns)) c) : c = (setSortL ns).length := by
  obtain ⟨o, es, ep, t, _, _, _, _, nd, mem, _, _, sz, _⟩ := R
  have pm : (es.toList.map keyOf).Perm (setSortL ns) := (List.perm_ext_iff_of_nodup nd (nodup_of_lt (pw_setSort ns))).mpr fun z => by
    rw [← mem z, mem_setSort, decide_eq_true_eq]
  have hl := pm.length_eq
  rw [List.length_map, Array.length_toList] at hl
  omega
theorem cr_setI (hc : X.calm = true) : CallR X (.type "set") (rSetI X.K X.w) := by
  intro pins s σ H vs us Q I r h
  obtain ⟨a, ns, rfl, hs, h1, h2, q⟩ := h
  obtain ⟨its, rv, hl, hz⟩ := I.list hs
  rw [Vals.ref1 r]
  have hn : H s.heap.objs.size = none := I.hok.fresh (Nat.le_refl _)
  refine set_listI (prog := X.prog) (w := X.w) ns (I.ok.hd hc) hl.isList (by simpa using rv.ints) (Nat.lt_of_le_of_lt (Nat.add_le_add_right h1 1) (by decide)) fun g tk c R hcl kp => ?_
  have ec := setR_count R
  subst ec
  exact ⟨.ref s.heap.objs.size, upd H s.heap.objs.size (SetO X.w s.heap.objs.size (fun j => decide (j ∈ ns)) (setSortL ns).length), I.laid (t' := tk) kp (Nat.le_refl _) (setO_new R), rfl, q _ hn⟩
def sortSetM : D → M D
  | .list xs => match intsOf xs with
    | some ns => if ns.length ≤ 1000 ∧ (setSortL ns).length < 64 then ret (.list ((setSortL ns).map PyData.int)) else fault
    | none => fault
  | _ => fault
def sortSetE (fa : Env → M D) : Env → M D := fun env => seq (fa env) sortSetM
theorem reps_ints {K : PySem.W.Frag} {H : Hp} {O : OS} : ∀ ns : List Int, Reps K H O (ns.map V.int) (ns.map PyData.int)
  | [] => .nil
  | n :: ns => .cons (.int n) (reps_ints ns)
theorem se_sortSet {a : Expr} {fa : Env → M D} {p p2 pos pos2 : Pos} (hK : B.K = X.K) (hc : X.calm = true) (hg : Gl X "sorted") (hm : X.mg "sorted" = none) (hg2 : Gl X "set") (hm2 : X.mg "set" = none) (ha : SE X B a fa)
    (h1 : starEach [a] X.env = (false, eval a X.env) :: starEach [] X.env := by rfl) (h2 : (backTo pos2 (starEach [] X.env)).any (·.1) = false := by rfl) (h3 : starEach [.Call (.Name "set" p2) [a] [] pos2] X.env = (false, eval (.Call (.Name "set" p2) [a] [] pos2) X.env) :: starEach [] X.env := by rfl) (h4 : (backTo pos (starEach [] X.env)).any (·.1) = false := by rfl) :
    SE X B (.Call (.Name "sorted" p) [.Call (.Name "set" p2) [a] [] pos2] [] pos) (sortSetE fa) := by
  refine pe_weak (pe_callB (cr_sortedSet hc) hg hm (by decide +kernel) (pa_cons (pe_callTy (cr_setI hc) hg2 hm2 (by decide +kernel) (pa_cons ha pa_nil h1) (by decide) (by decide) h1 h2) pa_nil h3) (by decide) (by decide) h3 h4) fun σ H Q h => ?_
  obtain ⟨env, O, n, s, post⟩ := h
  refine tG_seq1 (g := fun env => sortSetM) lat_E s post fun x vx n1 H1 s1 e1 p1 q1 => ?_
  unfold sortSetM at q1
  split at q1
  · rename_i xs
    cases hns : intsOf xs with
    | none => rw [hns] at q1; exact q1.elim
    | some ns =>
      rw [hns] at q1
      dsimp only at q1
      by_cases hl : ns.length ≤ 1000 ∧ (setSortL ns).length < 64
      · rw [if_pos hl] at q1
        cases p1 with
        | @lst a' ys _ r1 r2 =>
          have ey := intsOf_reps r2 hns
          subst ey
          refine ⟨a', ns, rfl, .inl r1.1, hl.1, hl.2, fun p hp => ?_⟩
          refine ⟨p, _, _, rfl, upd_same, hl.2, fun ms p' pw mem len hp' => ?_⟩
          have em : ms = setSortL ns := rising_one pw (pw_setSort ns) fun z => by rw [mem z, decide_eq_true_eq, mem_setSort]
          subst em
          have st1 : Same H1 (upd H1 p (SetO X.w p (fun j => decide (j ∈ ns)) (setSortL ns).length)) := same_new hp
          have st2 : Same (upd H1 p (SetO X.w p (fun j => decide (j ∈ ns)) (setSortL ns).length)) (upd (upd H1 p (SetO X.w p (fun j => decide (j ∈ ns)) (setSortL ns).length)) p' (.lst ((setSortL ns).map V.int))) := same_new hp'
          have sm : Same H1 (upd (upd H1 p (SetO X.w p (fun j => decide (j ∈ ns)) (setSortL ns).length)) p' (.lst ((setSortL ns).map V.int))) := fun b o e => st2 b o (st1 b o e)
          refine q1 _ _ (same_ext sm) (same_town sm s1.town) ?_
          have dom2 : ∀ b, O b → NF (upd H1 p (SetO X.w p (fun j => decide (j ∈ ns)) (setSortL ns).length)) b := fun b hb => by
            obtain ⟨o, e, no⟩ := s1.dom b hb
            exact ⟨o, st1 b o e, no⟩
          exact rep_newL dom2 hp' (reps_ints _)
      · rw [if_neg hl] at q1; exact q1.elim
  · exact q1.elim
end
end Sim

namespace Sim
open PySem L2 PySem.Spec PyProof.Rows
/-! ### methods of tuples -/
def TyZ (K : PySem.W.Frag) (x : V) (H : Hp) : Prop := ∃ (a : Addr) (o : Obj), x = .ref a ∧ o.dict = none ∧ ((∃ xs, H a = some (.frz o (.tup xs))) ∨ (K.lookup a = some o ∧ o.cls = .type "tuple"))
def tMZ (K : PySem.W.Frag) (r : V → List V → Hp → VK → Prop) (to : TE) (t : TA) : TE := fun σ H Q => to σ H fun x H1 => TyZ K x H1 ∧ t σ H1 fun xs H2 => r x xs H2 Q
section
variable {X : Cx} {B : Bd}
theorem TyZ.is {pins : List (Addr × Obj)} {σ : L2.St} {H : Hp} {s : Shared} {x : V} {v : Value} (I : L2.Inv X pins σ H s) (r : RelV x v) (ty : TyZ X.K x H) : s.TypeIs v "tuple" ∧ ∀ a, v = .ref a → ∃ ob, s.heap.get? a = some ob ∧ ob.dict = none := by
  obtain ⟨a, o, rfl, d, h | h⟩ := ty
  · obtain ⟨xs, h⟩ := h
    cases r
    obtain ⟨g, z, us, rv, o', g', c, n, e⟩ := I.hok a _ h
    rw [g] at g'
    cases g'
    exact ⟨⟨o, g, c⟩, fun b eb => by cases eb; exact ⟨o, g, d⟩⟩
  · cases r
    exact ⟨⟨o, I.kIn a o h.1, h.2⟩, fun b eb => by cases eb; exact ⟨o, I.kIn a o h.1, d⟩⟩
variable {o e : Expr} {es : List Expr} {to : TE} {t : TA} {name : Str} {pa pc : Pos} {id : String} {r : V → List V → Hp → VK → Prop}
theorem pe_mZ (pl : PlainAttrs "tuple") (sl : Slot "tuple" name id) (hty : typeOf (.builtin id) = pure (.type "method_descriptor")) (hm : MtR X id r) (ho : PE X o to) (ha : PA X [e] t) (hb : attributeBase o name X.env (eval o X.env) = eval o X.env := by rfl) (hf : ((backTo pc (starEach [e] X.env)).all (fun x => !x.1) && (backToKw pc (keywordEach [] X.env)).all (fun x => x.1.isSome) && decide ([e].length + ([] : List Keyword).length + (if ([] : List Keyword).isEmpty then 0 else 1) < 30)) = true := by rfl) (hl : (pa.endLine == pc.line) = true := by rfl) (hs : starEach [e] X.env = [(false, eval e X.env)] := by rfl) : PE X (.Call (.Attribute o name pa) [e] [] pc) (tMZ X.K r to t) := by
  constructor
  intro pins s σ H Q I h
  apply wpAny_Call_method_late hb hf hl rfl
  refine thn (ho.run pins s σ H _ I h) ?_
  rintro v s1 ⟨x, H1, I1, r1, ty, q1⟩
  obtain ⟨k1, k2⟩ := ty.is I1 r1
  refine ⟨"tuple", id, pl, sl, hty, k1, k2, ?_⟩
  have w := ha.run pc pins s1 σ H1 _ I1 q1
  rw [hs] at w ⊢
  apply Calls.callWith_builtin rfl
  apply Calls.evalArgs_plain
  refine thn w ?_
  rintro us s2 ⟨vs, H2, I2, r2, q2⟩
  exact hm pins s2 σ H2 x vs v us Q I2 r1 r2 q2
def isTupD : D → Bool
  | .tuple _ => true
  | _ => false
theorem ty_tupZ (hK : B.K = X.K) : ∀ H O v d, Brw B H O v d → isTupD d = true → TyZ X.K v H := fun H O v d h e => by
  cases d with
  | tuple z =>
    obtain ⟨a, xs, rfl, ra, _⟩ := h.tup
    rcases ra with ⟨o, d, h, _⟩ | ⟨o, its, n, l, c, d, _⟩
    · exact ⟨a, o, rfl, d, .inl ⟨xs, h⟩⟩
    · exact ⟨a, o, rfl, d, .inr ⟨hK ▸ l, c⟩⟩
  | _ => cases e
theorem se_methZ {call : Expr} {g : D → List D → Option D} {fo : Env → M D} {fs : Env → M (List D)} (hK : B.K = X.K) (h : PE X call (tMZ X.K (rM B g) (tG B (pB B) fo) (tG B (pBs B) fs))) : SE X B call (methE isTupD g fo fs) := by
  refine pe_weak h fun σ H Q h => ?_
  obtain ⟨env, O, n, s, post⟩ := h
  refine tG_seq1 (g := fun env x => if isTupD x = true then seq (fs env) fun ds => lift (g x ds) else fault) lat_E s post fun x vx n1 H1 s1 e1 p1 q1 => ?_
  by_cases hok : isTupD x = true
  · rw [if_pos hok] at q1
    refine ⟨ty_tupZ hK _ _ _ _ p1 hok, ?_⟩
    refine tG_seq1 (g := fun env ds => lift (g x ds)) lat_E s1 q1 fun y vy n2 H2 s2 e2 p2 q2 => ?_
    obtain ⟨z, hz, k⟩ := lift_post q2
    exact ⟨O, x, y, z, s2.dom, Brw.ext s2.tO e2 p1, p2, hz, fun v H' sm r => k v H' (same_ext sm) (same_town sm s2.town) r⟩
  · rw [if_neg hok] at q1; exact q1.elim
def tcountD : D → List D → Option D
  | .tuple xs, [d] => if min (PyData.depthAll xs) d.depth ≤ 60 then some (.int ((xs.countP fun y => PyData.eqv y d : Nat) : Int)) else none
  | _, _ => none
theorem mtd_tcount (hK : B.K = X.K) (hu : X.A.units + 64 < cLine) : MtD X B "tuple.count" tcountD := by
  intro pins s σ H x vs v us Q I rx rv h
  obtain ⟨O, d, ds, z, dom, hx, hv, hz, q⟩ := h
  unfold tcountD at hz
  split at hz
  · rename_i xs d
    split at hz
    · rename_i hl
      cases hz
      obtain ⟨w, rfl, h1⟩ := hv.one
      obtain ⟨a, ws, rfl, ra, rws⟩ := hx.tup
      cases rx
      obtain ⟨u, rfl, ru⟩ := rv.one
      have dy := h1.dp
      rw [hK] at dy rws ra
      obtain ⟨bs, r2⟩ := Dp.reads I _ _ u dy ru
      obtain ⟨its, rvs, pt, _⟩ := I.tuple ra.sq
      obtain ⟨as, r1⟩ := Dp.readsAll I _ _ _ (Reps.dp _ _ rws) rvs
      refine PySem.SeqAt.count_tuple_data (vs := its.toArray) pt (by simpa using r1) r2 (plainAll_dp _ _ (Reps.dp _ _ rws)) (plain_dp _ _ dy) (by omega) ?_
      exact ⟨.int _, H, I.tok _, ⟨_, rfl⟩, q _ H (fun _ _ h => h) (.int _)⟩
    · cases hz
  · cases hz
def tindexD : D → List D → Option D
  | .tuple xs, [d] => if min (PyData.depthAll xs) d.depth ≤ 60 ∧ xs.length ≤ big then (xs.findIdx? fun y => PyData.eqv y d).map fun j => .int (j : Int) else none
  | _, _ => none
theorem mtd_tindex (hK : B.K = X.K) (hu : X.A.units + 64 < cLine) : MtD X B "tuple.index" tindexD := by
  intro pins s σ H x vs v us Q I rx rv h
  obtain ⟨O, d, ds, z, dom, hx, hv, hz, q⟩ := h
  unfold tindexD at hz
  split at hz
  · rename_i xs d
    split at hz
    · rename_i hl
      obtain ⟨w, rfl, h1⟩ := hv.one
      obtain ⟨a, ws, rfl, ra, rws⟩ := hx.tup
      cases rx
      obtain ⟨u, rfl, ru⟩ := rv.one
      have dy := h1.dp
      rw [hK] at dy rws ra
      obtain ⟨bs, r2⟩ := Dp.reads I _ _ u dy ru
      obtain ⟨its, rvs, ⟨⟨c, dd, da, sl⟩, g, ec, n, ed⟩, _⟩ := I.tuple ra.sq
      simp only at ec ed
      subst ec ed
      obtain ⟨as, r1⟩ := Dp.readsAll I _ _ _ (Reps.dp _ _ rws) rvs
      have pxs := plainAll_dp _ _ (Reps.dp _ _ rws)
      cases ej : xs.findIdx? (fun y => PyData.eqv y d) with
      | none => rw [ej] at hz; cases hz
      | some j =>
        rw [ej] at hz; cases hz
        have r1' : ReadsAll s.heap its.toArray.toList xs as := by simpa using r1
        obtain ⟨hj, hhit, hno⟩ := PySem.SeqAt.hit_at (d := d) r1' pxs ej
        refine PySem.call_meets PySem.F.slot_tuple_index ⟨_, g, rfl⟩ PySem.F.entry_tuple_index (PySem.F.args_tuple_index_2 _ _)
          (TI.tuple_indexAt a its.toArray n dd sl u (fun u => PyData.eqv (PySem.SeqAt.readOf s.heap u) d) j hj hhit hno) ⟨g, PySem.SeqAt.items_plain r1' r2 pxs (plain_dp _ _ dy) (by omega), ?_⟩
        exact ⟨.int _, H, I.tok _, ⟨_, rfl⟩, q _ H (fun _ _ h => h) (.int _)⟩
    · cases hz
  · cases hz
end
/-! ### words of layers and checks -/
theorem eqD_strs {x y : Str} {k : Bool} (h : decide (x = y) = k) : eqD (.str x) (.str y) = some (.bool k) := by
  unfold eqD
  rw [if_pos (show min (PyData.str x).depth (PyData.str y).depth ≤ 60 from Nat.le_trans (Nat.min_le_left _ _) (by rw [PyData.depth]; decide)), PyData.eqv, ← h]
  rfl
theorem neD_strs {x y : Str} {k : Bool} (h : decide (x = y) = !k) : neD (.str x) (.str y) = some (.bool k) := by
  unfold neD
  rw [if_pos (show min (PyData.str x).depth (PyData.str y).depth ≤ 60 from Nat.le_trans (Nat.min_le_left _ _) (by rw [PyData.depth]; decide)), PyData.eqv]
  congr 2
  by_cases e : x = y
  · subst e; cases k <;> simp at h ⊢
  · cases k <;> simp [e] at h ⊢
theorem intD_t : intD [.bool true] = some (.int 1) := rfl
theorem intD_f : intD [.bool false] = some (.int 0) := rfl
theorem ks_mark_mark : eqD (.str "mark") (.str "mark") = some (.bool true) := eqD_strs (by decide +kernel)
theorem ks_fixed_mark : eqD (.str "fixed") (.str "mark") = some (.bool false) := eqD_strs (by decide +kernel)
theorem ks_length_mark : eqD (.str "length") (.str "mark") = some (.bool false) := eqD_strs (by decide +kernel)
theorem ks_mark_fixed : eqD (.str "mark") (.str "fixed") = some (.bool false) := eqD_strs (by decide +kernel)
theorem ks_fixed_fixed : eqD (.str "fixed") (.str "fixed") = some (.bool true) := eqD_strs (by decide +kernel)
theorem ks_length_fixed : eqD (.str "length") (.str "fixed") = some (.bool false) := eqD_strs (by decide +kernel)
theorem ks_mark_length : eqD (.str "mark") (.str "length") = some (.bool false) := eqD_strs (by decide +kernel)
theorem ks_fixed_length : eqD (.str "fixed") (.str "length") = some (.bool false) := eqD_strs (by decide +kernel)
theorem ks_length_length : eqD (.str "length") (.str "length") = some (.bool true) := eqD_strs (by decide +kernel)
theorem ks_none_none : eqD (.str "none") (.str "none") = some (.bool true) := eqD_strs (by decide +kernel)
theorem ks_sum_none : eqD (.str "sum") (.str "none") = some (.bool false) := eqD_strs (by decide +kernel)
theorem ks_xor_none : eqD (.str "xor") (.str "none") = some (.bool false) := eqD_strs (by decide +kernel)
theorem ks_none_sum : eqD (.str "none") (.str "sum") = some (.bool false) := eqD_strs (by decide +kernel)
theorem ks_sum_sum : eqD (.str "sum") (.str "sum") = some (.bool true) := eqD_strs (by decide +kernel)
theorem ks_xor_sum : eqD (.str "xor") (.str "sum") = some (.bool false) := eqD_strs (by decide +kernel)
theorem kn_none_none : neD (.str "none") (.str "none") = some (.bool false) := neD_strs (by decide +kernel)
theorem kn_sum_none : neD (.str "sum") (.str "none") = some (.bool true) := neD_strs (by decide +kernel)
theorem kn_xor_none : neD (.str "xor") (.str "none") = some (.bool true) := neD_strs (by decide +kernel)
end Sim

/-! Listeners: fields, methods, making. -/
namespace Sim
open PySem PySem.Spec L2

/-! ### data without lists -/
mutual
def noList : D → Bool
  | .tuple ds => noLists ds
  | .list _ => false
  | .dict _ => false
  | _ => true
def noLists : List D → Bool
  | [] => true
  | d :: ds => noList d && noLists ds
end
theorem not_nf {H : Hp} {a : Addr} {o : Obj} {u : HO} (h : H a = some (.frz o u)) : ¬ NF H a := fun ⟨o', e', n'⟩ => by rw [h] at e'; cases e'; cases n'
mutual
theorem Rep.nf {K : PySem.W.Frag} {H : Hp} {O : OS} : ∀ (d : D) (v : V), noList d = true → Rep K H O v d → Rep K H (NF H) v d
  | .none, v, _, h => by cases h; exact .non
  | .bool b, v, _, h => by cases h; exact .bl b
  | .int i, v, _, h => by cases h; exact .int i
  | .str x, v, _, h => by cases h; exact .str x
  | .list ds, v, n, h => by cases n
  | .tuple ds, v, n, h => by
    cases h with
    | tup h1 h2 => exact .tup (h1.elim (fun ⟨o, d, h, _⟩ => .inl ⟨o, d, h, not_nf h⟩) .inr) (Reps.nf ds _ (by simpa [noList] using n) h2)
  | .dict _, v, n, h => by cases h
theorem Reps.nf {K : PySem.W.Frag} {H : Hp} {O : OS} : ∀ (ds : List D) (vs : List V), noLists ds = true → Reps K H O vs ds → Reps K H (NF H) vs ds
  | [], vs, _, h => by cases h; exact .nil
  | d :: ds, vs, n, h => by
    rw [noLists, Bool.and_eq_true] at n
    cases h with
    | cons h1 h2 => exact .cons (Rep.nf d _ n.1 h1) (Reps.nf ds _ n.2 h2)
end
/-! ### a listener of a slot -/
def lisK {α : Type} (k : Nat → LS → M α) : Option (Option SV) → M α
  | some (some (.lis j)) => fun s => match s.ls[j]? with
    | some l => k j l s
    | none => .bad
  | _ => fault
theorem lis_post {α : Type} {k : Nat → LS → M α} {o : Option (Option SV)} {n : Sta} {P : R α → Prop} (hb : P .bad → False) (h : P (lisK k o n)) : ∃ j l, o = some (some (.lis j)) ∧ n.ls[j]? = some l ∧ P (k j l n) := by
  rcases o with _ | _ | x | xs | _ | ns | a | j | _ <;> first | exact (hb h).elim | skip
  have h : P (match n.ls[j]? with | some l => k j l n | none => .bad) := h
  cases e : n.ls[j]? with
  | none => rw [e] at h; exact (hb h).elim
  | some l => rw [e] at h; exact ⟨j, l, rfl, e, h⟩
inductive Fd | form | tick | bits | told
def Fd.nm : Fd → Str
  | .form => "form" | .tick => "tick" | .bits => "bits" | .told => "told"
def LS.get (l : LS) : Fd → D
  | .form => l.form | .tick => l.tick | .bits => l.bits | .told => l.told
def LS.put (l : LS) : Fd → D → LS
  | .form, d => { l with form := d } | .tick, d => { l with tick := d } | .bits, d => { l with bits := d } | .told, d => { l with told := d }
abbrev flds (f t b d : V) (p : Addr) : List (Str × V) := [("form", f), ("tick", t), ("bits", b), ("told", d), ("past", .ref p)]
section
variable {B : Bd} {env : Env} {O : OS} {n : Sta} {σ : L2.St} {H : Hp}
theorem Sim.lis (s : Sim B env O n σ H) {i j : Nat} {l : LS} (hi : env[i]? = some (some (.lis j))) (hl : n.ls[j]? = some l) : ∃ la, B.T.L[j]? = some la ∧ σ[i]? = some (some (.ref la.a)) ∧ L1 B.K B.T.C H la l ∧ B.cv 100 = .ref B.T.C := by
  obtain ⟨v, h1, la, h2, rfl⟩ := s.slot i _ hi
  obtain ⟨l', h3, h4⟩ := s.town.2.1.at h2
  rw [hl] at h3; cases h3
  rw [s.tK] at h4
  exact ⟨la, h2, h1, h4, s.tC la (List.mem_of_getElem? h2)⟩
theorem LsOk.upd {K : PySem.W.Frag} {C : Addr} {H H' : Hp} (f : Firm H H') : ∀ {las : List LA} {ls : List LS} {j : Nat} {la : LA} {l' : LS}, LsOk K C H las ls → las[j]? = some la → L1 K C H' la l' → (∀ i x, las[i]? = some x → i ≠ j → H' x.a = H x.a ∧ H' x.pa = H x.pa) → LsOk K C H' las (ls.set j l')
  | _, _, _, _, _, .nil, e, _, _ => by simp at e
  | _, _, 0, la, l', .cons r t, e, h, k => by
    simp at e; subst e
    exact .cons h (LsOk.firm f (fun l hl => by
      obtain ⟨m, hm⟩ := List.mem_iff_getElem?.mp hl
      exact k (m + 1) l (by simpa using hm) (by omega)) t)
  | _, _, j + 1, la, l', .cons r t, e, h, k => .cons (r.firm f (k 0 _ rfl (by omega)).1 (k 0 _ rfl (by omega)).2) (LsOk.upd f t (by simpa using e) h fun i x hx hn => k (i + 1) x (by simpa using hx) (by omega))
theorem pw_idx {α : Type} {R : α → α → Prop} (sym : ∀ x y, R x y → R y x) {l : List α} (h : l.Pairwise R) {i j : Nat} {x y : α} (hi : l[i]? = some x) (hj : l[j]? = some y) (ne : i ≠ j) : R x y := by
  rw [List.pairwise_iff_getElem] at h
  obtain ⟨li, ei⟩ := List.getElem?_eq_some_iff.mp hi
  obtain ⟨lj, ej⟩ := List.getElem?_eq_some_iff.mp hj
  subst ei ej
  rcases Nat.lt_or_gt_of_ne ne with q | q
  · exact h i j li lj q
  · exact sym _ _ (h j i lj li q)
/-- the listener j is changed, at its object or at its list -/
theorem Town.hot {T : Hot} (t : Town T H n) {j : Nat} {la : LA} {p : Addr} {o : HO} {l' : LS} (hj : T.L[j]? = some la) (hp : p = la.a ∨ p = la.pa) (h : L1 T.K T.C (upd H p o) la l') : Town T (upd H p o) { n with ls := n.ls.set j l' } := by
  have hm : la ∈ T.L := List.mem_of_getElem? hj
  have nfp : NF H p := t.nf (.inr ⟨la, hm, hp⟩)
  obtain ⟨l0, _, f, tt, b, d, vs, e1, e2, _⟩ := t.2.1.at hj
  have firm : Firm H (upd H p o) := fun b' ob u h' => by
    rw [upd_ne (fun z => by subst z; exact not_nf h' nfp)]; exact h'
  have ntp : T.t ≠ p := fun z => by
    rcases hp with hp | hp
    · rw [← hp, ← z, t.1] at e1; cases e1
    · exact t.2.2.1 la hm (hp.symm.trans z.symm)
  refine ⟨by rw [upd_ne ntp]; exact t.1, t.2.1.upd firm hj h fun i x hx hn => ?_, t.2.2⟩
  have ap := pw_idx (R := fun x y : LA => x.a ≠ y.a ∧ x.pa ≠ y.pa) (fun _ _ q => ⟨q.1.symm, q.2.symm⟩) t.2.2.2 hx hj hn
  obtain ⟨lx, _, f', tt', b', d', vs', e1', e2', _⟩ := t.2.1.at hx
  rcases hp with hp | hp
  · subst hp
    exact ⟨upd_ne ap.1, upd_ne (fun z => by rw [z, e1] at e2'; cases e2')⟩
  · subst hp
    exact ⟨upd_ne (fun z => by rw [z, e2] at e1'; cases e1'), upd_ne ap.2⟩
theorem Ext.hot {T : Hot} {j : Nat} {la : LA} {p : Addr} {o : HO} (hj : T.L[j]? = some la) (hp : p = la.a ∨ p = la.pa) : Ext T H (upd H p o) := fun a u na h => by
  rw [upd_ne (fun z => na (.inr ⟨la, List.mem_of_getElem? hj, by rw [z]; exact hp⟩))]; exact h
end
section
variable {X : Cx} {B : Bd} {e : Expr} {es : List Expr} {pos : Pos} {fa : Env → M D} {st : Stmt} {C : Addr}
/-! ### self.f -/
def fldE (i : Nat) (f : Fd) : Env → M D := fun env => lisK (fun _ l => ret (l.get f)) env[i]?
theorem fld_look (f t b d : V) (p : Addr) (x : Fd) : ∃ v, (flds f t b d p).lookup x.nm = some v ∧ v = (match x with | .form => f | .tick => t | .bits => b | .told => d) := by
  cases x <;> exact ⟨_, rfl, rfl⟩
theorem se_fld {i : Nat} {f : Fd} {x : Str} (hK : B.K = X.K) (hcv : B.cv 100 = .ref C) (hc : Cls X.K C) (hn : NoAttr X.K C x) (hx : x = f.nm) (h : PE X e (tFld X.K (tVar i) x)) : SE X B e (fldE i f) := by
  refine pe_weak h fun σ H Q h => ?_
  obtain ⟨env, O, n, s, post⟩ := h
  obtain ⟨j, l, hi, hl, post⟩ := lis_post (P := fun r => Post B (pE B O) H r Q) (fun z => z) post
  obtain ⟨la, hj, hσ, ⟨vf, vt, vb, vd, vs, e1, e2, r1, r2, r3, r4, r5⟩, hC⟩ := s.lis hi hl
  rw [hcv] at hC; cases hC
  obtain ⟨v, k1, k2⟩ := fld_look vf vt vb vd la.pa f
  refine ⟨_, hσ, la.a, _, la.dx, _, v, rfl, e1, hc, hn, hx ▸ k1, ?_⟩
  subst k2
  refine post _ H (Ext.refl _ _) s.town (Rep.anti s.dom _ _ ?_)
  cases f <;> assumption
/-! ### self.f = e -/
def putM (f : Fd) (d : D) (env : Env) : Option (Option SV) → M Fl := lisK (fun j l => if noList d = true then (fun s => .ok (.next env) { s with ls := s.ls.set j (l.put f d) }) else fault)
def setF (i : Nat) (f : Fd) (fa : Env → M D) : Env → M Fl := fun env => seq (fa env) fun d => putM f d env env[i]?
theorem ss_setF {i : Nat} {f : Fd} {x : Str} (hK : B.K = X.K) (hcv : B.cv 100 = .ref C) (hc : Cls X.K C) (hn : NoAttr X.K C x) (hx : x = f.nm) (h : PS X st (sFld X.K (tVar i) (tG B (pE B) fa) x)) : SS X B st (setF i f fa) := by
  refine ps_weak h fun De σ H h => ?_
  obtain ⟨env, O, n, s, post⟩ := h
  refine tS_seq (g := fun env d => lisK (fun j l => if noList d = true then (fun s => .ok (.next env) { s with ls := s.ls.set j (l.put f d) }) else fault) env[i]?) s post fun d v n1 H1 s1 ex1 p1 q1 => ?_
  obtain ⟨j, l, hi, hl, q1⟩ := lis_post (P := fun r => SPost B De O H1 r) (fun z => z) q1
  by_cases hd : noList d = true
  · rw [if_pos hd] at q1
    obtain ⟨la, hj, hσ, ⟨vf, vt, vb, vd, vs, e1, e2, r1, r2, r3, r4, r5⟩, hC⟩ := s1.lis hi hl
    rw [hcv] at hC; cases hC
    refine ⟨_, hσ, la.a, _, la.dx, _, rfl, e1, hc, hn, by show 5 < 1000; decide, ?_⟩
    have rv := Rep.nf d v hd p1
    have nfa : NF H1 la.a := ⟨_, e1, rfl⟩
    have npa : la.pa ≠ la.a := fun z => by rw [z, e1] at e2; cases e2
    have firm : ∀ o : HO, Firm H1 (upd H1 la.a o) := fun o b' ob u h' => by
      rw [upd_ne (fun z => by subst z; exact not_nf h' nfa)]; exact h'
    have key : L1 B.T.K B.T.C (upd H1 la.a (.ins B.T.C la.dx (putF x v (flds vf vt vb vd la.pa)))) la (l.put f d) := by
      rw [s1.tK]
      have up : ∀ {w : V} {c : D}, Rep B.K H1 (NF H1) w c → Rep B.K (upd H1 la.a (.ins B.T.C la.dx (putF x v (flds vf vt vb vd la.pa)))) (NF (upd H1 la.a (.ins B.T.C la.dx (putF x v (flds vf vt vb vd la.pa))))) w c := fun r => Rep.step (firm _).step _ _ r
      subst hx
      cases f
      · exact ⟨v, vt, vb, vd, vs, upd_same, by rw [upd_ne npa]; exact e2, up rv, up r2, up r3, up r4, Reps.step (firm _).step _ _ r5⟩
      · exact ⟨vf, v, vb, vd, vs, upd_same, by rw [upd_ne npa]; exact e2, up r1, up rv, up r3, up r4, Reps.step (firm _).step _ _ r5⟩
      · exact ⟨vf, vt, v, vd, vs, upd_same, by rw [upd_ne npa]; exact e2, up r1, up r2, up rv, up r4, Reps.step (firm _).step _ _ r5⟩
      · exact ⟨vf, vt, vb, v, vs, upd_same, by rw [upd_ne npa]; exact e2, up r1, up r2, up r3, up rv, Reps.step (firm _).step _ _ r5⟩
    have ex := Ext.hot (H := H1) (o := .ins B.T.C la.dx (putF x v (flds vf vt vb vd la.pa))) hj (.inl rfl)
    exact q1 σ O _ (s1.ext ex (s1.town.hot hj (.inl rfl) key)) (step_of s1.tO ex)
  · rw [if_neg hd] at q1; exact q1.elim
/-! ### self.past.append(e) -/
def pastM (d : D) (env : Env) : Option (Option SV) → M Fl := lisK (fun j l => if noList d = true ∧ l.past.length < big then (fun s => .ok (.next env) { s with ls := s.ls.set j { l with past := l.past ++ [d] } }) else fault)
def pastS (i : Nat) (fa : Env → M D) : Env → M Fl := fun env => lisK (fun _ _ => seq (fa env) fun d => pastM d env env[i]?) env[i]?
theorem past_look (f t b d : V) (p : Addr) : (flds f t b d p).lookup ("past" : Str) = some (V.ref p) := rfl
theorem ss_past {i : Nat} {K : PySem.W.Frag} (hK : B.K = X.K) (hcv : B.cv 100 = .ref C) (hc : Cls X.K C) (hn : NoAttr X.K C "past") (h : PS X st (tDrop (tBM K "list" rAppend (tFld X.K (tVar i) "past") (tCons (tG B (pE B) fa) tNil)))) : SS X B st (pastS i fa) := by
  refine ps_weak h fun De σ H h => ?_
  obtain ⟨env, O, n, s, post⟩ := h
  obtain ⟨j, l, hi, hl, post⟩ := lis_post (P := fun r => SPost B De O H r) (fun z => z) post
  obtain ⟨la, hj, hσ, ⟨vf, vt, vb, vd, vs, e1, e2, r1, r2, r3, r4, r5⟩, hC⟩ := s.lis hi hl
  rw [hcv] at hC; cases hC
  refine ⟨_, hσ, la.a, _, la.dx, _, _, rfl, e1, hc, hn, past_look .., .inl ⟨rfl, vs, .inl (.inl e2)⟩, ?_⟩
  refine tS_seq (g := fun env d => lisK (fun j l => if noList d = true ∧ l.past.length < big then (fun s => .ok (.next env) { s with ls := s.ls.set j { l with past := l.past ++ [d] } }) else fault) env[i]?) s post fun d v n1 H1 s1 ex1 p1 q1 => ?_
  obtain ⟨j', l1, hi', hl1, q1⟩ := lis_post (P := fun r => SPost B De O H1 r) (fun z => z) q1
  rw [hi] at hi'; cases hi'
  by_cases hd : noList d = true ∧ l1.past.length < big
  · rw [if_pos hd] at q1
    obtain ⟨la', hj', hσ', ⟨vf', vt', vb', vd', vs', e1', e2', r1', r2', r3', r4', r5'⟩, _⟩ := s1.lis hi hl1
    rw [hj] at hj'; cases hj'
    refine ⟨la.pa, vs', v, rfl, rfl, e2', by rw [r5'.length]; exact Nat.lt_of_lt_of_le hd.2 big_line, ?_⟩
    have rv := Rep.nf d v hd.1 p1
    have nfa : NF H1 la.pa := ⟨_, e2', rfl⟩
    have npa : la.a ≠ la.pa := fun z => by rw [← z, e1'] at e2'; cases e2'
    have firm : Firm H1 (upd H1 la.pa (.lst (vs' ++ [v]))) := fun b' ob u h' => by
      rw [upd_ne (fun z => by subst z; exact not_nf h' nfa)]; exact h'
    have key : L1 B.T.K B.T.C (upd H1 la.pa (.lst (vs' ++ [v]))) la { l1 with past := l1.past ++ [d] } := by
      rw [s1.tK]
      exact ⟨vf', vt', vb', vd', vs' ++ [v], by rw [upd_ne npa]; exact e1', upd_same, Rep.step firm.step _ _ r1', Rep.step firm.step _ _ r2', Rep.step firm.step _ _ r3', Rep.step firm.step _ _ r4', Reps.step firm.step _ _ (r5'.append (.cons rv .nil))⟩
    have ex := Ext.hot (H := H1) (o := .lst (vs' ++ [v])) hj (.inr rfl)
    exact q1 σ O _ (s1.ext ex (s1.town.hot hj (.inr rfl) key)) (step_of s1.tO ex)
  · rw [if_neg hd] at q1; exact q1.elim
/-! ### o.m(..) -/
def methL (i np : Nat) (F : List SV → M D) (fs : Env → M (List SV)) : Env → M D := fun env => lisK (fun j _ => seq (fs env) fun as => if as.length + 1 = np then F (.lis j :: as) else fault) env[i]?
theorem se_methL {i np : Nat} {m : Str} {F : List SV → M D} {fs : Env → M (List SV)} {K : PySem.W.Frag} {cv : Nat → Value} {E : XK} (hK : B.K = K) (hcv : B.cv = cv) (hE : B.E = E) (hC : cv 100 = .ref C) (hm : ∀ f t b d p, (flds f t b d p).lookup m = none) (h : PE X e (tMeth C m (SpF K cv np F) [] E (tVar i) (tG B (pA B) fs))) : SE X B e (methL i np F fs) := by
  subst hK hcv hE
  refine pe_weak h fun σ H Q h => ?_
  obtain ⟨env, O, n, s, post⟩ := h
  obtain ⟨j, l, hi, hl, post⟩ := lis_post (P := fun r => Post B (pE B O) H r Q) (fun z => z) post
  obtain ⟨la, hj, hσ, ⟨vf, vt, vb, vd, vs, e1, e2, _⟩, hC'⟩ := s.lis hi hl
  rw [hC] at hC'; cases hC'
  refine ⟨_, hσ, la.a, la.dx, _, rfl, e1, hm .., ?_⟩
  simp only [List.append_nil]
  refine tG_seq1 (P := pA B) (g := fun env (as : List SV) => if as.length + 1 = np then F (.lis j :: as) else fault) lat_E s post fun as vs n1 H1 s1 e1 p1 q1 => ?_
  by_cases hl : as.length + 1 = np
  · rw [if_pos hl] at q1
    refine ⟨by rw [List.length_cons, ArgsOk.length p1]; exact hl, B.T, O, n1, .lis j :: as, s1.dom, s1.town, ⟨s1.tO, s1.tK, s1.tC⟩, .cons ⟨la, hj, rfl⟩ (ArgsOk.to (B := B) (B' := ⟨B.K, H1, O, B.T, B.E, B.cv⟩) rfl rfl p1), ?_⟩
    cases r : F (.lis j :: as) n1 with
    | ok d m => rw [r] at q1; exact q1
    | exc c m => rw [r] at q1; exact fun H' ex tw => q1 H' (s1.fr1.trans ex) tw
    | bad => rw [r] at q1; exact q1
  · rw [if_neg hl] at q1; exact q1.elim
theorem se_methL0 {i : Nat} {m : Str} {F : List SV → M D} {K : PySem.W.Frag} {cv : Nat → Value} {E : XK} (hK : B.K = K) (hcv : B.cv = cv) (hE : B.E = E) (hC : cv 100 = .ref C) (hm : ∀ f t b d p, (flds f t b d p).lookup m = none) (h : PE X e (tMeth C m (SpF K cv 1 F) [] E (tVar i) tNil)) : SE X B e (methL i 1 F nilE) := by
  refine se_methL hK hcv hE hC hm (pe_weak h fun σ H Q h => ?_)
  obtain ⟨v, hv, a, dx, fs, e1, e2, e3, q⟩ := h
  refine ⟨v, hv, a, dx, fs, e1, e2, e3, ?_⟩
  obtain ⟨env, O, n, s, post⟩ := q
  exact post [] H (Ext.refl _ _) s.town .nil
/-! ### a listener as an argument -/
def lisM (fr : M (List SV)) : Option (Option SV) → M (List SV)
  | some (some (.lis j)) => seq fr fun r => ret (.lis j :: r)
  | _ => fault
def lisA (i : Nat) (fr : Env → M (List SV)) : Env → M (List SV) := fun env => lisM (fr env) env[i]?
theorem sa_lis {i : Nat} {x : Str} {fr : Env → M (List SV)} (ha : PE X (.Name x pos) (tVar i)) (hr : SA X B es fr) (hs : starEach (.Name x pos :: es) X.env = (false, eval (.Name x pos) X.env) :: starEach es X.env := by rfl) : SA X B (.Name x pos :: es) (lisA i fr) :=
  pa_weak (pa_cons ha hr hs) fun σ H Q h => by
    obtain ⟨env, O, n, s, post⟩ := h
    have post : Post B (pA B O) H (lisM (fr env) env[i]? n) Q := post
    rcases e : env[i]? with _ | _ | x | xs | _ | ns | _ | j | _ <;> rw [e] at post <;> first | exact post.elim | skip
    obtain ⟨v, hv, r⟩ := s.slot i _ e
    refine ⟨v, hv, ?_⟩
    refine tG_seq1 (g := fun env r => ret (SV.lis j :: r)) lat_A s post fun y vy n2 H2 s2 e2 p2 q2 => ?_
    exact q2 _ H2 (Ext.refl _ _) s2.town (.cons (show ArgOk B H2 O v (.lis j) from r) p2)
end
end Sim

/-! Listeners are made. -/
namespace Sim
open PySem PySem.Spec L2
def newLS (d : D) : LS := ⟨d, .none, .tuple [], .tuple [], []⟩
def spNew (K : PySem.W.Frag) (cv : Nat → Value) (C : Addr) (Fn : List SV → M D) : Sp := fun vs H Q E => vs.length = 2 ∧ ∃ (x dx : Addr) (v : V) (d : D) (T : Hot) (O : OS) (n : Sta), vs = [.ref x, v] ∧ H x = some (.ins C dx []) ∧ ¬ T.has x ∧ O x ∧ (∀ a, O a → NF H a) ∧ Town T H n ∧ ((∀ a, T.has a → O a) ∧ T.Fit K cv) ∧ Rep K H O v d ∧
  match Fn [.d d] n with
  | .ok _ n' => ∀ H' pa b t, (∀ a o, a ≠ x → ¬ T.has a → H a = some o → H' a = some o) → Town T H' n' → H pa = none → H' x = some (.ins C dx (flds v .non b t pa)) → H' pa = some (.lst []) → Rep K H' (NF H') b (.tuple []) → Rep K H' (NF H') t (.tuple []) → Q .non H'
  | .exc c n' => ∀ H', Ext T H H' → Town T H' n' → E (cv c) none H'
  | .bad => False
abbrev tTup0 : TE := fun σ H Q => tNil σ H fun xs H1 => xs.length ≤ sizeLine ∧ NewT H1 xs Q
theorem rep_tup0 {K : PySem.W.Frag} {H : Hp} {p : Addr} {o : Obj} (od : o.dict = none) (h : H p = some (.frz o (.tup []))) : Rep K H (NF H) (.ref p) (.tuple []) := .tup (.inl ⟨o, od, h, not_nf h⟩) .nil
theorem init_sim {P : Program} {w : World} {K : PySem.W.Frag} {mg : Str → Option Value} {base : Heap} {cv : Nat → Value} {qual : Str} {st : Stmt} {f C : Addr} {fd : FuncData} {k : Nat} {Fn : List SV → M D} {sc : Scope} (F : Fun K "__init__" qual st f fd) (hsc : defScope st = sc) (S : FnScope ["self", "form"] ["self", "form"] sc)
    (hc : Cls K C) (h1 : NoAttr K C "form") (h2 : NoAttr K C "tick") (h3 : NoAttr K C "bits") (h4 : NoAttr K C "told") (h5 : NoAttr K C "past")
    (hbody : ∀ (cdv : Value) (A : Around) (outer : List PySem.Env) (s : Shared) (H : Hp) (E : XK), Room k (A.deeper (PyProof.Rows.envOfC qual sc s.heap.objs.size f cdv)) →
      PSs (cxOf (L2N.CX P w) P w K mg base ["self", "form"] qual sc f cdv A outer s H E) (defBody st) (tSeq (tDrop (tCall (SpF K cv 1 Fn) [] E (tCons (tVar 1) tNil))) (tSeq (sFld K (tVar 0) (tVar 1) "form") (tSeq (sFld K (tVar 0) (tC .non) "tick") (tSeq (sFld K (tVar 0) tTup0 "bits") (tSeq (sFld K (tVar 0) tTup0 "told") (sFld K (tVar 0) (tLst tNil) "past"))))))) :
    FnOk P w K mg base (L2N.CX P w) (k + 1) f fd ["self", "form"] (spNew K cv C Fn) := by
  subst hsc
  obtain ⟨oc, od, kV, doc, pm, an, cdv, ct, osl, rfl, lk, hcd⟩ := F.ex
  refine fn_of lk hcd S (fun vs H Q E h => h.1) fun A outer s H vs Q E hr hsp => ?_
  obtain ⟨_, x, dx, v, d, T, O, n, rfl, hx, nx, ox, dom, tw, tO, rv, post⟩ := hsp
  refine ⟨_, hbody cdv A outer s H E hr, ?_⟩
  refine ⟨v, rfl, ?_⟩
  refine ⟨rfl, T, O, n, [.d d], dom, tw, tO, .cons rv .nil, ?_⟩
  cases r : Fn [.d d] n with
  | exc c n' => rw [r] at post; exact post
  | bad => rw [r] at post; exact post
  | ok y n' =>
    rw [r] at post
    intro _ H1 ex1 tw1 _
    have hx1 : H1 x = some (.ins C dx []) := ex1 x _ nx hx
    have nf : ∀ {H2 : Hp} {fs : List (Str × V)}, H2 x = some (.ins C dx fs) → NF H2 x := fun h => ⟨_, h, rfl⟩
    refine ⟨v, rfl, .ref x, rfl, x, C, dx, [], rfl, hx1, hc, h1, by decide, ?_⟩
    refine ⟨.ref x, rfl, x, C, dx, _, rfl, upd_same, hc, h2, by show 1 < 1000; decide, ?_⟩
    rw [upd_upd]
    refine ⟨Nat.zero_le _, fun p o hp od => ⟨.ref x, rfl, x, C, dx, _, rfl, (by rw [upd_ne (fun z => by rw [← z, upd_same] at hp; cases hp)]; exact upd_same), hc, h3, by show 2 < 1000; decide, ?_⟩⟩
    have npx : p ≠ x := fun z => by rw [z, upd_same] at hp; cases hp
    refine ⟨Nat.zero_le _, fun q o' hq od' => ⟨.ref x, rfl, x, C, dx, _, rfl, (by rw [upd_ne (fun z => by rw [← z, upd_same] at hq; cases hq)]; exact upd_same), hc, h4, by show 3 < 1000; decide, ?_⟩⟩
    have nqx : q ≠ x := fun z => by rw [z, upd_same] at hq; cases hq
    have nqp : q ≠ p := fun z => by rw [z, upd_ne npx, upd_same] at hq; cases hq
    refine ⟨Nat.zero_le _, fun pa hpa => ⟨.ref x, rfl, x, C, dx, _, rfl, (by rw [upd_ne (fun z => by rw [← z, upd_same] at hpa; cases hpa)]; exact upd_same), hc, h5, by show 4 < 1000; decide, ?_⟩⟩
    have nax : pa ≠ x := fun z => by rw [z, upd_same] at hpa; cases hpa
    have naq : pa ≠ q := fun z => by rw [z, upd_ne nqx, upd_same] at hpa; cases hpa
    have nap : pa ≠ p := fun z => by rw [z, upd_ne npx, upd_ne (Ne.symm nqp), upd_ne npx, upd_same] at hpa; cases hpa
    have hp1 : H1 p = none := by rw [upd_ne npx] at hp; exact hp
    have hq1 : H1 q = none := by rw [upd_ne nqx, upd_ne nqp, upd_ne nqx] at hq; exact hq
    have ha1 : H1 pa = none := by rw [upd_ne nax, upd_ne naq, upd_ne nax, upd_ne nap, upd_ne nax] at hpa; exact hpa
    have t1 := tw1.cool (o := .ins C dx [("form", v), ("tick", .non)]) nx (nf hx1)
    have t2 := same_town (same_new (o := .frz o (.tup [])) hp) t1
    have t3 := t2.cool (o := .ins C dx [("form", v), ("tick", .non), ("bits", .ref p)]) nx (nf (by rw [upd_ne (Ne.symm npx)]; exact upd_same))
    have t4 := same_town (same_new (o := .frz o' (.tup [])) hq) t3
    have t5 := t4.cool (o := .ins C dx [("form", v), ("tick", .non), ("bits", .ref p), ("told", .ref q)]) nx (nf (by rw [upd_ne (Ne.symm nqx)]; exact upd_same))
    have t6 := same_town (same_new (o := .lst []) hpa) t5
    have t7 := t6.cool (o := .ins C dx (flds v .non (.ref p) (.ref q) pa)) nx (nf (by rw [upd_ne (Ne.symm nax)]; exact upd_same))
    refine post _ pa (.ref p) (.ref q) (fun a o na hh hH => ?_) t7 ?_ upd_same (by rw [upd_ne nax]; exact upd_same) (rep_tup0 (o := o) od ?_) (rep_tup0 (o := o') od' ?_)
    · have h' := ex1 a o hh hH
      have b1 : a ≠ p := ne_of_none h' hp1
      have b2 : a ≠ q := ne_of_none h' hq1
      have b3 : a ≠ pa := ne_of_none h' ha1
      rw [upd_ne na, upd_ne b3, upd_ne na, upd_ne b2, upd_ne na, upd_ne b1, upd_ne na]; exact h'
    · exact none_back ex1 tw1 ha1
    · rw [upd_ne npx, upd_ne (Ne.symm nap), upd_ne npx, upd_ne (Ne.symm nqp), upd_ne npx]; exact upd_same
    · rw [upd_ne nqx, upd_ne (Ne.symm naq), upd_ne nqx]; exact upd_same
/-! ### the frame with one listener more -/
def addL (T : Hot) (C : Addr) (la : LA) : Hot := ⟨T.t, T.K, C, T.L ++ [la]⟩
theorem addL_has {T : Hot} {C : Addr} {la : LA} {a : Addr} : (addL T C la).has a ↔ T.has a ∨ a = la.a ∨ a = la.pa := by
  unfold addL Hot.has
  simp only [List.mem_append, List.mem_singleton]
  constructor
  · rintro (h | ⟨l, h | h, q⟩)
    · exact .inl (.inl h)
    · exact .inl (.inr ⟨l, h, q⟩)
    · subst h; exact .inr q
  · rintro ((h | ⟨l, h, q⟩) | h)
    · exact .inl h
    · exact .inr ⟨l, .inl h, q⟩
    · exact .inr ⟨la, .inr rfl, h⟩
theorem LsOk.append {K : PySem.W.Frag} {C : Addr} {H : Hp} {la : LA} {l : LS} (h : L1 K C H la l) : ∀ {las : List LA} {ls : List LS}, LsOk K C H las ls → LsOk K C H (las ++ [la]) (ls ++ [l])
  | _, _, .nil => .cons h .nil
  | _, _, .cons r t => .cons r (LsOk.append h t)
theorem LsOk.front {K : PySem.W.Frag} {C : Addr} {H : Hp} {la : LA} : ∀ {las : List LA} {ls : List LS}, LsOk K C H (las ++ [la]) ls → LsOk K C H las (ls.take las.length)
  | [], ls, h => by simp; exact .nil
  | _ :: las, _, .cons r t => .cons r (LsOk.front t)
theorem LsOk.cls {K : PySem.W.Frag} {C C' : Addr} {H : Hp} {las : List LA} {ls : List LS} (e : ∀ l ∈ las, C = C') (h : LsOk K C H las ls) : LsOk K C' H las ls := by
  cases las with
  | nil => cases h; exact .nil
  | cons a r => rw [← e a List.mem_cons_self]; exact h
theorem Town.front {T : Hot} {C : Addr} {la : LA} {H : Hp} {n : Sta} (e : ∀ l ∈ T.L, C = T.C) (h : Town (addL T C la) H n) : Town T H { n with ls := n.ls.take T.L.length } := by
  obtain ⟨h1, h2, h3, h4⟩ := h
  refine ⟨h1, (LsOk.front h2).cls e, fun l hl => h3 l (List.mem_append_left _ hl), (List.pairwise_append.mp h4).1⟩
section
variable {B : Bd} {env : Env} {O : OS} {n n' : Sta} {σ : L2.St} {H H' : Hp} {C : Addr}
theorem Sim.make (s : Sim B env O n σ H) {la : LA} {v b t : V} {d : D} (hC : B.cv 100 = .ref C) (hx : H la.a = none) (hpa : H la.pa = none) (ex : Ext B.T H H') (tw : Town B.T H' n') (e1 : H' la.a = some (.ins C la.dx (flds v .non b t la.pa))) (e2 : H' la.pa = some (.lst []))
    (rv : Rep B.K H' (NF H') v d) (rb : Rep B.K H' (NF H') b (.tuple [])) (rt : Rep B.K H' (NF H') t (.tuple [])) :
    Sim { B with T := addL B.T C la } env (fun a => O a ∨ a = la.a ∨ a = la.pa) { n' with ls := n'.ls ++ [newLS d] } σ H' := by
  have ce : ∀ l ∈ B.T.L, B.T.C = C := fun l hl => by have := s.tC l hl; rw [hC] at this; cases this; rfl
  have st : Step O H (fun a => O a ∨ a = la.a ∨ a = la.pa) H' := fun a o h na => ⟨ex a o (fun z => na (s.tO a z)) h, fun z => z.elim na fun z => z.elim (ne_of_none h hx) (ne_of_none h hpa)⟩
  have npx : la.pa ≠ la.a := fun z => by rw [z, e1] at e2; cases e2
  refine ⟨s.len, fun i sv h => ?_, s.sep, fun a h => ?_, ?_, fun a h => ?_, fun a o na h => ?_, fun a h => ?_, fun a h => .inl (s.fr3 a h), s.tK, fun l hl => hC⟩
  · obtain ⟨w, h1, h2⟩ := s.slot i sv h
    refine ⟨w, h1, ?_⟩
    have cold : ∀ a, H a ≠ none → ¬ B.T.has a → ¬ (addL B.T C la).has a := fun a na nh z => by
      rcases addL_has.mp z with q | q | q
      · exact nh q
      · exact na (q ▸ hx)
      · exact na (q ▸ hpa)
    have h3 := h2.to st fun w a _ o1 ne => ⟨.inl o1, fun o q => ex a o ne q⟩
    cases sv with
    | d x => exact h3
    | own xs =>
      obtain ⟨a, _, e3, _, _, ne, hv, _⟩ := h2
      obtain ⟨a', vs, e4, o1, o2, _, hv', r⟩ := h3
      cases e3; cases e4
      exact ⟨a, vs, rfl, o1, o2, cold a (by rw [hv]; simp) ne, hv', r⟩
    | town => exact h3
    | scr ns => exact h3
    | ex a => exact h3
    | lis k =>
      obtain ⟨l, h4, h5⟩ := h3
      exact ⟨l, by show (B.T.L ++ [la])[k]? = some l; rw [List.getElem?_append_left (List.getElem?_eq_some_iff.mp h4).1]; exact h4, h5⟩
    | dic kvs =>
      obtain ⟨a, _, e3, _, _, ne, hv, _⟩ := h2
      obtain ⟨a', vs, e4, o1, o2, _, hv', r⟩ := h3
      cases e3; cases e4
      exact ⟨a, vs, rfl, o1, o2, cold a (by rw [hv]; simp) ne, hv', r⟩
    | fd kvs => exact h3
    | dt kvs =>
      obtain ⟨a, _, e3, _, _, ne, hv, _⟩ := h2
      obtain ⟨a', vs, e4, o1, o2, _, hv', r⟩ := h3
      cases e3; cases e4
      exact ⟨a, vs, rfl, o1, o2, cold a (by rw [hv]; simp) ne, hv', r⟩
  · rcases h with h | h | h
    · exact dom_ext ex tw s.dom a h
    · rw [h]; exact ⟨_, e1, rfl⟩
    · rw [h]; exact ⟨_, e2, rfl⟩
  · refine ⟨tw.1, LsOk.append ⟨v, .non, b, t, [], e1, e2, s.tK ▸ rv, .non, s.tK ▸ rb, s.tK ▸ rt, .nil⟩ (tw.2.1.cls ce), fun l hl => ?_, List.pairwise_append.mpr ⟨tw.2.2.2, List.pairwise_singleton _ _, fun x hx' y hy => ?_⟩⟩
    · rcases List.mem_append.mp hl with q | q
      · exact tw.2.2.1 l q
      · rw [List.mem_singleton.mp q]
        exact fun z => s.town.cold hpa (.inl z)
    · rw [List.mem_singleton.mp hy]
      exact ⟨fun z => s.town.cold hx (.inr ⟨x, hx', .inl z.symm⟩), fun z => s.town.cold hpa (.inr ⟨x, hx', .inr z.symm⟩)⟩
  · rcases addL_has.mp h with q | q
    · exact .inl (s.tO a q)
    · exact .inr q
  · exact ex a o (fun z => na (addL_has.mpr (.inl z))) (s.fr1 a o (fun z => na (addL_has.mpr (.inl z))) h)
  · rcases h with h | h | h
    · exact s.fr2 a h
    · rw [h]; exact .inr (none_back s.fr1 s.town hx)
    · rw [h]; exact .inr (none_back s.fr1 s.town hpa)
theorem ext_front {T : Hot} {la : LA} {H0 : Hp} (h1 : H0 la.a = none) (h2 : H0 la.pa = none) (h : Ext (addL T C la) H0 H') : Ext T H0 H' := fun a o na q => h a o (fun z => by
  rcases addL_has.mp z with w | w | w
  · exact na w
  · exact ne_of_none q h1 w
  · exact ne_of_none q h2 w) q
end
/-! ### the semantics -/
def newL {α : Type} (l : LS) (good : α → Bool) (k : Nat → M α) : M α := fun s => match k s.ls.length { s with ls := s.ls ++ [l] } with
  | .ok a s' => if good a = true then .ok a { s' with ls := s'.ls.take s.ls.length } else .bad
  | .exc c s' => .exc c { s' with ls := s'.ls.take s.ls.length }
  | .bad => .bad
def makeM {α : Type} (Fn : List SV → M D) (d : D) (good : α → Bool) (k : Nat → M α) : M α := seq (Fn [.d d]) fun _ => if noList d = true then newL (newLS d) good k else fault
def isRet : Fl → Bool
  | .ret _ => true
  | .rn _ => true
  | .rd _ => true
  | _ => false
def newS (i : Nat) (Fn : List SV → M D) (fa : Env → M D) (g : Env → M Fl) : Env → M Fl := fun env => seq (fa env) fun d => makeM Fn d isRet fun k => g (env.set i (some (.lis k)))
section
variable {X : Cx} {B : Bd} {st : Stmt} {rest : List Stmt} {C : Addr} {fa : Env → M D} {Fn : List SV → M D} {g : Env → M Fl} {env : Env} {O : OS} {n : Sta} {σ : L2.St} {H : Hp}
/-- __init__'s promise, at a new instance -/
theorem make_run {α : Type} (s : Sim B env O n σ H) {v : V} {d : D} (rv : Rep B.K H O v d) (hC : B.cv 100 = .ref C) {x dx : Addr} (hx : H x = none) (hdx : H dx = none) (ne : dx ≠ x) {good : α → Bool} {k : Nat → M α} {W : R α → Prop} (hb : W .bad → False) (hxp : ∀ c m, W (.exc c m) → XPost B c m) (post : W (makeM Fn d good k n)) {Q : VK}
    (next : ∀ (la : LA) (n' : Sta) (H' : Hp), la.a = x → H la.pa = none → n'.ls.length = B.T.L.length + 1 → Ext B.T H H' → Sim { B with T := addL B.T C la } env (fun a => O a ∨ a = la.a ∨ a = la.pa) n' σ H' → W (match k B.T.L.length n' with
      | .ok a s' => if good a = true then .ok a { s' with ls := s'.ls.take B.T.L.length } else .bad
      | .exc c s' => .exc c { s' with ls := s'.ls.take B.T.L.length }
      | .bad => .bad) → Q (.ref x) H') : spNew B.K B.cv C Fn [.ref x, v] (upd (upd H dx (.own x)) x (.ins C dx [])) (fun u H2 => u = .non ∧ Q (.ref x) H2) B.E := by
  have sm1 : Same H (upd H dx (.own x)) := same_new hdx
  have hx1 : upd H dx (.own x) x = none := by rw [upd_ne (Ne.symm ne)]; exact hx
  have sm2 : Same (upd H dx (.own x)) (upd (upd H dx (.own x)) x (.ins C dx [])) := same_new hx1
  have sm : Same H (upd (upd H dx (.own x)) x (.ins C dx [])) := fun a o h => sm2 a o (sm1 a o h)
  have st : Step O H (addO O x) (upd (upd H dx (.own x)) x (.ins C dx [])) := fun a o h na => ⟨sm a o h, fun z => z.elim na (ne_of_none h hx)⟩
  refine ⟨rfl, x, dx, v, d, B.T, addO O x, n, rfl, upd_same, s.town.cold hx, .inr rfl, fun a h => ?_, same_town sm s.town, ⟨fun a h => .inl (s.tO a h), s.tK, s.tC⟩, Rep.step st _ _ rv, ?_⟩
  · rcases h with h | h
    · obtain ⟨o, e, no⟩ := s.dom a h
      exact ⟨o, sm a o e, no⟩
    · rw [h]; exact ⟨_, upd_same, rfl⟩
  unfold makeM seq at post
  cases r : Fn [.d d] n with
  | bad => rw [r] at post; exact hb post
  | exc c m =>
    rw [r] at post
    exact fun H' ex tw => hxp c m post H' (s.fr1.trans ((same_ext sm).trans ex)) tw
  | ok y n' =>
    rw [r] at post
    by_cases hd : noList d = true
    · simp only [if_pos hd] at post
      intro H' pa b t k1 k2 k3 k4 k5 k6 k7
      refine ⟨rfl, ?_⟩
      have hpa : H pa = none := by
        cases e : H pa with
        | none => rfl
        | some o => rw [sm pa o e] at k3; cases k3
      have ex : Ext B.T H H' := fun a o na h => k1 a o (ne_of_none h hx) na (sm a o h)
      have len : n'.ls.length = B.T.L.length := k2.2.1.len.symm
      have rv' : Rep B.K H' (NF H') v d := Rep.nf d v hd (Rep.step (step_of s.tO ex) _ _ rv)
      refine next ⟨x, dx, pa⟩ { n' with ls := n'.ls ++ [newLS d] } H' rfl hpa (by show (n'.ls ++ [newLS d]).length = _; rw [List.length_append, len]; rfl) ex (s.make (la := ⟨x, dx, pa⟩) hC hx hpa ex k2 k4 k5 rv' k6 k7) ?_
      unfold newL at post
      rw [len] at post
      exact post
    · simp only [if_neg hd] at post
      exact (hb post).elim
theorem ss_new {i : Nat} {K : PySem.W.Frag} {cv : Nat → Value} {E : XK} (hK : B.K = K) (hcv : B.cv = cv) (hE : B.E = E) (hC : cv 100 = .ref C) (h : PS X st (tAsg (tMake C (spNew K cv C Fn) [] E (tCons (tG B (pE B) fa) tNil)) (gName i)))
    (hr : ∀ B' : Bd, B'.K = K → B'.cv = cv → B'.E = E → SSs X B' rest g) : SSs X B (st :: rest) (newS i Fn fa g) := by
  subst hK hcv hE
  have hr2 : PSs X rest (fun De σ H' => ∃ B' : Bd, (B'.K = B.K ∧ B'.cv = B.cv ∧ B'.E = B.E) ∧ tS B' g De σ H') :=
    ⟨fun pins s' σ H' De I h => by
      obtain ⟨B', ⟨h1, h2, h3⟩, h⟩ := h
      exact (hr B' h1 h2 h3).run pins s' σ H' De I h⟩
  refine pss_weak (pss_cons h hr2) fun De σ H h => ?_
  obtain ⟨env, O, n, s, post⟩ := h
  refine tS_seq (g := fun env d => makeM Fn d isRet fun k => g (env.set i (some (.lis k)))) s post fun d v n1 H1 s1 ex1 p1 q1 => ?_
  intro x dx hx hdx ne
  refine make_run s1 p1 hC hx hdx ne (W := fun r => SPost B De O H1 r) (fun z => z) (fun c m z => z) q1 (Q := fun u H2 => gName i u σ H2 _) ?_
  intro la n' H' ela hpa len ex sm q
  refine ⟨{ B with T := addL B.T C la }, ⟨rfl, rfl, rfl⟩, env.set i (some (.lis B.T.L.length)), _, n', sm.setV i rfl ⟨la, by show (B.T.L ++ [la])[B.T.L.length]? = some la; simp, by rw [ela]⟩, ?_⟩
  have z1 : B.H0 la.a = none := none_back s1.fr1 s1.town (by rw [ela]; exact hx)
  have z2 : B.H0 la.pa = none := none_back s1.fr1 s1.town hpa
  have ce : ∀ l ∈ B.T.L, C = B.T.C := fun l hl => by have := s1.tC l hl; rw [hC] at this; cases this; rfl
  cases r : g (env.set i (some (.lis B.T.L.length))) n' with
  | bad => rw [r] at q; exact q
  | exc c m =>
    rw [r] at q
    exact fun H2 e2 t2 => q H2 (ext_front z1 z2 e2) (t2.front ce)
  | ok fl m =>
    rw [r] at q
    cases fl with
    | ret d =>
      exact fun v H2 e2 t2 r2 => q v H2 (ext_front z1 z2 e2) (t2.front ce) r2
    | rn xs =>
      exact fun v H2 e2 t2 r2 => q v H2 (ext_front z1 z2 e2) (t2.front ce) r2
    | rd xs =>
      exact fun v H2 e2 t2 r2 => q v H2 (ext_front z1 z2 e2) (t2.front ce) r2
    | next _ => exact q.elim
    | brk _ => exact q.elim
    | cont _ => exact q.elim
/-! ### C(e).m(..) -/
def newE (np : Nat) (Fn F : List SV → M D) (fa : Env → M D) (fs : Env → M (List SV)) : Env → M D := fun env => seq (fa env) fun d => makeM Fn d (fun _ => true) fun k => seq (fs env) fun as => if as.length + 1 = np then F (.lis k :: as) else fault
theorem new_run {m : Str} {np : Nat} {F : List SV → M D} {fs : Env → M (List SV)} {t : TA} (hC : B.cv 100 = .ref C) (hm : ∀ f t b d p, (flds f t b d p).lookup m = none)
    (ha : ∀ (B' : Bd) (σ : L2.St) (H : Hp) (Q : List V → Hp → Prop), B'.K = B.K → B'.cv = B.cv → B'.E = B.E → tG B' (pA B') fs σ H Q → t σ H Q) {σ : L2.St} {H : Hp} {Q : VK} (h : tG B (pE B) (newE np Fn F fa fs) σ H Q) :
    tMeth C m (SpF B.K B.cv np F) [] B.E (tMake C (spNew B.K B.cv C Fn) [] B.E (tCons (tG B (pE B) fa) tNil)) t σ H Q := by
  obtain ⟨env, O, n, s, post⟩ := h
  refine tG_seq1 (g := fun env d => makeM Fn d (fun _ => true) fun k => seq (fs env) fun as => if as.length + 1 = np then F (.lis k :: as) else fault) lat_E s post fun d v n1 H1 s1 ex1 p1 q1 => ?_
  intro x dx hx hdx ne
  refine make_run s1 p1 hC hx hdx ne (W := fun r => Post B (pE B O) H1 r Q) (fun z => z) (fun c m z => z) q1 (Q := fun u H2 => ∃ a dx fs, u = .ref a ∧ H2 a = some (.ins C dx fs) ∧ fs.lookup m = none ∧ t σ H2 fun vs H3 => SpF B.K B.cv np F (u :: (vs ++ [])) H3 Q B.E) ?_
  intro la n' H' ela hpa len ex sm q
  have hl : n'.ls[B.T.L.length]? ≠ none := by rw [List.getElem?_eq_getElem (by omega)]; simp
  obtain ⟨l, hl'⟩ := Option.ne_none_iff_exists'.mp hl
  have hj : (addL B.T C la).L[B.T.L.length]? = some la := by show (B.T.L ++ [la])[B.T.L.length]? = some la; simp
  obtain ⟨l', _, vf, vt, vb, vd, vs, e1, _⟩ := sm.town.2.1.at hj
  refine ⟨x, la.dx, _, rfl, by rw [← ela]; exact e1, hm .., ?_⟩
  have z1 : H1 la.a = none := by rw [ela]; exact hx
  have ce : ∀ l ∈ B.T.L, C = B.T.C := fun l hl => by have := s1.tC l hl; rw [hC] at this; cases this; rfl
  have w1 : B.H0 la.a = none := none_back s1.fr1 s1.town z1
  have w2 : B.H0 la.pa = none := none_back s1.fr1 s1.town hpa
  simp only [List.append_nil]
  refine ha { B with T := addL B.T C la } σ H' _ rfl rfl rfl ⟨env, _, n', sm, ?_⟩
  unfold seq at q
  cases r : fs env n' with
  | bad => rw [r] at q; exact q
  | exc c m' =>
    rw [r] at q
    exact fun H2 e2 t2 => q H2 (ext_front w1 w2 e2) (t2.front ce)
  | ok as m' =>
    rw [r] at q
    intro vs H2 ex2 tw2 pa2
    have sm2 := sm.ext ex2 tw2
    have fr : Ext B.T H1 H2 := fun a o na h => ex2 a o (fun z => by
      rcases addL_has.mp z with w | w | w
      · exact na w
      · exact ne_of_none h z1 w
      · exact ne_of_none h hpa w) (ex a o na h)
    by_cases hnp : as.length + 1 = np
    · simp only [if_pos hnp] at q
      refine ⟨by rw [List.length_cons, ArgsOk.length pa2]; exact hnp, addL B.T C la, _, m', .lis B.T.L.length :: as, sm2.dom, sm2.town, ⟨sm2.tO, sm2.tK, sm2.tC⟩, .cons ⟨la, hj, by rw [ela]⟩ (ArgsOk.to (B := { B with T := addL B.T C la }) (B' := ⟨B.K, H2, _, addL B.T C la, B.E, B.cv⟩) rfl rfl pa2), ?_⟩
      cases r2 : F (.lis B.T.L.length :: as) m' with
      | ok d2 m2 =>
        rw [r2] at q
        exact fun v3 H3 e3 t3 r3 => q v3 H3 (fun a o na h => e3 a o (fun z => by
          rcases addL_has.mp z with w | w | w
          · exact na w
          · exact ne_of_none h z1 w
          · exact ne_of_none h hpa w) (fr a o na h)) (t3.front ce) (Rep.anti (fun _ z => .inl z) _ _ r3)
      | exc c m2 =>
        rw [r2] at q
        exact fun H3 e3 t3 => q H3 (ext_front w1 w2 (fun a o na h => e3 a o na (sm2.fr1 a o na h))) (t3.front ce)
      | bad => rw [r2] at q; exact q
    · simp only [if_neg hnp] at q
      exact q.elim
theorem se_newM0 {e : Expr} {m : Str} {F : List SV → M D} {K : PySem.W.Frag} {cv : Nat → Value} {E : XK} (hK : B.K = K) (hcv : B.cv = cv) (hE : B.E = E) (hC : cv 100 = .ref C) (hm : ∀ f t b d p, (flds f t b d p).lookup m = none)
    (h : PE X e (tMeth C m (SpF K cv 1 F) [] E (tMake C (spNew K cv C Fn) [] E (tCons (tG B (pE B) fa) tNil)) tNil)) : SE X B e (newE 1 Fn F fa nilE) := by
  subst hK hcv hE
  refine pe_weak h fun σ H Q q => new_run (fs := nilE) hC hm (fun B' σ H Q _ _ _ h => ?_) q
  obtain ⟨env, O, n, s, post⟩ := h
  exact post [] H (Ext.refl _ _) s.town .nil
theorem se_newM {e e2 : Expr} {es : List Expr} {m : Str} {np : Nat} {F : List SV → M D} {fs : Env → M (List SV)} {K : PySem.W.Frag} {cv : Nat → Value} {E : XK} (hK : B.K = K) (hcv : B.cv = cv) (hE : B.E = E) (hC : cv 100 = .ref C) (hm : ∀ f t b d p, (flds f t b d p).lookup m = none)
    (ha : ∀ B' : Bd, B'.K = K → B'.cv = cv → B'.E = E → SA X B' (e2 :: es) fs)
    (h : ∀ t : TA, PA X (e2 :: es) t → PE X e (tMeth C m (SpF K cv np F) [] E (tMake C (spNew K cv C Fn) [] E (tCons (tG B (pE B) fa) tNil)) t)) : SE X B e (newE np Fn F fa fs) := by
  subst hK hcv hE
  have ha2 : PA X (e2 :: es) (fun σ H' Q => ∃ B' : Bd, (B'.K = B.K ∧ B'.cv = B.cv ∧ B'.E = B.E) ∧ tG B' (pA B') fs σ H' Q) :=
    ⟨fun pos pins s' σ H' Q I h => by
      obtain ⟨B', ⟨h1, h2, h3⟩, h⟩ := h
      exact (ha B' h1 h2 h3).run pos pins s' σ H' Q I h⟩
  exact pe_weak (h _ ha2) fun σ H Q q => new_run hC hm (fun B' σ H Q h1 h2 h3 h => ⟨B', ⟨h1, h2, h3⟩, h⟩) q
end
theorem cv100 {B : Bd} {cv : Nat → Value} {C : Addr} (h : B.cv = cv) (e : cv 100 = .ref C) : B.cv 100 = .ref C := by rw [h]; exact e
/-! ### what the top says of the class -/
def adr {mg : Str → Option Value} {x : Str} {C : Addr} (_ : mg x = some (.ref C)) : Addr := C
section
variable {K : PySem.W.Frag} {mg : Str → Option Value} {h : Heap} {R : Prop} {x qual : Str} {C : Addr}
theorem cls_use (X : K.In h) (G : h.Ns mainGlobals mg) (a : PySem.W.nsIn K mainGlobals x = some (some (.ref C))) (pg : PySem.W.plainGet K C Str.empty = true) (hd : PySem.W.hasDictIn K C = true) (po : PySem.W.plainOver K C = true) (sa : PySem.W.findIn K (.ref C) "__setattr__" = some (some (.builtin "object.__setattr__"))) (mk : PySem.W.makesIn K C = true) (kc : PySem.W.keepIn K (.ref C) = true)
    (n : mg x = some (.ref C) → Cls K C → PySem.W.makesIn K C = true → PySem.W.keepIn K (.ref C) = true → R) : R := n (PySem.W.mg_of X G a) ⟨pg, hd, po, sa⟩ mk kc
theorem attr_use {f : Str} (_ : Cls K C) (a : PySem.W.findIn K (.ref C) f = some none) (n : NoAttr K C f → R) : R := n a
theorem meth_use {st : Stmt} {ps : List Str} {f : Addr} {oc : Value} {od an : Option Addr} {osl : Array (Option Value)} {kV doc pm cdv ct : Value} (_ : Cls K C) (a : PySem.W.findIn K (.ref C) x = some (some (.ref f))) (i : PySem.W.isFn K (.ref f) = true)
    (l : K.lookup f = some ⟨oc, od, .func (PySem.W.fnOf x qual (defArgs st) (defBody st) (defScope st) .none kV doc pm an cdv ct), osl⟩) (c : PySem.W.codeIn K cdv qual = true) (k : PySem.W.keepIn K (.ref f) = true)
    (hb : ∀ (kV doc pm : Value) (an : Option Addr) (cdv ct : Value) (us : List Value), us.length = ps.length → bindArgs (PySem.W.fnOf x qual (defArgs st) (defBody st) (defScope st) .none kV doc pm an cdv ct) ⟨us, []⟩ = pure (ps.zip us))
    (n : ∀ f fd, Meth K C x f → Fun K x qual st f fd → Binds K fd ps [] → R) : R := n f _ ⟨a, i, k⟩ (fun_mk (st := st) l c k) ((fun_mk (st := st) l c k).binds hb)
end
end Sim

/-! text.split(sep), text.strip(signs) -/
namespace Sim
open PySem PySem.Spec L2
section
variable {X : Cx} {B : Bd}
theorem reps_strs {K : PySem.W.Frag} {H : Hp} {O : OS} : ∀ ys : List Str, Reps K H O (ys.map V.str) (ys.map PyData.str)
  | [] => .nil
  | y :: ys => .cons (.str y) (reps_strs ys)
def splitD : D → List D → Option D
  | .str a, [.str b] => if (b.length == 0) = false ∧ a.length ≤ big then some (.list ((Txt.split a b).map PyData.str)) else none
  | _, _ => none
theorem mtd_split : MtD X B "str.split" splitD := by
  refine MtR.imp mt_split fun x vs H Q h => ?_
  obtain ⟨O, d, ds, z, dom, hx, hv, hz, q⟩ := h
  unfold splitD at hz
  split at hz
  · rename_i a b
    split at hz
    · rename_i hl
      cases hz
      obtain ⟨v, rfl, h1⟩ := hv.one
      have hb : big = 1000000 := rfl
      have := sizeLine_eq
      exact ⟨a, b, hx.str, by rw [h1.str], hl.1, by omega, fun p hp => q _ _ (same_new hp) (rep_newL dom hp (reps_strs _))⟩
    · cases hz
  · cases hz
def stripD : D → List D → Option D
  | .str a, [.str b] => if a.length ≤ big then some (.str (Txt.stripChars a b)) else none
  | _, _ => none
theorem mtd_strip : MtD X B "str.strip" stripD := by
  refine MtR.imp mt_stripChars fun x vs H Q h => ?_
  obtain ⟨O, d, ds, z, dom, hx, hv, hz, q⟩ := h
  unfold stripD at hz
  split at hz
  · rename_i a b
    split at hz
    · rename_i hl
      cases hz
      obtain ⟨v, rfl, h1⟩ := hv.one
      exact ⟨a, b, hx.str, by rw [h1.str], Nat.le_trans hl big_line, q _ H (fun _ _ h => h) (.str _)⟩
    · cases hz
  · cases hz
end
end Sim

/-! enumerate(text). -/
namespace Sim
open PySem PySem.Spec L2
def ItS (x : Str) : It := ⟨fun i _ => i < x.cps.size, fun i H v H' => ∃ T c, v = .ref T ∧ H T = none ∧ H' = upd H T (.tup [.int (i : Nat), .str ⟨#[c]⟩]) ∧ x.cps[i]? = some c, fun i _ => i = x.cps.size⟩
theorem turn_enumS {P : Program} {w : World} {K : PySem.W.Frag} {elts : List Expr} {kk : Nat} {tpos : Pos} (e it : Addr) (x : Str) (t : Tok) (ty : String) (hty : ty = "str_ascii_iterator" ∨ ty = "str_iterator") :
    Turn P w K (.Tuple elts kk tpos) (ItS x) [e, it] e (fun i h => (∃ old, IsEnum h e it ((i : Nat) : Int) old) ∧ h.IsStrIter it ty x t i ∧ e ≠ it) where
  mem := by simp
  obj := fun i h st b hb => by
    obtain ⟨⟨old, he⟩, ⟨o, ho, hc, hd⟩, _⟩ := st
    have e' : b = e ∨ b = it := by simpa using hb
    rcases e' with z | z
    · rw [z]; exact ⟨_, he, fun v q => nomatch q⟩
    · rw [z]; exact ⟨o, ho, fun v q => by rw [hd] at q; cases q⟩
  keep := fun i h h' st k => let ⟨⟨old, he⟩, ⟨o, ho, r⟩, hne⟩ := st; ⟨⟨old, k e (by simp) _ he⟩, ⟨o, k it (by simp) o ho, r⟩, hne⟩
  item := by
    intro X hP hw hK hc i pins s σ H E I hf st hg
    subst hP hw hK
    obtain ⟨⟨old, he⟩, hit, hne⟩ := st
    have D : Draws X.prog X.w X.A.in1 it [it] x.cps.size (fun i v => ∃ c u, x.cps[i]? = some c ∧ v = .str ⟨#[c]⟩ u) (fun i h => h.IsStrIter it ty x t i) := by
      rcases hty with e | e
      · rw [e]; exact Draws.strAscii (A := X.A.in1) (show X.A.in1.handled = none from I.ok.hd hc) it x t
      · rw [e]; exact Draws.strWide (A := X.A.in1) (show X.A.in1.handled = none from I.ok.hd hc) it x t
    have hel : e < s.heap.objs.size := Heap.lt_size he
    have hil : it < s.heap.objs.size := by obtain ⟨_, q, _⟩ := hit; exact Heap.lt_size q
    refine wpAny_pyNext_enum_itemD D he hit hg hne (by simpa using hne) fun u h' tk hP ho hit' hT hsz hk => ?_
    obtain ⟨c, uu, hcx, rfl⟩ := hP
    refine ⟨_, rfl, wpAny_letOwnedTupleGo_enum (s := { s with heap := h', toks := tk + 1 }) ho fun h'' he' sb => ?_⟩
    have hT2 : h''.get? s.heap.objs.size = some { cls := .type "tuple", data := .seq #[.int i tk, .str ⟨#[c]⟩ uu] } := (sb.2 _ (Nat.ne_of_gt hel)).trans hT
    have new : ObjOk X.prog X.w (upd H s.heap.objs.size (.tup [.int (i : Nat), .str ⟨#[c]⟩])) h'' s.heap.objs.size (.tup [.int (i : Nat), .str ⟨#[c]⟩]) :=
      ⟨by show 2 ≤ sizeLine; decide, [.int i tk, .str ⟨#[c]⟩ uu], .cons ⟨_, rfl⟩ (.cons ⟨_, rfl⟩ .nil), ⟨_, hT2, rfl, _, rfl⟩⟩
    have I1 : Inv X pins σ (upd H s.heap.objs.size (.tup [.int (i : Nat), .str ⟨#[c]⟩])) { s with heap := h'', toks := tk + 1 } :=
      I.turnedNew (ch := [e, it]) (fun b ob hb q => (sb.2 b (fun z => hb (by simp [z]))).trans (hk b ob (fun z => hb (by simp [z])) (fun z => hb (by simp [z])) q)) hf (Nat.le_refl _) new
    obtain ⟨oi, hoi, roi⟩ := hit'
    refine ⟨.ref s.heap.objs.size, _, I1, rfl, ⟨_, c, rfl, I.hok.fresh (Nat.le_refl _), rfl, hcx⟩, ⟨⟨.str ⟨#[c]⟩ uu, ?_⟩, ⟨oi, (sb.2 it (Ne.symm hne)).trans hoi, roi⟩, hne⟩, fun b hb => ?_⟩
    · have e1 : ((i + 1 : Nat) : Int) = (i : Int) + 1 := by omega
      rw [e1]; exact he'
    · have hb' : b < s.heap.objs.size := by
        have e' : b = e ∨ b = it := by simpa using hb
        rcases e' with z | z
        · rw [z]; exact hel
        · rw [z]; exact hil
      rw [upd_ne (Nat.ne_of_lt hb')]
      exact (hf b hb).1
  done := by
    intro X hP hw hK hc i pins s σ H E I hf st hg
    subst hP hw hK
    obtain ⟨⟨old, he⟩, hit, hne⟩ := st
    obtain ⟨f0, f1, f2, f3, f4, f5⟩ := hf it (by simp)
    have hg : i = x.cps.size := hg
    subst hg
    have D : Draws X.prog X.w X.A.in1 it [it] x.cps.size (fun i v => ∃ c u, x.cps[i]? = some c ∧ v = .str ⟨#[c]⟩ u) (fun i h => h.IsStrIter it ty x t i) := by
      rcases hty with e | e
      · rw [e]; exact Draws.strAscii (A := X.A.in1) (show X.A.in1.handled = none from I.ok.hd hc) it x t
      · rw [e]; exact Draws.strWide (A := X.A.in1) (show X.A.in1.handled = none from I.ok.hd hc) it x t
    exact wpAny_pyNext_enum_endD D he hit fun h' eb => ⟨rfl, I.turned (t' := s.toks) (fun b o hb q => eb b o hb q) f0 f1 f3 f4 f5⟩
  self := fun A i s Q E st h => let ⟨⟨_, he⟩, _⟩ := st; wpAny_pyIter_enum he h
theorem pi_enumS {X : Cx} {e : Expr} {ta : TA} {p pos tpos : Pos} {elts : List Expr} {kk : Nat} (hg : Gl X "enumerate") (hm : X.mg "enumerate" = none) (ha : PA X [e] ta) (hs : starEach [e] X.env = [(false, eval e X.env)] := by rfl) :
    PI X (.Tuple elts kk tpos) (.Call (.Name "enumerate" p) [e] [] pos) (fun σ H R => ta σ H fun vs H1 => ∃ x, vs = [.str x] ∧ R (ItS x) H1) := by
  refine ⟨fun pins s σ H R I h => ?_⟩
  refine PyProof.Rows.Call_ (ld_blt I hg hm PyProof.Rows.boot_enumerate (PyProof.Rows.callWith_type1 (thn (ha.run pos pins s σ H _ I h) fun us s1 ⟨vs, H1, I1, r1, q1⟩ => ?_) hs rfl))
  obtain ⟨x, ex, q⟩ := q1
  subst ex
  cases r1 with
  | cons r rr =>
    cases rr
    obtain ⟨t, rfl⟩ := r
    refine call_enumerate_str fun h' he hit hsz hk => wpAny_pyIter_enum he ?_
    have I2 : L2.Inv X pins σ H1 { s1 with heap := h' } := I1.kept (t' := s1.toks) hk
    have hty : strIterType x = "str_ascii_iterator" ∨ strIterType x = "str_iterator" := by unfold strIterType; split; exact .inl rfl; exact .inr rfl
    refine ⟨s1.heap.objs.size + 1, [s1.heap.objs.size + 1, s1.heap.objs.size], _, _, H1, rfl, I2, turn_enumS (s1.heap.objs.size + 1) s1.heap.objs.size x t (strIterType x) hty, ⟨⟨.none, he⟩, hit, Nat.succ_ne_self _⟩, fun b hb => ?_, q⟩
    have e' : b = s1.heap.objs.size + 1 ∨ b = s1.heap.objs.size := by simpa using hb
    have hle : s1.heap.objs.size ≤ b := by
      rcases e' with z | z
      · rw [z]; exact Nat.le_add_right _ _
      · rw [z]; exact Nat.le_refl _
    exact I1.fpOk hle (I1.hok.fresh hle)
theorem walk_enumS (x : Str) : Walk (ItS x) x.cps.size (fun _ => True) (YPair (fun i => some (.int (i : Nat))) (fun i => (x.cps[i]?).map fun c => V.str ⟨#[c]⟩)) := by
  refine ⟨fun i _ hi _ => hi, fun _ _ => rfl, fun i H v H' _ _ y => ?_⟩
  obtain ⟨T, c, h1, h2, h3, h4⟩ := y
  exact ⟨T, .int (i : Nat), _, h1, h2, h3, rfl, by show Option.map _ x.cps[i]? = _; rw [h4]; rfl⟩
def enumSM : List D → M (List D)
  | [.str z] => if z.length ≤ big then ret (enumD (signsOf z)) else fault
  | [.list xs] => ret (enumD xs)
  | _ => fault
theorem si_enumS {X : Cx} {B : Bd} {e : Expr} {p pos : Pos} {fs : Env → M (List D)} {elts : List Expr} {kk : Nat} {tpos : Pos} (hK : B.K = X.K) (hg : Gl X "enumerate") (hm : X.mg "enumerate" = none) (ha : SRs X B [e] fs) (hs : starEach [e] X.env = [(false, eval e X.env)] := by rfl) :
    SIz X B (.Tuple elts kk tpos) (.Call (.Name "enumerate" p) [e] [] pos) (rngE enumSM fs) := by
  have base : PI X (.Tuple elts kk tpos) (.Call (.Name "enumerate" p) [e] [] pos) (fun σ H R => iEnum X.K (tG B (pRs B) fs) σ H R ∨ tG B (pRs B) fs σ H fun vs H1 => ∃ x, vs = [.str x] ∧ R (ItS x) H1) := pi_or (pi_enum hg hm ha hs) (pi_enumS hg hm ha hs)
  refine pi_weak base fun σ H Q h => ?_
  obtain ⟨env, O, n, s, post⟩ := h
  have post0 : Post B (pI (pPair B) O) H (seq (fs env) enumSM n) Q := post
  have post1 := post0
  unfold seq at post1
  cases r : fs env n with
  | exc c m => rw [r] at post1; exact .inl ⟨env, O, n, s, by rw [r]; exact post1⟩
  | bad => rw [r] at post1; exact post1.elim
  | ok ds m =>
    rw [r] at post1
    have post1 : Post B (pI (pPair B) O) H (enumSM ds m) Q := post1
    cases ds with
    | nil => exact post1.elim
    | cons d0 ds =>
      cases ds with
      | cons _ _ => cases d0 <;> exact post1.elim
      | nil =>
        cases d0 with
        | str z =>
          have post1 : Post B (pI (pPair B) O) H ((if z.length ≤ big then ret (enumD (signsOf z)) else fault) m) Q := post1
          split at post1
          · skip
            right
            refine ⟨env, O, n, s, ?_⟩
            rw [r]
            intro vs H1 ex tw p1
            obtain ⟨v, rfl, r1⟩ := Reps.one p1
            cases r1
            refine ⟨z, rfl, post1 _ H1 ex tw ?_⟩
            have el : (enumD (signsOf z)).length = z.cps.size := by simp [enumD, signsOf]
            refine it_pair el (walk_enumS z) (fun _ _ _ => trivial) fun i x y O1 H2 st hi hx hy => ?_
            cases hx
            rw [Array.getElem?_eq_getElem hi] at hy
            cases hy
            refine ⟨.int i, .str ⟨#[z.cps[i]]⟩, ?_, .int _, .str _⟩
            unfold enumD
            rw [List.getElem?_map, List.getElem?_range (by rw [← el] at hi; simpa [enumD] using hi)]
            simp [signsOf, hi]
          · exact post1.elim
        | list ds' =>
          have post1 : Post B (pI (pPair B) O) H (ret (enumD ds') m) Q := post1
          left
          refine ⟨env, O, n, s, ?_⟩
          rw [r]
          intro vs H1 ex tw p1
          obtain ⟨v, rfl, r1⟩ := Reps.one p1
          cases r1 with
          | @lst a xs _ h1 h2 =>
            refine ⟨a, xs, rfl, h1.sq, post1 _ H1 ex tw ?_⟩
            rw [← hK]
            have el : (enumD ds').length = xs.length := by rw [h2.length]; simp [enumD]
            refine it_pair el walk_enum (fun O' H' st => (h1.step st).sq) fun i x y O1 H2 st hi hx hy => ?_
            cases hx
            obtain ⟨d, hd, rd⟩ := Reps.at (Reps.step st _ _ h2) hy
            refine ⟨.int i, d, ?_, .int _, rd⟩
            unfold enumD
            rw [List.getElem?_map, List.getElem?_range (by rw [← h2.length]; exact hi)]
            simp [hd]
        | _ => exact post1.elim
end Sim

/-! a list comprehension whose element may raise (by a call) -/
namespace Sim
open PySem PySem.Spec L2 PyProof.Rows
section
variable {X : Cx} {pins : List (Addr × Obj)} {σ : L2.St} {H : Hp} {s s' : Shared} {E : XK}
/-- a call's exception: the state without it, and the flight -/
theorem air_call {u : Value} (I : Inv X pins σ H s) (c : L2N.CX X.prog X.w X.stack H s E u s') : ∃ (a : Addr) (B : Heap) (t : Shared) (H' : Hp) (cls : Value) (d : Option Addr),
    u = .ref a ∧ Inv X pins σ H' t ∧ (∀ b o, t.heap.get? b = some o → b ∉ frs X.stack → B.get? b = some o) ∧ t.heap.UpToSlots s'.heap ∧ HandSPX.FlyingZ B X.stack a (L2N.Zn cls d) s'.heap ∧
      (∀ b o, s.heap.get? b = some o → H b = none → b ∉ frs X.stack → B.get? b = some o) ∧ H' a = none ∧ s'.os = t.os ∧ AllBare s'.gens ∧ E cls d H' := by
  obtain ⟨a, B, H', cls, d, rfl, fly, ok, ub, na, eos, bare, hE⟩ := c
  obtain ⟨G, yes, no⟩ := restrict s'.heap fun b => (B.get? b).isSome || decide (b ∈ frs X.stack)
  have inG : ∀ b o, B.get? b = some o → G.get? b = some o := fun b o q => by
    have z := fly.1 b o q
    rw [yes b (by rw [q]; rfl)]
    exact z
  have frG : ∀ b, b ∈ frs X.stack → G.get? b = s'.heap.get? b := fun b hb => yes b (by rw [decide_eq_true hb, Bool.or_true])
  have ofG : ∀ b o, G.get? b = some o → s'.heap.get? b = some o ∧ ((B.get? b).isSome = true ∨ b ∈ frs X.stack) := fun b o q => by
    by_cases z : ((B.get? b).isSome || decide (b ∈ frs X.stack)) = true
    · rw [yes b z] at q
      refine ⟨q, ?_⟩
      rcases Bool.or_eq_true_iff.mp z with z | z
      · exact .inl z
      · exact .inr (of_decide_eq_true z)
    · rw [no b (by simpa using z)] at q
      cases q
  refine ⟨a, B, { s with heap := G, gens := s'.gens, drawn := s'.drawn, toks := s'.toks }, H', cls, d, rfl, ?_, fun b o q hb => ?_, Heap.UpToSlots.of_keeps fun b o q => (ofG b o q).1, fly, ub.keep, na, eos, bare, hE⟩
  · have un : Un (frs X.stack) [] H H' s.heap G := by
      refine ⟨fun b o q hn hb _ => inG b o (ub.keep b o q hn hb), fun b o q hn hb _ => ?_, fun b o q hn _ => ub.free b o q hn, fun b o q _ => ?_, ub.tups, ub.frzs, ub.tbls⟩
      · obtain ⟨sl, z⟩ := ub.slot b o q hb
        exact ⟨sl, (frG b hb).trans z⟩
      · by_cases hb : b ∈ frs X.stack
        · obtain ⟨sl, z⟩ := ub.slot b o q hb
          exact ⟨_, (frG b hb).trans z⟩
        · obtain ⟨o', z⟩ := ub.there b o q hb
          exact ⟨o', inG b o' z⟩
    exact I.call (ch := []) un (ok.kept inG) bare (fun _ z => nomatch z)
  · obtain ⟨q', z⟩ := ofG b o q
    rcases z with z | z
    · obtain ⟨o', w⟩ := Option.isSome_iff_exists.mp z
      have y := fly.1 b o' w
      rw [q'] at y
      cases y
      exact w
    · exact absurd z hb
theorem upd_at (h : Heap) {C : Addr} {o0 o : Obj} (e : h.get? C = some o0) (nf : o.isFreed = false) : (h.update C fun _ => o).get? C = some o := Heap.get?_update_self (fun _ => o) e nf
theorem upd_off (h : Heap) {C b : Addr} {o : Obj} (ne : b ≠ C) : (h.update C fun _ => o).get? b = h.get? b := Heap.get?_update_other _ _ (Ne.symm ne)
theorem frames_base {h B B' : Heap} (k : ∀ b, B.get? b = none → B'.get? b = none) : ∀ {l : List PySem.Env}, h.FunFrames B l → h.FunFrames B' l
  | [], _ => trivial
  | _ :: _, ⟨a, ⟨L, o, e, n, q, z⟩, r⟩ => ⟨a, ⟨L, o, e, k L n, q, z⟩, frames_base k r⟩
end
section
variable {X : Cx} {pins pins' : List (Addr × Obj)} {σ σ' : L2.St} {H3 H' : Hp} {s3 s s' : Shared} {E : XK}
/-- out of a call in the element: noted, the names let go, and on -/
theorem comp_fails {scope : Scope} {ce : PySem.Env} {fp : List Addr} {xe : Value → Shared → Prop} {e : Value} (I3 : Inv X pins σ H3 s3) (cL : ce.locals = s3.heap.objs.size) (cF : ce.frame = X.env.frame) (f3 : ∀ b ∈ fp, FpOk X pins H3 b)
    (hs : X.stack = X.env :: X.outer) (hf : X.env.frame = some X.env.locals) (tk : L2N.Takes X fun cls d _ H => E cls d H)
    (I : Inv { X.blk s3 H3 scope ce fp with xe := xe } pins' σ' H' s) (c : L2N.CX X.prog X.w X.stack H' s E e s') :
    notedBy (model X.prog X.w) X.A ce (CompFails (model X.prog X.w) X.A X.xe ce) e s' := by
  obtain ⟨a, B, t, H2, cls, d, rfl, II, nb, up, fly, kp, na, eos, bare, hE⟩ := air_call (X := { X.blk s3 H3 scope ce fp with xe := xe }) I c
  have hfr : X.A.frames = some (X.env :: X.outer) := by rw [I3.ok.frames, hs]
  have fly : HandSPX.FlyingZ B X.stack a (L2N.Zn cls d) s'.heap := fly
  have nb : ∀ b o, t.heap.get? b = some o → b ∉ frs X.stack → B.get? b = some o := nb
  have kp : ∀ b o, s.heap.get? b = some o → H' b = none → b ∉ frs X.stack → B.get? b = some o := kp
  rw [hs] at fly
  show wpAny _ _ (noteFrame (.ref a) ce) _ _ s'
  rw [noteFrame_env _ cF]
  refine PXN.looks_onZ L2N.Zn.steady hfr hf fly fun h1 held up1 => ?_
  have f2 : H2 ce.locals = none := II.free
  have fC : FpOk X pins H2 ce.locals := I3.fpOk (Nat.le_of_eq cL.symm) f2
  have nC : ce.locals ∉ frs X.stack := fun z => by
    rcases List.mem_cons.mp (I3.stkSub _ z) with q | q
    · exact fC.2.1 q
    · exact fC.2.2.1 q
  obtain ⟨m, hn, _⟩ := II.loc
  have hn : t.heap.Ns ce.locals m := hn
  have hn1 : h1.Ns ce.locals m := (hn.upToSlots up).upToSlots up1
  refine ⟨m, hn1, fun h2 m2 hn2 sb => ?_⟩
  -- the block's names in the ground
  obtain ⟨m0, hn0, _⟩ := I.loc
  have hn0 : s.heap.Ns ce.locals m0 := hn0
  obtain ⟨o0, _, _, g0, _⟩ := id hn0
  have free0 : H' ce.locals = none := I.free
  have bC : B.get? ce.locals = some o0 := kp _ o0 g0 free0 nC
  obtain ⟨oT0, _, _, gT, _⟩ := id hn
  obtain ⟨oC, es, ep, g2, dC, _⟩ := id hn2
  have nfC : oC.isFreed = false := Obj.isFreed_of_dict dC
  obtain ⟨hst, hna, hff, oe, vs, T, oT, ts, he, hz, hd, hv, hnT, hTe, hT, hdT, h3⟩ := held
  have ac : a ≠ ce.locals := fun z => by rw [z, bC] at hna; cases hna
  have Tc : T ≠ ce.locals := fun z => by rw [z, bC] at hnT; cases hnT
  generalize hB3 : (B.update ce.locals fun _ => oC) = B3
  have B3C : B3.get? ce.locals = some oC := by rw [← hB3]; exact upd_at B bC nfC
  have B3o : ∀ b, b ≠ ce.locals → B3.get? b = B.get? b := fun b ne => by rw [← hB3]; exact upd_off B ne
  have B3n : ∀ b, B.get? b = none → B3.get? b = none := fun b q => by
    have ne : b ≠ ce.locals := fun z => by rw [z, bC] at q; cases q
    rw [B3o b ne]; exact q
  have st2 : B3.StaysIn h2 := fun b o q => by
    by_cases ne : b = ce.locals
    · rw [ne, B3C] at q
      rw [ne, g2]; exact q
    · rw [B3o b ne] at q
      exact (sb.2 b ne).trans (hst b o q)
  have ff2 : h2.FunFrames B3 (X.env :: X.outer) := frames_base B3n (Heap.FunFrames.sameBut sb hn2 hff)
  have tr2 : HandSPX.TracedZ h2 B3 a (L2N.Zn cls d) (rawInt X.env.locals) := ⟨oe, vs, T, oT, ts, (sb.2 a ac).trans he, hz, hd, hv, B3n T hnT, hTe, (sb.2 T Tc).trans hT, hdT, h3⟩
  unfold PySem.passOn
  refine wpAny_bind (wpAny_field ((sb.2 a ac).trans he) hd hv ?_)
  rw [if_neg (show ¬ ((Value.ref T == Value.none) = true) from by simp), cF, hf]
  refine wpAny_bind (HandSPX.setFlight_anyZ (fr := some X.env.locals) st2 ff2 tr2 fun h4 k1 k2 k3 k4 => ?_)
  refine wpAny_throw ?_
  -- back in the def's context
  have J : Inv X pins σ H2 t := I3.call' (ch := fp) II.os II.base II.hok II.bare fun b hb => ⟨(f3 b hb).2.2.2.1, (f3 b hb).2.1, (f3 b hb).2.2.2.2.1, (f3 b hb).2.2.2.2.2⟩
  have J2 : Inv X pins σ H2 { t with heap := t.heap.update ce.locals fun _ => oC, toks := t.toks } := J.turned (it := ce.locals) (fun b o ne q => (upd_off t.heap ne).trans q) fC.1 fC.2.1 fC.2.2.2.1 fC.2.2.2.2.1 fC.2.2.2.2.2
  refine tk (.ref a) _ ⟨a, B3, _, pins, σ, H2, cls, d, rfl, J2, fun b o q hb => ?_, fun b o q hnf => ?_, .inr (.inr ?_), na, eos, bare, hE⟩
  · by_cases ne : b = ce.locals
    · rw [ne] at q ⊢
      have z : (t.heap.update ce.locals fun _ => oC).get? ce.locals = some oC := upd_at t.heap gT nfC
      have q : (t.heap.update ce.locals fun _ => oC).get? ce.locals = some o := q
      rw [z] at q
      rw [B3C]; exact q
    · have q : (t.heap.update ce.locals fun _ => oC).get? b = some o := q
      rw [upd_off t.heap ne] at q
      rw [B3o b ne]
      exact nb b o q hb
  · by_cases ne : b = ce.locals
    · have z : (t.heap.update ce.locals fun _ => oC).get? ce.locals = some oC := upd_at t.heap gT nfC
      have q : (t.heap.update ce.locals fun _ => oC).get? b = some o := q
      rw [ne, z] at q
      cases q
      rw [ne]
      exact k4 _ _ g2 hnf
    · have q : (t.heap.update ce.locals fun _ => oC).get? b = some o := q
      rw [upd_off t.heap ne] at q
      obtain ⟨sl, q1⟩ := (up.trans up1) b o q hnf
      obtain ⟨sl2, q2⟩ := k4 b _ ((sb.2 b ne).trans q1) hnf
      exact ⟨sl2, q2⟩
  · rw [hs]
    exact ⟨k1, B3n a hna, k2, k3⟩
end
section
variable {X : Cx} {E : XK}
theorem inv_xe {pins : List (Addr × Obj)} {σ : L2.St} {H : Hp} {s : Shared} {y : Value → Shared → Prop} (I : Inv X pins σ H s) : Inv { X with xe := y } pins σ H s :=
  ⟨⟨I.ok.mod, I.ok.kind, I.ok.glob, I.ok.blt, I.ok.above, I.ok.inj, I.ok.has, I.ok.cab, I.ok.hd, I.ok.frames, I.ok.stk, I.ok.exf, I.ok.bs, I.ok.bsz, I.ok.noex, I.ok.exfs, I.ok.funs, I.ok.frf⟩, I.os, I.bare, I.base, I.loc, I.cell, I.free, I.freeC, I.pin, I.hok, I.len⟩
abbrev blkX (X : Cx) (s : Shared) (H : Hp) (scope : Scope) (ce : PySem.Env) (fp : List Addr) (y : Value → Shared → Prop) : Cx := { X.blk s H scope ce fp with xe := y }
theorem pe_lcX {elt tg iter : Expr} {scope : Scope} {own : List (Str × Nat)} {pos : Pos} {wi : TI} {g : TG} {te : TE} (hc : X.calm = true) (hN : X.N.Nodup) (hst : X.stack = X.env :: X.outer) (hfr : X.env.frame = some X.env.locals) (tk : L2N.Takes X fun cls d _ H => E cls d H)
    (hi : PI X tg iter wi) (ok : BlkOk X.N X.env.scope scope own) (hg : ∀ s H C cl fp y, PG (blkX X s H scope (compEnvC scope cl C X.env) fp y) tg g)
    (he : ∀ s H C cl fp y, Passes (L2N.CX X.prog X.w) (blkX X s H scope (compEnvC scope cl C X.env) fp y) E → PE (blkX X s H scope (compEnvC scope cl C X.env) fp y) elt te) (hsf : ∀ x, foldedSetIterable iter X.env x = pure x := by intro _; rfl) :
    PE X (.ListComp elt [⟨tg, iter, [], 0⟩] scope pos) (tLc wi g tYes te (own.map (·.2))) := by
  refine ⟨fun pins s σ H Q I h => ?_⟩
  rw [eval_ListComp]
  have free : ∀ y ∈ scope.names, y.2 = .free → ∃ c, X.env.cells.lookup y.1 = some c := fun y z e => I.ok.has _ (ok.free y z e)
  refine comprehension_at (env := X.env) rfl hsf (closure_ok free) ok.kind (fun y z e => by rw [ok.uniq y z, e]) ?_
  refine thn (hi.run pins s σ H _ I h) fun xv s1 hx => thn hx fun itv s2 h2 => ?_
  obtain ⟨it, fp, tn, J, H2, rfl, I2, T, st2, f2, q⟩ := h2
  refine wpAny_newObj_type (newEnv_comp ?_) (by show 0 ≤ sizeLine; decide)
  have hDn : H2 s2.heap.objs.size = none := I2.hok.fresh (Nat.le_refl _)
  obtain ⟨W, ⟨m0, w0⟩, turn⟩ := q _ hDn
  generalize hD : s2.heap.objs.size = D at hDn w0 turn
  generalize ht3 : ({ s2 with heap := s2.heap.push { cls := .type "list", data := .seq ([] : List Value).toArray } } : Shared) = t3
  have th : t3.heap = s2.heap.push { cls := .type "list", data := .seq ([] : List Value).toArray } := by rw [← ht3]
  have hJ3 : Inv X pins σ (upd H2 D (.lst [])) t3 := by
    rw [← ht3]
    refine I2.laid (t' := s2.toks) (fun b o e => Heap.get?_push_of_some _ e) (Nat.le_of_eq hD) ⟨Nat.zero_le _, [], 0, .nil, ?_⟩
    rw [← hD]
    exact Heap.get?_push_size _ rfl
  have hfp : ∀ b ∈ fp, FpOk X pins (upd H2 D (.lst [])) b ∧ b < t3.heap.objs.size := fun b hb => by
    obtain ⟨o, e, _⟩ := T.obj _ _ st2 b hb
    have lt := Heap.lt_size e
    have ne : b ≠ D := by rw [← hD]; exact Nat.ne_of_lt lt
    exact ⟨⟨(upd_ne ne).trans (f2 b hb).1, (f2 b hb).2⟩, by rw [th, Heap.size_push]; exact Nat.lt_succ_of_lt lt⟩
  have tn3 : tn 0 t3.heap := T.keep _ _ _ st2 fun b _ o e => by rw [th]; exact Heap.get?_push_of_some _ e
  have hJ4 := block_start hJ3 ok hN hfp
  generalize hH3 : upd H2 D (.lst []) = H3 at hJ3 hJ4 w0 hfp
  show codeAny _ _ (.compStart (.ListComp elt [⟨tg, iter, [], 0⟩] scope pos) 0 (.ref it) (.ref D) (compEnvC scope (cellsFrom (t3.heap.objs.size + 1) scope.names (cloFrom X.env.cells scope.names [])) t3.heap.objs.size X.env)) (compEnds (model X.prog X.w) X.A X.xe none (EP X pins σ Q) (.ref D) (compEnvC scope (cellsFrom (t3.heap.objs.size + 1) scope.names (cloFrom X.env.cells scope.names [])) t3.heap.objs.size X.env)) { t3 with heap := pushCells (t3.heap.push { cls := .type "dict", data := .dict #[] }) scope.names }
  generalize hcl : cellsFrom (t3.heap.objs.size + 1) scope.names (cloFrom X.env.cells scope.names []) = cl at hJ4 ⊢
  have pg := fun y => hg t3 H3 t3.heap.objs.size cl fp y
  have pe := fun y => he t3 H3 t3.heap.objs.size cl fp y
  generalize hce : compEnvC scope cl t3.heap.objs.size X.env = ce at hJ4 pg pe ⊢
  have cL : ce.locals = t3.heap.objs.size := by subst hce; rfl
  have cF : ce.frame = X.env.frame := by subst hce; rfl
  generalize ht4 : ({ t3 with heap := pushCells (t3.heap.push { cls := .type "dict", data := .dict #[] }) scope.names } : Shared) = t4 at hJ4 ⊢
  have tn4 : tn 0 t4.heap := T.keep _ _ _ tn3 fun b _ o e => by rw [← ht4]; exact pushCells_keeps _ _ _ _ (Heap.get?_push_of_some _ e)
  have no3 : ∀ b ∈ fp, H3 b = none := fun b hb => (hfp b hb).1.1
  generalize hy : notedBy (model X.prog X.w) X.A ce (CompFails (model X.prog X.w) X.A X.xe ce) = y
  have pass : Passes (L2N.CX X.prog X.w) (blkX X t3 H3 scope ce fp y) E := fun pins' σ' H' s e s' I' c => by
    show y e s'
    rw [← hy]
    exact comp_fails hJ3 cL cF (fun b hb => (hfp b hb).1) hst hfr tk I' c
  have hJ4 : Inv (blkX X t3 H3 scope ce fp y) [] (wipe σ (own.map (·.2))) H3 t4 := inv_xe (X := X.blk t3 H3 scope ce fp) hJ4
  have mine : ∀ {σ' : L2.St} {H' : Hp} {s' : Shared}, Inv (blkX X t3 H3 scope ce fp y) [] σ' H' s' → (∀ b ∈ fp, H' b = none) → ∀ b ∈ fp, FpOk (blkX X t3 H3 scope ce fp y) [] H' b := fun {σ' H' s'} I' hn b hb =>
    ⟨hn b hb, (I'.ok.exf b hb).1, I'.ok.exfs b hb, .inl hb, fun x c e => (I'.ok.exf b hb).2 x c e, fun p hp => absurd (show p ∈ ([] : List (Addr × Obj)) ++ [] from hp) (by simp)⟩
  have loop : codeAny (model X.prog X.w) X.A (.compLoop (.ListComp elt [⟨tg, iter, [], 0⟩] scope pos) 0 (.ref it) (.ref D) ce) (compEnds (model X.prog X.w) X.A X.xe none (EP X pins σ Q) (.ref D) ce) t4 := by
    refine compLoop_any (fun n u => ∃ i G, Inv (blkX X t3 H3 scope ce fp y) [] (wipe σ (own.map (·.2))) G u ∧ tn i u.heap ∧ (∀ b ∈ fp, G b = none) ∧ W i n G) ?_ m0 ⟨0, H3, hJ4, tn4, no3, w0⟩
    have toN : ∀ e u, y e u → notedBy (model X.prog X.w) X.A ce (fun e s' => compEnds (model X.prog X.w) X.A X.xe none (EP X pins σ Q) (.ref D) ce (.error e) s') e u := fun e u z => by
      rw [← hy] at z
      exact z
    rintro n t5 ⟨i, G5, I5, tn5, no5, w5⟩
    rcases turn i n G5 w5 with ⟨stop, fin⟩ | ⟨go, Nx, next, step⟩
    · refine thnF (T.done (blkX X t3 H3 scope ce fp y) rfl rfl rfl hc i [] t5 _ G5 (fun _ _ => False) I5 (mine I5 no5) tn5 stop) fun r t6 ⟨hr, I6⟩ => ?_
      subst hr
      have I7 : Inv X pins σ G5 t6 := hJ3.call' (ch := fp) I6.os I6.base I6.hok I6.bare fun b hb => ⟨(hfp b hb).1.2.2.2.1, (hfp b hb).1.2.1, (hfp b hb).1.2.2.2.2.1, (hfp b hb).1.2.2.2.2.2⟩
      have fr6 : G5 ce.locals = none := I6.free
      have fC : FpOk X pins G5 ce.locals := hJ3.fpOk (Nat.le_of_eq cL.symm) fr6
      obtain ⟨m, hn, _⟩ := I6.loc
      exact ⟨m, hn, fun h' sb => ⟨.ref D, G5, I7.turned (t' := t6.toks) (fun b o ne e => (sb.2 b ne).trans e) fC.1 fC.2.1 fC.2.2.2.1 fC.2.2.2.2.1 fC.2.2.2.2.2, rfl, fin⟩⟩
    · refine thnF (T.item (blkX X t3 H3 scope ce fp y) rfl rfl rfl hc i [] t5 _ G5 (fun _ _ => False) I5 (mine I5 no5) tn5 go) fun r t6 ⟨u, hr, h6⟩ => ?_
      subst hr
      refine thnF h6 fun _ t7 ⟨x, G7, I7, r7, y7, tn7, no7⟩ => ?_
      have I7p := I7.pinned (mine I7 no7) (T.obj _ _ tn7)
      refine wpAny_mono ((pg y).run _ t7 _ G7 x u _ I7p r7 (step x G7 y7)) (fun _ t8 h8 => ?_) toN
      obtain ⟨σ8, G8, I8, hw8, q8⟩ := h8
      refine wpAny_tests_nil ?_
      simp only [if_true]
      have q8 : te σ8 G8 fun v G => ∃ acc, G D = some (.lst acc) ∧ acc.length < sizeLine ∧ Nx (upd G D (.lst (acc ++ [v]))) := q8
      refine wpAny_mono ((pe y pass).run _ t8 σ8 G8 _ I8 q8) (fun z t10 h10 => ?_) toN
      obtain ⟨yv, G10, I10, r10, acc, hD10, hz10, nx⟩ := h10
      refine app_ok (X := blkX X t3 H3 scope ce fp y) I10 hD10 hz10 r10 fun t11 I11 => ?_
      obtain ⟨m', hm, w'⟩ := next _ nx
      have pin : ∀ b ∈ fp, ∀ o, t7.heap.get? b = some o → t11.heap.get? b = some o ∧ upd G10 D (.lst (acc ++ [yv])) b = none := fun b hb o e =>
        let z := I11.pin (b, o) (List.mem_append_right _ (List.mem_append_right _ (mem_pinsAt hb e)))
        ⟨z.1, z.2.1⟩
      have hl : (wipe σ (own.map (·.2))).length = σ8.length := by rw [← hw8, wipe_length]
      refine ⟨m', hm, i + 1, _, (I11.unpinned (pins := [])).weak hl (fun j v e => ?_), T.keep _ _ _ tn7 fun b hb o e => (pin b hb o e).1, fun b hb => ?_, w'⟩
      · rw [← hw8] at e
        exact (wipe_some e).1
      · obtain ⟨o, e, _⟩ := T.obj _ _ tn7 b hb
        exact (pin b hb o e).2
  exact codeAny_compStart_list loop (T.self X.A 0 _ _ _ tn4 loop)
end
/-! ### in the semantics -/
def lcXF (bnd : D → Env → Option Env) (fe : Env → M D) (env : Env) : List D → M (List D)
  | [] => ret []
  | d :: ds => seq (lift (bnd d env)) fun env1 => seq (fe env1) fun y => seq (lcXF bnd fe env ds) fun r => ret (y :: r)
def lcXE (fi : Env → M (List D)) (vs : List Nat) (bnd : D → Env → Option Env) (fe : Env → M D) : Env → M (List D) := fun env => seq (fi env) fun ds => if ds.length ≤ big then lcXF bnd fe (wipeE env vs) ds else fault
theorem lcX_run {B : Bd} {P P' : Hp → OS → V → D → Prop} (hP : ∀ H O v d, P H O v d → P' H O v d) {fi : Env → M (List D)} {vs is : List Nat} {bnd : D → Env → Option Env} {fe : Env → M D} {σ : L2.St} {H : Hp} {Q : VK} (hsub : ∀ i ∈ is, i ∈ vs)
    (h : tG B (pN B) (lcXE fi vs bnd fe) σ H Q) : tLc (tG B (pI P) fi) (tTg (noxB B) P' is bnd) tYes (tG B (pE B) fe) vs σ H Q := by
  obtain ⟨env, O, n, s, post⟩ := h
  unfold tLc
  refine tG_seq1 (g := fun env (ds : List D) => if ds.length ≤ big then lcXF bnd fe (wipeE env vs) ds else fault) lat_N s post fun ds J n1 H1 s1 e1 p1 q1 => ?_
  by_cases hbig : ds.length ≤ big
  · rw [if_pos hbig] at q1
    intro Dl hD
    obtain ⟨G, Y, W, hG, hY⟩ := p1
    have hDT : ¬ B.T.has Dl := s1.town.cold hD
    have hD0 : B.H0 Dl = none := none_back s1.fr1 s1.town hD
    have hDs : ∀ (i : Nat) (sv : SV), (wipeE env vs)[i]? = some (some sv) → sv.ow = true → (L2.wipe σ vs)[i]? ≠ some (some (.ref Dl)) := (s1.wipe vs).free hD
    have hst : ∀ {H' : Hp}, Ext B.T H1 H' → Step O H1 (addO O Dl) H' := fun ex a o h na => ⟨ex a o (fun z => na (s1.tO a z)) h, fun z => z.elim na (ne_of_none h hD)⟩
    refine lc_it W (fun i H' => ∃ n' acc accD, Sim B (wipeE env vs) (addO O Dl) n' (L2.wipe σ vs) H' ∧ Ext B.T H1 H' ∧ H' Dl = some (.lst acc) ∧ Reps B.K H' (addO O Dl) acc accD ∧ acc.length ≤ i ∧
      Post B (pN B O) H1 (seq (lcXF bnd fe (wipeE env vs) (ds.drop i)) (fun r => ret (accD ++ r)) n') Q) ?_ (fun i H' _ h => ?_) (fun i x H' H'' hi h y => ?_) (fun H' h => ?_)
    · refine ⟨n1, [], [], (s1.wipe vs).addFree hD, same_ext (same_new hD), upd_same, .nil, Nat.zero_le _, ?_⟩
      have e : seq (lcXF bnd fe (wipeE env vs) (ds.drop 0)) (fun r => ret ([] ++ r)) = lcXF bnd fe (wipeE env vs) ds := seq_ret _
      rw [e]; exact q1
    · obtain ⟨n', acc, accD, s', ex, _⟩ := h
      exact hG _ _ (hst ex)
    · obtain ⟨n', acc, accD, s', ex, hacc, racc, hlen, post'⟩ := h
      obtain ⟨sm, d, hd, rd⟩ := hY i x _ H' H'' (hst ex) s'.dom hi y
      have s2 := s'.ext (same_ext sm) (same_town sm s'.town)
      rw [List.drop_eq_getElem_cons hi] at post'
      have ed : ds[i] = d := by rw [List.getElem?_eq_getElem hi] at hd; exact Option.some.inj hd
      rw [ed] at post'
      have post' : Post B (pN B O) H1 (seq (seq (lift (bnd d (wipeE env vs))) fun env1 => seq (fe env1) fun y => seq (lcXF bnd fe (wipeE env vs) (ds.drop (i + 1))) fun r => ret (y :: r)) (fun r => ret (accD ++ r)) n') Q := post'
      cases eb : bnd d (wipeE env vs) with
      | none => rw [eb] at post'; exact post'.elim
      | some env1 =>
        rw [eb] at post'
        refine ⟨wipeE env vs, addO O Dl, n', d, env1, s2.nox, hP _ _ _ _ rd, eb, fun σ2 s3 hl ho => ⟨wipe_same hsub hl ho, ?_⟩⟩
        have s3 : Sim B env1 (addO O Dl) n' σ2 H'' := Sim.unnox s3
        have post' : Post B (pN B O) H1 (seq (seq (fe env1) fun y => seq (lcXF bnd fe (wipeE env vs) (ds.drop (i + 1))) fun r => ret (y :: r)) (fun r => ret (accD ++ r)) n') Q := post'
        show tG B (pE B) fe σ2 H'' _
        refine ⟨env1, addO O Dl, n', s3, ?_⟩
        have exA : Ext B.T H1 H'' := ex.trans (same_ext sm)
        have hacc3 : H'' Dl = some (.lst acc) := sm _ _ hacc
        have racc3 : Reps B.K H'' (addO O Dl) acc accD := Reps.step (same_step sm) _ _ racc
        cases re : fe env1 n' with
        | exc c m2 =>
          simp only [seq, re] at post'
          exact post'
        | bad => simp only [seq, re] at post'; exact post'.elim
        | ok yd m2 =>
          have post' : Post B (pN B O) H1 (seq (seq (lcXF bnd fe (wipeE env vs) (ds.drop (i + 1))) fun r => ret (yd :: r)) (fun r => ret (accD ++ r)) m2) Q := by
            have e2 : seq (seq (fe env1) fun y => seq (lcXF bnd fe (wipeE env vs) (ds.drop (i + 1))) fun r => ret (y :: r)) (fun r => ret (accD ++ r)) n' = seq (seq (lcXF bnd fe (wipeE env vs) (ds.drop (i + 1))) fun r => ret (yd :: r)) (fun r => ret (accD ++ r)) m2 := by
              simp only [seq, re]
            rw [e2] at post'; exact post'
          rw [seq_app] at post'
          intro v H4 ex4 tw4 rep
          have s5 := s2.ext ex4 tw4
          obtain ⟨s6, st6⟩ := s5.updFree (o := .lst (acc ++ [v])) (.inr rfl) hDT hD0 hDs
          refine ⟨acc, ex4 _ _ hDT hacc3, ?_, m2, acc ++ [v], accD ++ [yd], s6, ?_, upd_same, ?_, ?_, post'⟩
          · have : acc.length < big := by omega
            exact Nat.lt_of_lt_of_le this big_line
          · intro a o na h
            rw [upd_ne (ne_of_none h hD)]
            exact ex4 a o na (exA a o na h)
          · exact Reps.step st6 _ _ ((Reps.step (step_of s5.tO ex4) _ _ racc3).append (.cons rep .nil))
          · rw [List.length_append, List.length_singleton]; omega
    · obtain ⟨n', acc, accD, s', ex, hacc, racc, hlen, post'⟩ := h
      rw [List.drop_length] at post'
      have post' : Post B (pN B O) H1 (ret (accD ++ []) n') Q := post'
      rw [List.append_nil] at post'
      exact post' (.ref Dl) H' ex s'.town ⟨Dl, acc, rfl, hD, hacc, racc⟩
  · rw [if_neg hbig] at q1; exact q1.elim
section
variable {X : Cx} {B : Bd} {E : XK}
theorem sn_lcX {P P' : Hp → OS → V → D → Prop} {elt tg iter : Expr} {scope : Scope} {own : List (Str × Nat)} {pos : Pos} {fi : Env → M (List D)} {is : List Nat} {bnd : D → Env → Option Env} {fe : Env → M D} (hc : X.calm = true) (hN : X.N.Nodup) (hst : X.stack = X.env :: X.outer) (hfr : X.env.frame = some X.env.locals) (tk : L2N.Takes X fun cls d _ H => E cls d H)
    (hi : PI X tg iter (tG B (pI P) fi)) (ok : BlkOk X.N X.env.scope scope own) (hg : ∀ s H C cl fp y, PG (blkX X s H scope (compEnvC scope cl C X.env) fp y) tg (tTg (noxB B) P' is bnd))
    (he : ∀ s H C cl fp y, Passes (L2N.CX X.prog X.w) (blkX X s H scope (compEnvC scope cl C X.env) fp y) E → SE (blkX X s H scope (compEnvC scope cl C X.env) fp y) B elt fe) (hsub : ∀ i ∈ is, i ∈ own.map (·.2)) (hs : ∀ x, foldedSetIterable iter X.env x = pure x := by intro _; rfl) (hP : ∀ H O v d, P H O v d → P' H O v d := by intro _ _ _ _ h; exact h) :
    SN X B (.ListComp elt [⟨tg, iter, [], 0⟩] scope pos) (lcXE fi (own.map (·.2)) bnd fe) :=
  pe_weak (pe_lcX hc hN hst hfr tk hi ok hg he hs) fun _ _ _ h => lcX_run hP hsub h
end
end Sim

/-! Laws of the data semantics: sequences, comprehensions, loops, texts. -/
namespace Sim
open PySem PySem.Spec L2

theorem seq_r {α β : Type} (a : α) (f : α → M β) : seq (ret a) f = f a := rfl
theorem seq_f {α β : Type} (f : α → M β) : seq (fault : M α) f = fault := rfl
theorem lift_s {α : Type} (a : α) : lift (some a) = ret a := rfl
theorem noexc_r {α : Type} (a : α) : noexc (ret a) = ret a := rfl
theorem seq_assoc {α β γ : Type} (x : M α) (f : α → M β) (g : β → M γ) : seq (seq x f) g = seq x fun a => seq (f a) g := by
  funext n
  simp only [seq]
  cases x n <;> rfl
def raiseM {α : Type} (c : Nat) : M α := fun n => .exc c n
theorem seq_x {α β : Type} (c : Nat) (f : α → M β) : seq (raiseM c) f = raiseM c := rfl

/-! ### runs that end well, with at most k draws -/
def Ok {α : Type} (k : Nat) (x : M α) (P : α → Prop) : Prop := ∀ n : Sta, n.n + k ≤ big → ∃ a m, x n = .ok a m ∧ (m.n ≤ n.n + k ∧ m.ls = n.ls) ∧ P a
section
variable {α β : Type} {x : M α} {f : α → M β} {P : α → Prop} {Q : β → Prop} {k k1 k2 : Nat}
theorem Ok.ret {a : α} (h : P a) : Ok k (Sim.ret a) P := fun n _ => ⟨a, n, rfl, ⟨by omega, rfl⟩, h⟩
theorem Ok.of {a : α} (e : x = Sim.ret a) (h : P a) : Ok k x P := by rw [e]; exact Ok.ret h
theorem Ok.seq (h1 : Ok k1 x P) (h2 : ∀ a, P a → Ok k2 (f a) Q) : Ok (k1 + k2) (Sim.seq x f) Q := fun n hn => by
  obtain ⟨a, m, e, hm, p⟩ := h1 n (by omega)
  obtain ⟨b, m', e', hm', q⟩ := h2 a p m (by omega)
  exact ⟨b, m', by simp only [Sim.seq, e, e'], ⟨by omega, hm'.2.trans hm.2⟩, q⟩
theorem Ok.step (h1 : Ok k1 x P) (hk : k1 ≤ k) (h2 : ∀ a, P a → Ok (k - k1) (f a) Q) : Ok k (Sim.seq x f) Q := by
  have h := Ok.seq h1 h2
  have e : k1 + (k - k1) = k := by omega
  rw [e] at h; exact h
theorem Ok.mono {Q : α → Prop} (h : Ok k1 x P) (hk : k1 ≤ k) (q : ∀ a, P a → Q a) : Ok k x Q := fun n hn => by
  obtain ⟨a, m, e, hm, p⟩ := h n (by omega)
  exact ⟨a, m, e, ⟨by omega, hm.2⟩, q a p⟩
theorem Ok.noexc (h : Ok k x P) : Ok k (Sim.noexc x) P := fun n hn => by
  obtain ⟨a, m, e, hm, p⟩ := h n hn
  exact ⟨a, m, by simp only [Sim.noexc, e], hm, p⟩
end
theorem law_of {N : Nat} {g : Env → M Fl} {ns : List Int} (h : Ok 1000000 (g (lawEnv N ns)) fun f => f = .ret (.bool true)) : ∃ n, lawR N g ns = .ok (.bool true) n := by
  obtain ⟨a, m, e, _, rfl⟩ := h ⟨0, []⟩ (by decide)
  exact ⟨m, by simp only [lawR, seq, e, finM, ret]⟩

/-! ### comprehensions -/
theorem lc_pure {bnd : D → Env → Option Env} {gt : Env → M Bool} {fe : Env → M D} {env : Env} (e : D → Env) (p : D → Bool) (h : D → D) : ∀ ds : List D, (∀ d ∈ ds, bnd d env = some (e d)) → (∀ d ∈ ds, gt (e d) = ret (p d)) → (∀ d ∈ ds, p d = true → fe (e d) = ret (h d)) →
    lcF bnd gt fe env ds = ret ((ds.filter p).map h)
  | [], _, _, _ => rfl
  | d :: ds, hb, ht, he => by
    have ih := lc_pure e p h ds (fun x hx => hb x (List.mem_cons_of_mem _ hx)) (fun x hx => ht x (List.mem_cons_of_mem _ hx)) (fun x hx => he x (List.mem_cons_of_mem _ hx))
    simp only [lcF, hb d List.mem_cons_self, lift_s, seq_r, ht d List.mem_cons_self, noexc_r, ih]
    cases q : p d with
    | true => simp only [if_true, he d List.mem_cons_self q, noexc_r, seq_r, List.filter_cons, q, List.map_cons]
    | false => simp [List.filter_cons, q]
theorem lc_map {bnd : D → Env → Option Env} {fe : Env → M D} {env : Env} (e : D → Env) (h : D → D) (ds : List D) (hb : ∀ d ∈ ds, bnd d env = some (e d)) (he : ∀ d ∈ ds, fe (e d) = ret (h d)) : lcF bnd yesT fe env ds = ret (ds.map h) := by
  have := lc_pure (gt := yesT) e (fun _ => true) h ds hb (fun _ _ => rfl) (fun d hd _ => he d hd)
  rw [this]
  rw [List.filter_eq_self.mpr (fun _ _ => rfl)]
/-- over a list of ints (or of any f): the form one uses -/
theorem lc_mapf {γ : Type} {bnd : D → Env → Option Env} {fe : Env → M D} {env : Env} (i : γ → D) (e : γ → Env) (h : γ → D) : ∀ cs : List γ, (∀ c ∈ cs, bnd (i c) env = some (e c)) → (∀ c ∈ cs, fe (e c) = ret (h c)) → lcF bnd yesT fe env (cs.map i) = ret (cs.map h)
  | [], _, _ => rfl
  | c :: cs, hb, he => by
    have ih := lc_mapf i e h cs (fun x hx => hb x (List.mem_cons_of_mem _ hx)) (fun x hx => he x (List.mem_cons_of_mem _ hx))
    simp only [List.map_cons, lcF, hb c List.mem_cons_self, lift_s, seq_r, yesT, noexc_r, if_true, he c List.mem_cons_self]
    rw [ih]
    rfl
theorem lc_filterf {γ : Type} {bnd : D → Env → Option Env} {gt : Env → M Bool} {fe : Env → M D} {env : Env} (i : γ → D) (e : γ → Env) (p : γ → Bool) (h : γ → D) : ∀ cs : List γ, (∀ c ∈ cs, bnd (i c) env = some (e c)) → (∀ c ∈ cs, gt (e c) = ret (p c)) → (∀ c ∈ cs, p c = true → fe (e c) = ret (h c)) →
    lcF bnd gt fe env (cs.map i) = ret ((cs.filter p).map h)
  | [], _, _, _ => rfl
  | c :: cs, hb, ht, he => by
    have ih := lc_filterf i e p h cs (fun x hx => hb x (List.mem_cons_of_mem _ hx)) (fun x hx => ht x (List.mem_cons_of_mem _ hx)) (fun x hx => he x (List.mem_cons_of_mem _ hx))
    simp only [List.map_cons, lcF, hb c List.mem_cons_self, lift_s, seq_r, ht c List.mem_cons_self, noexc_r, ih]
    cases q : p c with
    | true => simp only [if_true, he c List.mem_cons_self q, noexc_r, seq_r, List.filter_cons, q, List.map_cons]
    | false => simp [List.filter_cons, q]
/-- with draws: each item keeps P -/
theorem lc_ok {bnd : D → Env → Option Env} {fe : Env → M D} {env : Env} {k : Nat} (e : D → Env) (P : D → Prop) : ∀ ds : List D, (∀ d ∈ ds, bnd d env = some (e d)) → (∀ d ∈ ds, Ok k (fe (e d)) P) → Ok (ds.length * k) (lcF bnd yesT fe env ds) fun r => r.length = ds.length ∧ ∀ x ∈ r, P x
  | [], _, _ => Ok.ret ⟨rfl, fun x hx => by cases hx⟩
  | d :: ds, hb, he => by
    have ih := lc_ok e P ds (fun x hx => hb x (List.mem_cons_of_mem _ hx)) (fun x hx => he x (List.mem_cons_of_mem _ hx))
    simp only [lcF, hb d List.mem_cons_self, lift_s, seq_r, yesT, noexc_r, if_true]
    have e1 : (d :: ds).length * k = k + ds.length * k := by simp only [List.length_cons]; rw [Nat.add_mul, Nat.one_mul, Nat.add_comm]
    rw [e1]
    refine Ok.seq (he d List.mem_cons_self).noexc fun y py => ?_
    refine (Ok.seq (k2 := 0) ih fun r pr => Ok.ret ⟨?_, ?_⟩).mono (Nat.le_refl _) fun _ h => h
    · simp [pr.1]
    · intro x hx
      rcases List.mem_cons.mp hx with rfl | hx
      · exact py
      · exact pr.2 x hx
/-! ### loops -/
theorem for_pure {S : Type} {bnd : D → Env → Option Env} {gb : Env → M Fl} (E : S → Env) (step : S → D → S) : ∀ (ds : List D) (s : S), (∀ d ∈ ds, ∀ s, ∃ e1, bnd d (E s) = some e1 ∧ gb e1 = ret (.next (E (step s d)))) → forF bnd gb ds (E s) = ret (.next (E (ds.foldl step s)))
  | [], s, _ => rfl
  | d :: ds, s, h => by
    obtain ⟨e1, h1, h2⟩ := h d List.mem_cons_self s
    simp only [forF, h1, lift_s, seq_r, h2, loopM, List.foldl_cons]
    exact for_pure E step ds (step s d) fun x hx => h x (List.mem_cons_of_mem _ hx)
/-- a loop by a word over what was done and the slots -/
theorem for_ok {bnd : D → Env → Option Env} {gb : Env → M Fl} {k : Nat} (J : List D → Env → Prop) : ∀ (ds pre : List D) (env : Env), J pre env → (∀ pre d post env, J pre env → ds = post ++ d :: (ds.drop (post.length + 1)) → ∃ e1, bnd d env = some e1 ∧ Ok k (gb e1) fun f => ∃ env', f = .next env' ∧ J (pre ++ [d]) env') →
    Ok (ds.length * k) (forF bnd gb ds env) fun f => ∃ env', f = .next env' ∧ J (pre ++ ds) env'
  | [], pre, env, j, _ => Ok.ret ⟨env, rfl, by rw [List.append_nil]; exact j⟩
  | d :: ds, pre, env, j, h => by
    obtain ⟨e1, h1, h2⟩ := h pre d [] env j (by simp)
    simp only [forF, h1, lift_s, seq_r]
    have e1' : (d :: ds).length * k = k + ds.length * k := by simp only [List.length_cons]; rw [Nat.add_mul, Nat.one_mul, Nat.add_comm]
    rw [e1']
    refine Ok.seq h2 fun f hf => ?_
    obtain ⟨env', rfl, j'⟩ := hf
    have ih := for_ok J ds (pre ++ [d]) env' j' fun pre' d' post env'' j'' e => by
      refine h pre' d' (d :: post) env'' j'' ?_
      simp only [List.cons_append, List.length_cons, List.drop_succ_cons]
      rw [← e]
    rw [List.append_assoc] at ih
    exact ih
/-! ### texts by their signs -/
def txt (l : List Nat) : Str := ⟨l.toArray⟩
theorem txt_inj {a b : List Nat} (h : txt a = txt b) : a = b := by
  have := congrArg (fun s : Str => s.cps.toList) h
  simpa [txt] using this
theorem txt_len (l : List Nat) : (txt l).length = l.length := by simp [txt, Str.length]
theorem txt_cps (l : List Nat) : (txt l).cps.toList = l := by simp [txt]
theorem txt_of (s : Str) : s = txt s.cps.toList := by cases s; simp [txt]
theorem txt_app (a b : List Nat) : txt a ++ txt b = txt (a ++ b) := by
  show (⟨a.toArray ++ b.toArray⟩ : Str) = ⟨(a ++ b).toArray⟩
  simp
theorem txt_mul (l : List Nat) (k : Int) : Txt.mul (txt l) k = txt (List.replicate k.toNat l).flatten := by
  unfold Txt.mul
  by_cases h1 : k < 1
  · rw [if_pos h1, show k.toNat = 0 by omega]; rfl
  · rw [if_neg h1]
    by_cases h2 : (k == 1 || (txt l).length == 0) = true
    · rw [if_pos h2]
      simp only [Bool.or_eq_true, beq_iff_eq] at h2
      rcases h2 with h2 | h2
      · subst h2; simp
      · have : l = [] := by rw [txt_len] at h2; exact List.length_eq_zero_iff.mp h2
        subst this; simp
    · rw [if_neg h2]
      have fold : ∀ (m : Nat) (acc : List Nat), (List.replicate m l.toArray).foldl (· ++ ·) acc.toArray = (acc ++ (List.replicate m l).flatten).toArray := by
        intro m
        induction m with
        | zero => intro acc; simp
        | succ m ih =>
          intro acc
          rw [List.replicate_succ, List.foldl_cons]
          have : acc.toArray ++ l.toArray = (acc ++ l).toArray := by simp
          rw [this, ih]
          simp [List.replicate_succ]
      show (⟨(List.replicate k.toNat l.toArray).foldl (· ++ ·) #[]⟩ : Str) = _
      have := fold k.toNat []
      simp only [List.nil_append] at this
      rw [show (#[] : Array Nat) = ([] : List Nat).toArray from rfl, this]
      rfl
theorem eqv_str (a b : List Nat) : PyData.eqv (.str (txt a)) (.str (txt b)) = decide (a = b) := by
  have : PyData.eqv (.str (txt a)) (.str (txt b)) = (txt a == txt b) := by simp [PyData.eqv]
  rw [this]
  by_cases h : a = b
  · subst h; simp
  · rw [decide_eq_false h]
    exact beq_eq_false_iff_ne.mpr fun z => h (txt_inj z)
theorem cut_txt (l : List Nat) (lo hi : Option Int) : cutS (txt l) lo hi = txt (cutL l lo hi) := by
  unfold cutS cutL
  rw [txt_cps, txt_len]; rfl
theorem signs_txt (l : List Nat) : signsOf (txt l) = l.map fun c => .str (txt [c]) := by
  unfold signsOf; rw [txt_cps]; rfl
theorem glued_nil (ls : List (List Nat)) : Txt.join (txt []) (ls.map txt) = txt ls.flatten := by
  cases ls with
  | nil => rfl
  | cons l ls =>
    have fold : ∀ (ls : List (List Nat)) (acc : List Nat), (ls.map txt).foldl (fun acc p => acc ++ (txt []).cps ++ p.cps) acc.toArray = (acc ++ ls.flatten).toArray := by
      intro ls
      induction ls with
      | nil => intro acc; simp
      | cons m ls ih =>
        intro acc
        rw [List.map_cons, List.foldl_cons]
        have : acc.toArray ++ (txt []).cps ++ (txt m).cps = (acc ++ m).toArray := by simp [txt]
        rw [this, ih]
        simp
    show (⟨(ls.map txt).foldl (fun acc p => acc ++ (txt []).cps ++ p.cps) l.toArray⟩ : Str) = _
    rw [fold]
    rfl
/-! ### the operations on known data -/
theorem addD_ii (i j : Int) : addD (.int i) (.int j) = some (.int (i + j)) := rfl
theorem addD_ss {x y : Str} (h : x.length + y.length ≤ big) : addD (.str x) (.str y) = some (.str (x ++ y)) := if_pos h
theorem addD_txt {x y : List Nat} (h : x.length + y.length ≤ big) : addD (.str (txt x)) (.str (txt y)) = some (.str (txt (x ++ y))) := by
  rw [addD_ss (by rw [txt_len, txt_len]; exact h), txt_app]
theorem addD_ll {xs ys : List D} (h : xs.length + ys.length ≤ big) : addD (.list xs) (.list ys) = some (.list (xs ++ ys)) := if_pos h
theorem addD_tt {xs ys : List D} (h : xs.length + ys.length ≤ big) : addD (.tuple xs) (.tuple ys) = some (.tuple (xs ++ ys)) := if_pos h
theorem subD_ii (i j : Int) : subD (.int i) (.int j) = some (.int (i - j)) := rfl
theorem mulD_ii {i j : Int} (h : i.natAbs < 2 ^ 64 ∨ j.natAbs < 2 ^ 64) : mulD (.int i) (.int j) = some (.int (i * j)) := if_pos h
theorem mulD_txt {x : List Nat} {k : Int} (h : k.natAbs ≤ 1000 ∧ x.length ≤ 1000) : mulD (.str (txt x)) (.int k) = some (.str (txt (List.replicate k.toNat x).flatten)) := by
  show (if k.natAbs ≤ 1000 ∧ (txt x).length ≤ 1000 then some (PyData.str (Txt.mul (txt x) k)) else none) = _
  rw [txt_len, if_pos h, txt_mul]
theorem mulD_li {xs : List D} {k : Int} (h : k.natAbs ≤ 1000 ∧ xs.length ≤ 1000) : mulD (.list xs) (.int k) = some (.list (List.replicate k.toNat xs).flatten) := if_pos h
theorem mulD_ti {xs : List D} {k : Int} (h : 2 ≤ k ∧ k ≤ 1000 ∧ xs ≠ [] ∧ xs.length ≤ 1000) : mulD (.tuple xs) (.int k) = some (.tuple (List.replicate k.toNat xs).flatten) := if_pos h
theorem fdivD_ii {i j : Int} (h : 0 < j ∧ j < 1073741824) : fdivD (.int i) (.int j) = some (.int (i / j)) := if_pos ⟨h.1, Nat.lt_of_lt_of_le (show j.natAbs < 1073741824 by omega) (by decide)⟩
theorem fdivD_big {i j : Int} (h : 0 < j) (h2 : j.natAbs < 2 ^ 1000) : fdivD (.int i) (.int j) = some (.int (i / j)) := if_pos ⟨h, h2⟩
theorem modD_ii {i j : Int} (h : 0 < j) : modD (.int i) (.int j) = some (.int (i % j)) := if_pos h
theorem powD_ii {i j : Int} (h : 0 ≤ j ∧ j ≤ 1000000 ∧ i.natAbs < 2 ^ 64) : powD (.int i) (.int j) = some (.int (i ^ j.toNat)) := if_pos h
theorem ltD_ii (i j : Int) : ltD (.int i) (.int j) = some (.bool (decide (i < j))) := rfl
theorem leD_ii (i j : Int) : leD (.int i) (.int j) = some (.bool (decide (i ≤ j))) := rfl
theorem gtD_ii (i j : Int) : gtD (.int i) (.int j) = some (.bool (decide (j < i))) := rfl
theorem geD_ii (i j : Int) : geD (.int i) (.int j) = some (.bool (decide (j ≤ i))) := rfl
theorem eqD_ii (i j : Int) : eqD (.int i) (.int j) = some (.bool (decide (i = j))) := by
  have : eqD (.int i) (.int j) = some (.bool (i == j)) := by simp [eqD, PyData.eqv, PyData.depth]
  rw [this]; congr 2
theorem neD_ii (i j : Int) : neD (.int i) (.int j) = some (.bool (!decide (i = j))) := by
  have : neD (.int i) (.int j) = some (.bool (!(i == j))) := by simp [neD, PyData.eqv, PyData.depth]
  rw [this]; congr 3
theorem eqD_ss (x y : Str) : eqD (.str x) (.str y) = some (.bool (decide (x = y))) := by
  have : eqD (.str x) (.str y) = some (.bool (x == y)) := by simp [eqD, PyData.eqv, PyData.depth]
  rw [this]; congr 2
theorem neD_ss (x y : Str) : neD (.str x) (.str y) = some (.bool (!decide (x = y))) := by
  have : neD (.str x) (.str y) = some (.bool (!(x == y))) := by simp [neD, PyData.eqv, PyData.depth]
  rw [this]; congr 3
theorem eqD_txt (x y : List Nat) : eqD (.str (txt x)) (.str (txt y)) = some (.bool (decide (x = y))) := by
  rw [eqD_ss]; congr 2; exact decide_eq_decide.mpr ⟨txt_inj, fun h => by rw [h]⟩
theorem neD_txt (x y : List Nat) : neD (.str (txt x)) (.str (txt y)) = some (.bool (!decide (x = y))) := by
  rw [neD_ss]; congr 3; exact decide_eq_decide.mpr ⟨txt_inj, fun h => by rw [h]⟩
theorem ixD_l (xs : List D) (i : Int) : ixD (.list xs) (.int i) = atI xs i := rfl
theorem ixD_t (xs : List D) (i : Int) : ixD (.tuple xs) (.int i) = atI xs i := rfl
theorem ixD_txt {x : List Nat} {i : Int} (h : x.length ≤ big) : ixD (.str (txt x)) (.int i) = (atI x i).map fun c => .str (txt [c]) := by
  show (if (txt x).length ≤ big then _ else _) = _
  rw [txt_len, if_pos h, txt_cps]; rfl
theorem lenD_l (xs : List D) : lenD [.list xs] = some (.int xs.length) := rfl
theorem lenD_t (xs : List D) : lenD [.tuple xs] = some (.int xs.length) := rfl
theorem lenD_txt {x : List Nat} (h : x.length ≤ big) : lenD [.str (txt x)] = some (.int x.length) := by
  show (if (txt x).length ≤ big then _ else _) = _
  rw [txt_len, if_pos h]
theorem atI_lt {α : Type} {l : List α} {k : Nat} (h : k < l.length) : atI l (k : Int) = some l[k] := atI_nat (List.getElem?_eq_getElem h)
theorem atI_int {α : Type} {l : List α} {i : Int} (h0 : 0 ≤ i) (h : i < l.length) : atI l i = some (l[i.toNat]'(by omega)) := by
  have h1 : i.toNat < l.length := by omega
  have e : atI l ((i.toNat : Nat) : Int) = some l[i.toNat] := atI_lt h1
  rw [show ((i.toNat : Nat) : Int) = i by omega] at e
  exact e
theorem sliceD_l (xs : List D) (lo hi : Option Int) : sliceD (.list xs) lo hi = some (.list (cutL xs lo hi)) := rfl
theorem sliceD_t (xs : List D) (lo hi : Option Int) : sliceD (.tuple xs) lo hi = some (.tuple (cutL xs lo hi)) := rfl
theorem sliceD_txt {x : List Nat} {lo hi : Option Int} (h : x.length ≤ big) : sliceD (.str (txt x)) lo hi = some (.str (txt (cutL x lo hi))) := by
  show (if (txt x).length ≤ big then _ else _) = _
  rw [txt_len, if_pos h, cut_txt]
theorem cutL_to {α : Type} (l : List α) (k : Nat) : cutL l none (some (k : Int)) = l.take k := by
  unfold cutL
  rw [HT.sIx_none, HT.sIx_nat]
  simp only [List.drop_zero, Nat.sub_zero]
  by_cases h : k ≤ l.length
  · rw [Nat.min_eq_left h]
  · rw [Nat.min_eq_right (by omega), List.take_length, List.take_of_length_le (by omega)]
theorem cutL_from {α : Type} (l : List α) (k : Nat) : cutL l (some (k : Int)) none = l.drop k := by
  unfold cutL
  rw [HT.sIx_none, HT.sIx_nat]
  by_cases h : k ≤ l.length
  · rw [Nat.min_eq_left h, List.take_of_length_le (by simp)]
  · rw [Nat.min_eq_right (by omega), List.drop_of_length_le (Nat.le_refl _), List.drop_of_length_le (by omega)]; simp
theorem cutL_mid {α : Type} (l : List α) (i j : Nat) : cutL l (some (i : Int)) (some (j : Int)) = (l.drop i).take (j - i) := by
  unfold cutL
  rw [HT.sIx_nat, HT.sIx_nat]
  by_cases h : i ≤ l.length
  · rw [Nat.min_eq_left h]
    by_cases h2 : j ≤ l.length
    · rw [Nat.min_eq_left h2]
    · rw [Nat.min_eq_right (by omega), List.take_of_length_le (by simp), List.take_of_length_le (by simp; omega)]
  · rw [List.drop_of_length_le (show l.length ≤ min i l.length by omega), List.drop_of_length_le (show l.length ≤ i by omega)]; simp
theorem joinD_txt {ls : List (List Nat)} (h : (ls.map List.length).sum ≤ big) : joinD (.str (txt [])) [.list (ls.map fun l => .str (txt l))] = some (.str (txt ls.flatten)) := by
  have e : strsOf (ls.map fun l => PyData.str (txt l)) = some (ls.map txt) := by
    clear h
    induction ls with
    | nil => rfl
    | cons l ls ih => simp [strsOf, ih]
  have hl : ((ls.map txt).map (·.length)).sum = (ls.map List.length).sum := by
    rw [List.map_map]; exact congrArg List.sum (List.map_congr_left fun l _ => txt_len l)
  show (strsOf (ls.map fun l => PyData.str (txt l))).bind _ = _
  rw [e]
  show (if ((ls.map txt).map (·.length)).sum + (ls.map txt).length * (txt []).length ≤ big then some (PyData.str (Txt.join (txt []) (ls.map txt))) else none) = _
  rw [hl, txt_len, if_pos (by simpa using h), glued_nil]
theorem intsOf_map (ns : List Int) : intsOf (ns.map .int) = some ns := by
  induction ns with
  | nil => rfl
  | cons n ns ih => simp [intsOf, ih]
theorem boolsOf_map (ns : List Bool) : boolsOf (ns.map .bool) = some ns := by
  induction ns with
  | nil => rfl
  | cons n ns ih => simp [boolsOf, ih]
theorem sumD_map (ns : List Int) : sumD [.list (ns.map .int)] = some (.int ns.sum) := by
  show (intsOf (ns.map .int)).map _ = _
  rw [intsOf_map]; rfl
theorem allD_map (ns : List Bool) : allD [.list (ns.map .bool)] = some (.bool (ns.all id)) := by
  show (boolsOf (ns.map .bool)).map _ = _
  rw [boolsOf_map]; rfl
theorem minLD_map {ns : List Int} {m : Int} (h : ns.min? = some m) : minLD [.list (ns.map .int)] = some (.int m) := by
  show (intsOf (ns.map .int)).bind _ = _
  rw [intsOf_map]
  show ns.min?.map PyData.int = _
  rw [h]; rfl
theorem strD_0 : strD [.int 0] = some (.str (txt [48])) := by
  have : (toString (0 : Int) : Str) = txt [48] := by decide +kernel
  show (if (0 : Int).natAbs < 1000000 then some (PyData.str (toString (0 : Int))) else none) = _
  rw [this]; rfl
theorem strD_1 : strD [.int 1] = some (.str (txt [49])) := by
  have : (toString (1 : Int) : Str) = txt [49] := by decide +kernel
  show (if (1 : Int).natAbs < 1000000 then some (PyData.str (toString (1 : Int))) else none) = _
  rw [this]; rfl
theorem boolM_b (k : Bool) : boolM (.bool k) = ret k := rfl
theorem intM_i (i : Int) : intM (.int i) = ret i := rfl
theorem raiseS_x (c : Nat) (env : Env) : raiseS c env = raiseM c := rfl
theorem catM_ll (xs ys : List D) : catM (.list xs) (.list ys) = if xs.length + ys.length ≤ big then ret (xs ++ ys) else fault := rfl
theorem itemsM_l (xs : List D) : itemsM (.list xs) = ret xs := rfl
theorem itemsM_t (xs : List D) : itemsM (.tuple xs) = ret xs := rfl
theorem itemsM_txt {l : List Nat} (h : l.length ≤ 1000000) : itemsM (.str (txt l)) = ret (l.map fun c => .str (txt [c])) := by
  show (if (txt l).length ≤ big then ret (signsOf (txt l)) else fault) = _
  rw [txt_len, if_pos (show l.length ≤ big from h), signs_txt]
theorem bndT_t (is : List Nat) (ds : List D) (env : Env) : bndT is (.tuple ds) env = if ds.length = is.length then some (setAll is ds env) else none := rfl
theorem bndT_l (is : List Nat) (ds : List D) (env : Env) : bndT is (.list ds) env = if ds.length = is.length then some (setAll is ds env) else none := rfl
theorem extM_l (i : Nat) (env : Env) (xs ys : List D) : extM i env xs (.list ys) = if xs.length + ys.length ≤ big then ret (.next (env.set i (some (.own (xs ++ ys))))) else fault := rfl
theorem thenM_n (g : Env → M Fl) (env : Env) : thenM g (.next env) = g env := rfl
theorem thenM_r (g : Env → M Fl) (d : D) : thenM g (.ret d) = ret (.ret d) := rfl
theorem thenM_b (g : Env → M Fl) (env : Env) : thenM g (.brk env) = ret (.brk env) := rfl
theorem thenM_c (g : Env → M Fl) (env : Env) : thenM g (.cont env) = ret (.cont env) := rfl
theorem finM_r (d : D) : finM (.ret d) = ret d := rfl
theorem finM_n (env : Env) : finM (.next env) = ret .none := rfl
theorem loopM_n (g : Env → M Fl) (env : Env) : loopM g (.next env) = g env := rfl
theorem loopM_c (g : Env → M Fl) (env : Env) : loopM g (.cont env) = g env := rfl
theorem loopM_b (g : Env → M Fl) (env : Env) : loopM g (.brk env) = ret (.next env) := rfl
theorem loopM_r (g : Env → M Fl) (d : D) : loopM g (.ret d) = ret (.ret d) := rfl
theorem varM_d (x : D) : varM (some (some (.d x))) = ret x := rfl
theorem borM_d (x : D) : borM (some (some (.d x))) = ret x := rfl
theorem borM_o (xs : List D) : borM (some (some (.own xs))) = ret (.list xs) := rfl
theorem ownM_o {α : Type} (k : List D → M α) (xs : List D) : ownM k (some (some (.own xs))) = k xs := rfl
theorem townM_t (fr : M (List SV)) : townM fr (some (some .town)) = seq fr fun r => ret (.town :: r) := rfl
theorem scrM_s (fr : M (List SV)) (ns : List Int) : scrM fr (some (some (.scr ns))) = seq fr fun r => ret (.scr ns :: r) := rfl
theorem freeze_0o (xs : List D) (env : Env) : freezeEnv 0 (some (.own xs) :: env) = some (.d (.list xs)) :: env := rfl
theorem freeze_0d (x : D) (env : Env) : freezeEnv 0 (some (.d x) :: env) = some (.d x) :: env := rfl
theorem freeze_0n (env : Env) : freezeEnv 0 (none :: env) = none :: env := rfl
theorem freeze_s (k : Nat) (a : Option SV) (env : Env) : freezeEnv (k + 1) (a :: env) = a :: freezeEnv k env := by
  simp only [freezeEnv, List.getElem?_cons_succ]
  split <;> simp_all
theorem ite_big {α : Type} {k : Nat} [inst : Decidable (k ≤ big)] (h : k ≤ 1000000) (x y : α) : @ite α (k ≤ big) inst x y = x := if_pos h
theorem ite_lt_big {α : Type} {k : Nat} [inst : Decidable (k < big)] (h : k < 1000000) (x y : α) : @ite α (k < big) inst x y = x := if_pos h
theorem atI_0 {α : Type} (a : α) (l : List α) : atI (a :: l) 0 = some a := by
  have h : 0 < (a :: l).length := by simp only [List.length_cons]; omega
  exact atI_lt h
theorem atI_1 {α : Type} (a b : α) (l : List α) : atI (a :: b :: l) 1 = some b := by
  have h : 1 < (a :: b :: l).length := by simp only [List.length_cons]; omega
  exact atI_lt h
theorem atI_2 {α : Type} (a b c : α) (l : List α) : atI (a :: b :: c :: l) 2 = some c := by
  have h : 2 < (a :: b :: c :: l).length := by simp only [List.length_cons]; omega
  exact atI_lt h
theorem atI_3 {α : Type} (a b c d : α) (l : List α) : atI (a :: b :: c :: d :: l) 3 = some d := by
  have h : 3 < (a :: b :: c :: d :: l).length := by simp only [List.length_cons]; omega
  exact atI_lt h
theorem atI_4 {α : Type} (a b c d e : α) (l : List α) : atI (a :: b :: c :: d :: e :: l) 4 = some e := by
  have h : 4 < (a :: b :: c :: d :: e :: l).length := by simp only [List.length_cons]; omega
  exact atI_lt h
/-! ### like data -/
def Pl (k : Nat) (d : D) : Prop := d.plain = true ∧ d.depth ≤ k
theorem pl_int (k : Nat) (i : Int) : Pl k (.int i) := ⟨rfl, Nat.zero_le _⟩
theorem pl_str (k : Nat) (i : Str) : Pl k (.str i) := ⟨rfl, Nat.zero_le _⟩
theorem pl_bool (k : Nat) (i : Bool) : Pl k (.bool i) := ⟨rfl, Nat.zero_le _⟩
theorem pl_none (k : Nat) : Pl k .none := ⟨rfl, Nat.zero_le _⟩
theorem pl_all {k : Nat} : ∀ {xs : List D}, (∀ x ∈ xs, Pl k x) → PyData.plainAll xs = true ∧ PyData.depthAll xs ≤ k
  | [], _ => ⟨rfl, Nat.zero_le _⟩
  | x :: xs, h => by
    have h1 := h x List.mem_cons_self
    have h2 := pl_all (xs := xs) fun y hy => h y (List.mem_cons_of_mem _ hy)
    refine ⟨?_, ?_⟩
    · rw [PyData.plainAll, h1.1, h2.1]; rfl
    · rw [PyData.depthAll]; exact Nat.max_le.mpr ⟨h1.2, h2.2⟩
theorem pl_list {k : Nat} {xs : List D} (h : ∀ x ∈ xs, Pl k x) : Pl (k + 1) (.list xs) := ⟨by rw [PyData.plain]; exact (pl_all h).1, by rw [PyData.depth]; exact Nat.succ_le_succ (pl_all h).2⟩
theorem pl_tuple {k : Nat} {xs : List D} (h : ∀ x ∈ xs, Pl k x) : Pl (k + 1) (.tuple xs) := ⟨by rw [PyData.plain]; exact (pl_all h).1, by rw [PyData.depth]; exact Nat.succ_le_succ (pl_all h).2⟩
theorem eqD_refl {k : Nat} {d : D} (h : Pl k d) (hk : k ≤ 60) : eqD d d = some (.bool true) := by
  unfold eqD
  rw [if_pos (by have := h.2; omega), PySem.SeqAt.eqv_refl_plain d h.1]
theorem neD_refl {k : Nat} {d : D} (h : Pl k d) (hk : k ≤ 60) : neD d d = some (.bool false) := by
  unfold neD
  rw [if_pos (by have := h.2; omega), PySem.SeqAt.eqv_refl_plain d h.1]; rfl
end Sim

-- NC 12
namespace Lw
open PySem PySem.Spec L2 Sim
def top (i : Nat) : Stmt := PySem.Challenge.pw_wirereadings_k28_whole_heard_texts.main.body.getD i (.Pass ⟨0, 0, 0, 0⟩)
abbrev s__law_cell_at : Stmt := top 41
abbrev n__law_cell_at : List Str := ["script", "k"]
abbrev c__law_cell_at : Scope := { kind := .function, names := [("script", .local), ("k", .local), ("len", .globalImplicit)], isGenerator := false, isCoroutine := false, more := [] }
theorem sc__law_cell_at : FnScope n__law_cell_at ["script", "k"] c__law_cell_at := ⟨rfl, rfl, rfl, by decide +kernel, rfl, by decide +kernel, by decide +kernel⟩
def g__law_cell_at : Sim.Env → M Fl := thenS (ifS (testE (opE ltD (varE 1) (scrLen 0))) (retS (scrIx 0 (varE 1))) (nextS)) (thenS (ifS (testE (scrEmpty 0)) (retS (cE (.int 0))) (nextS)) (retS (opE addD (opE mulD (scrIx 0 (opE modD (varE 1) (scrLen 0))) (cE (.int 31))) (varE 1))))
def F__law_cell_at : List SV → M D := runF 2 g__law_cell_at

abbrev s__law_mixed : Stmt := top 42
abbrev n__law_mixed : List Str := ["script", "k", "many", "drawn"]
abbrev c__law_mixed : Scope := { kind := .function, names := [("script", .local), ("k", .local), ("many", .local), ("drawn", .local), ("_law_cell_at", .globalImplicit)], isGenerator := false, isCoroutine := false, more := [] }
theorem sc__law_mixed : FnScope n__law_mixed ["script", "k", "many"] c__law_mixed := ⟨rfl, rfl, rfl, by decide +kernel, rfl, by decide +kernel, by decide +kernel⟩
def g__law_mixed : Sim.Env → M Fl := thenS (setS 3 (opE modD (opE addD (opE addD (opE mulD (callF 2 F__law_cell_at (scrA 0 (consA (varE 1) (nilE)))) (cE (.int 1103515245))) (opE mulD (cE (.int 7919)) (varE 1))) (cE (.int 12345))) (cE (.int 2147483647)))) (retS (opE modD (opE modD (opE modD (opE powD (varE 3) (cE (.int 5))) (cE (.int 2147483647))) (cE (.int 999983))) (varE 2)))
def F__law_mixed : List SV → M D := runF 4 g__law_mixed

abbrev s__law_draw : Stmt := top 43
abbrev n__law_draw : List Str := ["script", "town", "many"]
abbrev c__law_draw : Scope := { kind := .function, names := [("script", .local), ("town", .local), ("many", .local), ("_law_mixed", .globalImplicit), ("len", .globalImplicit)], isGenerator := false, isCoroutine := false, more := [] }
theorem sc__law_draw : FnScope n__law_draw ["script", "town", "many"] c__law_draw := ⟨rfl, rfl, rfl, by decide +kernel, rfl, by decide +kernel, by decide +kernel⟩
def g__law_draw : Sim.Env → M Fl := thenS (tickS 1) (retS (callF 3 F__law_mixed (scrA 0 (consA (townN 1) (consA (varE 2) (nilE))))))
def F__law_draw : List SV → M D := runF 3 g__law_draw

abbrev s__law_pick : Stmt := top 44
abbrev n__law_pick : List Str := ["script", "town", "some"]
abbrev c__law_pick : Scope := { kind := .function, names := [("script", .local), ("town", .local), ("some", .local), ("_law_draw", .globalImplicit), ("len", .globalImplicit)], isGenerator := false, isCoroutine := false, more := [] }
theorem sc__law_pick : FnScope n__law_pick ["script", "town", "some"] c__law_pick := ⟨rfl, rfl, rfl, by decide +kernel, rfl, by decide +kernel, by decide +kernel⟩
def g__law_pick : Sim.Env → M Fl := retS (opE ixD (varE 2) (callF 3 F__law_draw (scrA 0 (townA 1 (consA (callB lenD (consE (varE 2) (nilE))) (nilE))))))
def F__law_pick : List SV → M D := runF 3 g__law_pick

abbrev s__law_form : Stmt := top 45
abbrev n__law_form : List Str := ["script", "town", "pace", "order", "parity"]
abbrev c__law_form : Scope := { kind := .function, names := [("script", .local), ("town", .local), ("pace", .local), ("order", .local), ("parity", .local), ("_law_pick", .globalImplicit), ("_law_draw", .globalImplicit)], isGenerator := false, isCoroutine := false, more := [] }
theorem sc__law_form : FnScope n__law_form ["script", "town"] c__law_form := ⟨rfl, rfl, rfl, by decide +kernel, rfl, by decide +kernel, by decide +kernel⟩
def g__law_form : Sim.Env → M Fl := thenS (setS 2 (callF 3 F__law_pick (scrA 0 (townA 1 (consA (listE (lstN (consE (cE (.int 1)) (consE (cE (.int 1)) (consE (cE (.int 2)) (consE (cE (.int 2)) (consE (cE (.int 3)) (consE (cE (.int 4)) (consE (cE (.int 5)) (consE (cE (.int 6)) (nilE))))))))))) (nilE)))))) (thenS (setS 3 (callF 3 F__law_pick (scrA 0 (townA 1 (consA (listE (lstN (consE (cE (.str "low")) (consE (cE (.str "high")) (nilE))))) (nilE)))))) (thenS (setS 4 (callF 3 F__law_pick (scrA 0 (townA 1 (consA (listE (lstN (consE (cE (.str "none")) (consE (cE (.str "even")) (consE (cE (.str "odd")) (nilE)))))) (nilE)))))) (retS (tupE (consE (varE 2) (consE (opE addD (cE (.int 4)) (callF 3 F__law_draw (scrA 0 (townA 1 (consA (cE (.int 3)) (nilE)))))) (consE (varE 3) (consE (varE 4) (consE (opE addD (cE (.int 1)) (callF 3 F__law_draw (scrA 0 (townA 1 (consA (cE (.int 2)) (nilE)))))) (nilE))))))))))
def F__law_form : List SV → M D := runF 5 g__law_form

abbrev s__law_frame : Stmt := top 46
abbrev n__law_frame : List Str := ["form", "word", "pace", "bits", "order", "parity", "stops", "row", "odd", "more", "place", "bit"]
abbrev c__law_frame : Scope := { kind := .function, names := [("form", .local), ("word", .cell), ("pace", .cell), ("bits", .local), ("order", .local), ("parity", .local), ("stops", .local), ("row", .local), ("odd", .local), ("more", .local), ("range", .globalImplicit), ("sum", .globalImplicit)], isGenerator := false, isCoroutine := false, more := [("fast", .str "form"), ("fast", .str "word"), ("fast", .str "pace"), ("fast", .str "bits"), ("fast", .str "order"), ("fast", .str "parity"), ("fast", .str "stops"), ("fast", .str "place"), ("fast", .str "row"), ("fast", .str "odd"), ("fast", .str "more"), ("fast", .str "bit")] }
theorem sc__law_frame : FnScope n__law_frame ["form", "word"] c__law_frame := ⟨rfl, rfl, rfl, by decide +kernel, rfl, by decide +kernel, by decide +kernel⟩
def g__law_frame : Sim.Env → M Fl := thenS (setT (bndT [2, 3, 4, 5, 6]) (varE 0)) (thenS (setS 7 (listE (lcE (rngE rng1M (consE (varE 3) (nilE))) [10] (bndN 10) (yesT) (opE modD (opE fdivD (varE 1) (opE ixD (listE (lstN (consE (cE (.int 1)) (consE (cE (.int 2)) (consE (cE (.int 4)) (consE (cE (.int 8)) (consE (cE (.int 16)) (consE (cE (.int 32)) (nilE))))))))) (varE 10))) (cE (.int 2)))))) (thenS (setS 7 (ifE (testE (opE eqD (varE 4) (cE (.str "low")))) (varE 7) (revE (varE 7)))) (thenS (setS 8 (opE modD (callB sumD (consE (varE 7) (nilE))) (cE (.int 2)))) (thenS (setS 9 (dict3E "none" "even" "odd" (listE (lstN (nilE))) (listE (lstN (consE (varE 8) (nilE)))) (listE (lstN (consE (opE subD (cE (.int 1)) (varE 8)) (nilE)))) (varE 5))) (retS (methE isStrD joinD (cE (.str "")) (consE (listE (lcE (itemsE (opE addD (opE addD (opE addD (listE (lstN (consE (cE (.int 0)) (nilE)))) (varE 7)) (varE 9)) (opE mulD (listE (lstN (consE (cE (.int 1)) (nilE)))) (varE 6)))) [11] (bndN 11) (yesT) (opE mulD (callB strD (consE (varE 11) (nilE))) (varE 2)))) (nilE))))))))
def F__law_frame : List SV → M D := runF 12 g__law_frame

abbrev s__law_samples : Stmt := top 48
abbrev n__law_samples : List Str := ["script", "town", "form", "most", "made", "rows", "k", "gap", "word", "part", "rest"]
abbrev c__law_samples : Scope := { kind := .function, names := [("script", .local), ("town", .local), ("form", .local), ("most", .local), ("made", .local), ("rows", .local), ("k", .local), ("gap", .local), ("word", .local), ("part", .local), ("rest", .local), ("range", .globalImplicit), ("_law_draw", .globalImplicit), ("_law_pick", .globalImplicit), ("_law_frame", .globalImplicit), ("len", .globalImplicit)], isGenerator := false, isCoroutine := false, more := [] }
theorem sc__law_samples : FnScope n__law_samples ["script", "town", "form", "most"] c__law_samples := ⟨rfl, rfl, rfl, by decide +kernel, rfl, by decide +kernel, by decide +kernel⟩
def g__law_samples : Sim.Env → M Fl := thenS (setT (bndT [4, 5]) (tupE (consE (cE (.str "")) (consE (tupE (nilE)) (nilE))))) (thenS (forS (rngE rng1M (consE (opE addD (cE (.int 1)) (callF 3 F__law_draw (scrA 0 (townA 1 (consA (cE (.int 4)) (nilE)))))) (nilE))) (bndN 6) (thenS (setS 7 (callF 3 F__law_draw (scrA 0 (townA 1 (consA (callF 3 F__law_pick (scrA 0 (townA 1 (consA (listE (lstN (consE (cE (.int 1)) (consE (cE (.int 4)) (consE (cE (.int 12)) (nilE)))))) (nilE))))) (nilE)))))) (thenS (setS 8 (callF 3 F__law_draw (scrA 0 (townA 1 (consA (opE ixD (listE (lstN (consE (cE (.int 16)) (consE (cE (.int 32)) (consE (cE (.int 64)) (nilE)))))) (opE subD (opE ixD (varE 2) (cE (.int 1))) (cE (.int 4)))) (nilE)))))) (thenS (setS 9 (opE addD (opE mulD (cE (.str "1")) (varE 7)) (callF 2 F__law_frame (consA (varE 2) (consA (varE 8) (nilE)))))) (ifS (testE (opE leD (callB lenD (consE (opE addD (varE 4) (varE 9)) (nilE))) (varE 3))) (parS [4, 5] (consE (opE addD (varE 4) (varE 9)) (consE (opE addD (varE 5) (tupE (consE (tupE (consE (varE 7) (consE (varE 8) (nilE)))) (nilE)))) (nilE)))) (nextS)))))) (thenS (ifS (testE (opE eqD (varE 5) (tupE (nilE)))) (parS [4, 5] (consE (callF 2 F__law_frame (consA (varE 2) (consA (cE (.int 1)) (nilE)))) (consE (tupE (consE (tupE (consE (cE (.int 0)) (consE (cE (.int 1)) (nilE)))) (nilE))) (nilE)))) (nextS)) (thenS (setS 10 (callF 3 F__law_draw (scrA 0 (townA 1 (consA (cE (.int 9)) (nilE)))))) (retS (tupE (consE (opE addD (varE 4) (opE mulD (cE (.str "1")) (varE 10))) (consE (varE 5) (consE (varE 10) (nilE)))))))))
def F__law_samples : List SV → M D := runF 11 g__law_samples

abbrev s__law_noisy : Stmt := top 50
abbrev n__law_noisy : List Str := ["script", "town", "form", "often", "samples", "k", "at"]
abbrev c__law_noisy : Scope := { kind := .function, names := [("script", .cell), ("town", .cell), ("form", .local), ("often", .local), ("samples", .local), ("k", .local), ("at", .local), ("_law_draw", .globalImplicit), ("_law_samples", .globalImplicit), ("range", .globalImplicit), ("len", .globalImplicit), ("_law_pick", .globalImplicit)], isGenerator := false, isCoroutine := false, more := [("fast", .str "script"), ("fast", .str "town"), ("fast", .str "form"), ("fast", .str "often"), ("fast", .str "samples"), ("fast", .str "k"), ("fast", .str "at")] }
theorem sc__law_noisy : FnScope n__law_noisy ["script", "town", "form"] c__law_noisy := ⟨rfl, rfl, rfl, by decide +kernel, rfl, by decide +kernel, by decide +kernel⟩
def g__law_noisy : Sim.Env → M Fl := thenS (setS 3 (callF 3 F__law_draw (scrA 0 (townA 1 (consA (cE (.int 6)) (nilE)))))) (thenS (setS 4 (opE ixD (callF 4 F__law_samples (scrA 0 (townA 1 (consA (varE 2) (consA (cE (.int 190)) (nilE)))))) (cE (.int 0)))) (thenS (forS (rngE rng1M (consE (varE 3) (nilE))) (bndN 5) (thenS (setS 6 (callF 3 F__law_draw (scrA 0 (townA 1 (consA (callB lenD (consE (varE 4) (nilE))) (nilE)))))) (setS 4 (opE addD (opE addD (sliceE (varE 4) noneO (someO (varE 6))) (callF 3 F__law_pick (scrA 0 (townA 1 (consA (listE (lstN (consE (cE (.str "0")) (consE (cE (.str "1")) (nilE))))) (nilE)))))) (sliceE (varE 4) (someO (opE addD (varE 6) (cE (.int 1)))) noneO))))) (thenS (ifS (testE (opE eqD (varE 3) (cE (.int 5)))) (setS 4 (methE isStrD joinD (cE (.str "")) (consE (listE (lcE (rngE rng1M (consE (opE addD (cE (.int 1)) (callF 3 F__law_draw (scrA 0 (townA 1 (consA (cE (.int 80)) (nilE)))))) (nilE))) [5] (bndN 5) (yesT) (callF 3 F__law_pick (scrA 0 (townA 1 (consA (listE (lstN (consE (cE (.str "0")) (consE (cE (.str "1")) (nilE))))) (nilE))))))) (nilE)))) (nextS)) (retS (varE 4)))))
def F__law_noisy : List SV → M D := runF 7 g__law_noisy

abbrev s_is_one_of : Stmt := top 23
abbrev n_is_one_of : List Str := ["thing", "words"]
abbrev c_is_one_of : Scope := { kind := .function, names := [("thing", .local), ("words", .local), ("isinstance", .globalImplicit), ("str", .globalImplicit)], isGenerator := false, isCoroutine := false, more := [] }
theorem sc_is_one_of : FnScope n_is_one_of ["thing", "words"] c_is_one_of := ⟨rfl, rfl, rfl, by decide +kernel, rfl, by decide +kernel, by decide +kernel⟩
def g_is_one_of : Sim.Env → M Fl := retS (andE (isiE PyData.isStr (varE 0)) (opE inD (varE 0) (varE 1)))
def F_is_one_of : List SV → M D := runF 2 g_is_one_of

abbrev s_is_whole : Stmt := top 22
abbrev n_is_whole : List Str := ["thing", "low", "most"]
abbrev c_is_whole : Scope := { kind := .function, names := [("thing", .local), ("low", .local), ("most", .local), ("isinstance", .globalImplicit), ("int", .globalImplicit), ("bool", .globalImplicit)], isGenerator := false, isCoroutine := false, more := [] }
theorem sc_is_whole : FnScope n_is_whole ["thing", "low", "most"] c_is_whole := ⟨rfl, rfl, rfl, by decide +kernel, rfl, by decide +kernel, by decide +kernel⟩
def g_is_whole : Sim.Env → M Fl := retS (andE (isiE PyData.isInt (varE 0)) (andE (notE (isiE PyData.isBool (varE 0))) (chainE leD leD (varE 1) (varE 0) (varE 2))))
def F_is_whole : List SV → M D := runF 3 g_is_whole

abbrev s_is_form : Stmt := top 24
abbrev n_is_form : List Str := ["thing"]
abbrev c_is_form : Scope := { kind := .function, names := [("thing", .local), ("isinstance", .globalImplicit), ("tuple", .globalImplicit), ("len", .globalImplicit), ("is_whole", .globalImplicit), ("PACE", .globalImplicit), ("LEAST", .globalImplicit), ("MOST", .globalImplicit), ("is_one_of", .globalImplicit), ("ORDERS", .globalImplicit), ("PARITIES", .globalImplicit)], isGenerator := false, isCoroutine := false, more := [] }
theorem sc_is_form : FnScope n_is_form ["thing"] c_is_form := ⟨rfl, rfl, rfl, by decide +kernel, rfl, by decide +kernel, by decide +kernel⟩
def g_is_form : Sim.Env → M Fl := thenS (ifS (orT (notT (testE (isiE PyData.isTuple (varE 0)))) (orT (testE (opE neD (callB lenD (consE (varE 0) (nilE))) (cE (.int 5)))) (notT (testE (callF 3 F_is_whole (consA (opE ixD (varE 0) (cE (.int 0))) (consA (cE (.int 1)) (consA (cE (.int 6)) (nilE))))))))) (retS (cE (.bool false))) (nextS)) (thenS (ifS (orT (notT (testE (callF 3 F_is_whole (consA (opE ixD (varE 0) (cE (.int 1))) (consA (cE (.int 4)) (consA (cE (.int 6)) (nilE))))))) (notT (testE (callF 2 F_is_one_of (consA (opE ixD (varE 0) (cE (.int 2))) (consA (cE (.tuple [.str "low", .str "high"])) (nilE))))))) (retS (cE (.bool false))) (nextS)) (retS (andE (callF 2 F_is_one_of (consA (opE ixD (varE 0) (cE (.int 3))) (consA (cE (.tuple [.str "none", .str "even", .str "odd"])) (nilE)))) (callF 3 F_is_whole (consA (opE ixD (varE 0) (cE (.int 4))) (consA (cE (.int 1)) (consA (cE (.int 2)) (nilE))))))))
def F_is_form : List SV → M D := runF 1 g_is_form

abbrev s_need_form : Stmt := top 25
abbrev n_need_form : List Str := ["thing"]
abbrev c_need_form : Scope := { kind := .function, names := [("thing", .local), ("is_form", .globalImplicit), ("NoForm", .globalImplicit)], isGenerator := false, isCoroutine := false, more := [] }
theorem sc_need_form : FnScope n_need_form ["thing"] c_need_form := ⟨rfl, rfl, rfl, by decide +kernel, rfl, by decide +kernel, by decide +kernel⟩
def g_need_form : Sim.Env → M Fl := ifS (notT (testE (callF 1 F_is_form (consA (varE 0) (nilE))))) (raiseS 0) (nextS)
def F_need_form : List SV → M D := runF 1 g_need_form

abbrev s_need_samples : Stmt := top 28
abbrev n_need_samples : List Str := ["thing", "sign"]
abbrev c_need_samples : Scope := { kind := .function, names := [("thing", .local), ("isinstance", .globalImplicit), ("str", .globalImplicit), ("len", .globalImplicit), ("LONG", .globalImplicit), ("all", .globalImplicit), ("NoSamples", .globalImplicit)], isGenerator := false, isCoroutine := false, more := [("fast", .str "thing"), ("fast", .str "sign")] }
theorem sc_need_samples : FnScope n_need_samples ["thing"] c_need_samples := ⟨rfl, rfl, rfl, by decide +kernel, rfl, by decide +kernel, by decide +kernel⟩
def g_need_samples : Sim.Env → M Fl := ifS (orT (notT (testE (isiE PyData.isStr (varE 0)))) (orT (notT (testE (chainE leD leD (cE (.int 1)) (callB lenD (consE (varE 0) (nilE))) (cE (.int 200))))) (notT (testE (callB allD (consE (listE (lcE (itemsE (varE 0)) [1] (bndN 1) (yesT) (opE inD (varE 1) (cE (.str "01"))))) (nilE))))))) (raiseS 1) (nextS)
def F_need_samples : List SV → M D := runF 2 g_need_samples

abbrev s_L___init__ : Stmt := inClass (top 30) 0
abbrev n_L___init__ : List Str := ["self", "form"]
abbrev c_L___init__ : Scope := { kind := .function, names := [("self", .local), ("form", .local), ("need_form", .globalImplicit)], isGenerator := false, isCoroutine := false, more := [] }
theorem sc_L___init__ : FnScope n_L___init__ ["self", "form"] c_L___init__ := ⟨rfl, rfl, rfl, by decide +kernel, rfl, by decide +kernel, by decide +kernel⟩

abbrev s_word_of : Stmt := top 26
abbrev n_word_of : List Str := ["form", "bits", "word", "bit"]
abbrev c_word_of : Scope := { kind := .function, names := [("form", .local), ("bits", .local), ("word", .local), ("bit", .local)], isGenerator := false, isCoroutine := false, more := [] }
theorem sc_word_of : FnScope n_word_of ["form", "bits"] c_word_of := ⟨rfl, rfl, rfl, by decide +kernel, rfl, by decide +kernel, by decide +kernel⟩
def g_word_of : Sim.Env → M Fl := thenS (setS 2 (cE (.int 0))) (thenS (forS (itemsE (ifE (testE (opE eqD (opE ixD (varE 0) (cE (.int 2))) (cE (.str "low")))) (revE (varE 1)) (varE 1))) (bndN 3) (setS 2 (opE addD (opE mulD (cE (.int 2)) (varE 2)) (varE 3)))) (retS (varE 2)))
def F_word_of : List SV → M D := runF 4 g_word_of

abbrev s_parity_of : Stmt := top 27
abbrev n_parity_of : List Str := ["form", "bits"]
abbrev c_parity_of : Scope := { kind := .function, names := [("form", .local), ("bits", .local), ("sum", .globalImplicit)], isGenerator := false, isCoroutine := false, more := [] }
theorem sc_parity_of : FnScope n_parity_of ["form", "bits"] c_parity_of := ⟨rfl, rfl, rfl, by decide +kernel, rfl, by decide +kernel, by decide +kernel⟩
def g_parity_of : Sim.Env → M Fl := retS (dict3E "none" "even" "odd" (listE (lstN (nilE))) (listE (lstN (consE (opE modD (callB sumD (consE (varE 1) (nilE))) (cE (.int 2))) (nilE)))) (listE (lstN (consE (opE subD (cE (.int 1)) (opE modD (callB sumD (consE (varE 1) (nilE))) (cE (.int 2)))) (nilE)))) (opE ixD (varE 0) (cE (.int 3))))
def F_parity_of : List SV → M D := runF 2 g_parity_of

abbrev s_L_ended : Stmt := inClass (top 30) 2
abbrev n_L_ended : List Str := ["self", "pace", "bits", "order", "parity", "stops", "own", "good", "word"]
abbrev c_L_ended : Scope := { kind := .function, names := [("self", .local), ("pace", .local), ("bits", .local), ("order", .local), ("parity", .local), ("stops", .local), ("own", .local), ("good", .local), ("word", .local), ("len", .globalImplicit), ("int", .globalImplicit), ("list", .globalImplicit), ("parity_of", .globalImplicit), ("word_of", .globalImplicit)], isGenerator := false, isCoroutine := false, more := [] }
theorem sc_L_ended : FnScope n_L_ended ["self"] c_L_ended := ⟨rfl, rfl, rfl, by decide +kernel, rfl, by decide +kernel, by decide +kernel⟩
def g_L_ended : Sim.Env → M Fl := thenS (setT (bndT [1, 2, 3, 4, 5]) (fldE 0 .form)) (thenS (ifS (testE (opE ltD (callB lenD (consE (fldE 0 .bits) (nilE))) (opE addD (opE addD (opE addD (cE (.int 1)) (varE 2)) (callB intD (consE (opE neD (varE 4) (cE (.str "none"))) (nilE)))) (varE 5)))) (retS (cE .none)) (nextS)) (thenS (setS 6 (callB listD (consE (sliceE (fldE 0 .bits) (someO (cE (.int 1))) (someO (opE addD (cE (.int 1)) (varE 2)))) (nilE)))) (thenS (setS 7 (andE (opE eqD (opE ixD (fldE 0 .bits) (cE (.int 0))) (cE (.int 0))) (opE eqD (callB listD (consE (sliceE (fldE 0 .bits) (someO (opE addD (cE (.int 1)) (varE 2))) noneO) (nilE))) (opE addD (callF 2 F_parity_of (consA (fldE 0 .form) (consA (varE 6) (nilE)))) (opE mulD (listE (lstN (consE (cE (.int 1)) (nilE)))) (varE 5)))))) (thenS (setS 8 (ifE (testE (varE 7)) (callF 2 F_word_of (consA (fldE 0 .form) (consA (varE 6) (nilE)))) (cE .none))) (thenS (setF 0 .told (opE addD (fldE 0 .told) (tupE (consE (varE 8) (nilE))))) (thenS (setF 0 .tick (cE .none)) (thenS (setF 0 .bits (tupE (nilE))) (retS (ifE (testE (varE 7)) (tupE (consE (cE (.str "word")) (consE (varE 8) (nilE)))) (tupE (consE (cE (.str "fault")) (nilE))))))))))))
def F_L_ended : List SV → M D := runF 9 g_L_ended

abbrev s_L_hear : Stmt := inClass (top 30) 1
abbrev n_L_hear : List Str := ["self", "sample", "pace"]
abbrev c_L_hear : Scope := { kind := .function, names := [("self", .local), ("sample", .local), ("pace", .local), ("isinstance", .globalImplicit), ("str", .globalImplicit), ("NoSamples", .globalImplicit), ("int", .globalImplicit)], isGenerator := false, isCoroutine := false, more := [] }
theorem sc_L_hear : FnScope n_L_hear ["self", "sample"] c_L_hear := ⟨rfl, rfl, rfl, by decide +kernel, rfl, by decide +kernel, by decide +kernel⟩
def g_L_hear : Sim.Env → M Fl := thenS (ifS (orT (notT (testE (isiE PyData.isStr (varE 1)))) (testE (opE notInD (varE 1) (tupE (consE (cE (.str "0")) (consE (cE (.str "1")) (nilE))))))) (raiseS 1) (nextS)) (thenS (pastS 0 (tupE (consE (fldE 0 .tick) (consE (fldE 0 .bits) (consE (fldE 0 .told) (consE (varE 1) (nilE))))))) (thenS (ifS (andT (testE (isNE (fldE 0 .tick))) (testE (opE eqD (varE 1) (cE (.str "1"))))) (retS (cE .none)) (nextS)) (thenS (ifS (testE (isNE (fldE 0 .tick))) (setF 0 .tick (cE (.int 0))) (nextS)) (thenS (setS 2 (opE ixD (fldE 0 .form) (cE (.int 0)))) (thenS (ifS (testE (opE eqD (opE modD (fldE 0 .tick) (varE 2)) (opE fdivD (varE 2) (cE (.int 2))))) (setF 0 .bits (opE addD (fldE 0 .bits) (tupE (consE (callB intD (consE (varE 1) (nilE))) (nilE))))) (nextS)) (thenS (setF 0 .tick (opE addD (fldE 0 .tick) (cE (.int 1)))) (retS (methL 0 1 F_L_ended nilE))))))))
def F_L_hear : List SV → M D := runF 3 g_L_hear

abbrev s_heard_of : Stmt := top 33
abbrev n_heard_of : List Str := ["form", "samples", "listener", "made", "tick", "sign", "told"]
abbrev c_heard_of : Scope := { kind := .function, names := [("form", .local), ("samples", .local), ("listener", .local), ("made", .local), ("tick", .local), ("sign", .local), ("told", .local), ("Listener", .globalImplicit), ("enumerate", .globalImplicit)], isGenerator := false, isCoroutine := false, more := [] }
theorem sc_heard_of : FnScope n_heard_of ["form", "samples"] c_heard_of := ⟨rfl, rfl, rfl, by decide +kernel, rfl, by decide +kernel, by decide +kernel⟩
def g_heard_of : Sim.Env → M Fl := newS 2 F_need_form (varE 0) (thenS (setN 3 (lstN (nilE))) (thenS (forS (rngE enumSM (consE (varE 1) (nilE))) (bndT [4, 5]) (thenS (setS 6 (methL 2 2 F_L_hear (consA (varE 5) (nilE)))) (ifS (testE (notNE (varE 6))) (appS 3 (tupE (consE (varE 4) (consE (ifE (testE (opE eqD (opE ixD (varE 6) (cE (.int 0))) (cE (.str "word")))) (opE ixD (varE 6) (cE (.int 1))) (cE .none)) (nilE))))) (nextS)))) (freezeS 3 (retS (varE 3)))))
def F_heard_of : List SV → M D := runF 7 g_heard_of

abbrev s_heard : Stmt := top 34
abbrev n_heard : List Str := ["form", "samples"]
abbrev c_heard : Scope := { kind := .function, names := [("form", .local), ("samples", .local), ("need_form", .globalImplicit), ("need_samples", .globalImplicit), ("heard_of", .globalImplicit)], isGenerator := false, isCoroutine := false, more := [] }
theorem sc_heard : FnScope n_heard ["form", "samples"] c_heard := ⟨rfl, rfl, rfl, by decide +kernel, rfl, by decide +kernel, by decide +kernel⟩
def g_heard : Sim.Env → M Fl := thenS (exprS (callF 1 F_need_form (consA (varE 0) (nilE)))) (thenS (exprS (callF 1 F_need_samples (consA (varE 1) (nilE)))) (retS (callF 2 F_heard_of (consA (varE 0) (consA (varE 1) (nilE))))))
def F_heard : List SV → M D := runF 2 g_heard

abbrev s__law_due : Stmt := top 53
abbrev n__law_due : List Str := ["text", "made", "numbers", "line", "words", "ticks", "number", "row"]
abbrev c__law_due : Scope := { kind := .function, names := [("text", .local), ("made", .local), ("numbers", .local), ("line", .local), ("words", .local), ("ticks", .local), ("range", .globalImplicit), ("len", .globalImplicit), ("int", .globalImplicit), ("sorted", .globalImplicit), ("set", .globalImplicit)], isGenerator := false, isCoroutine := false, more := [("fast", .str "text"), ("fast", .str "made"), ("fast", .str "number"), ("fast", .str "numbers"), ("fast", .str "line"), ("fast", .str "words"), ("fast", .str "row"), ("fast", .str "ticks")] }
theorem sc__law_due : FnScope n__law_due ["text"] c__law_due := ⟨rfl, rfl, rfl, by decide +kernel, rfl, by decide +kernel, by decide +kernel⟩
def g__law_due : Sim.Env → M Fl := thenS (setN 1 (lstN (nilE))) (thenS (setS 2 (listE (lcE (rngE rng1M (consE (cE (.int 200)) (nilE))) [6] (bndN 6) (yesT) (callB strD (consE (varE 6) (nilE)))))) (thenS (forS (itemsE (ifE (testE (opE neD (varE 0) (cE (.str "")))) (methE isStrD splitD (varE 0) (consE (cE (.str "\n")) (nilE))) (listE (lstN (nilE))))) (bndN 3) (thenS (setS 4 (methE isStrD splitD (varE 3) (consE (cE (.str " ")) (nilE)))) (thenS (ifS (orT (testE (opE neD (callB lenD (consE (varE 4) (nilE))) (cE (.int 2)))) (orT (testE (opE notInD (opE ixD (varE 4) (cE (.int 0))) (varE 2))) (testE (opE notInD (opE ixD (varE 4) (cE (.int 1))) (opE addD (sliceE (varE 2) noneO (someO (cE (.int 64)))) (listE (lstN (consE (cE (.str "fault")) (nilE))))))))) (retS (cE .none)) (nextS)) (appS 1 (tupE (consE (callB intD (consE (opE ixD (varE 4) (cE (.int 0))) (nilE))) (consE (ifE (testE (opE eqD (opE ixD (varE 4) (cE (.int 1))) (cE (.str "fault")))) (cE .none) (callB intD (consE (opE ixD (varE 4) (cE (.int 1))) (nilE)))) (nilE)))))))) (freezeS 1 (thenS (setS 5 (listE (lcE (itemsE (varE 1)) [7] (bndN 7) (yesT) (opE ixD (varE 7) (cE (.int 0)))))) (freezeS 1 (retS (ifE (testE (opE eqD (varE 5) (sortSetE (varE 5)))) (varE 1) (cE .none))))))))
def F__law_due : List SV → M D := runF 8 g__law_due

abbrev s_number_of : Stmt := top 37
abbrev n_number_of : List Str := ["word", "most"]
abbrev c_number_of : Scope := { kind := .function, names := [("word", .local), ("most", .local), ("len", .globalImplicit), ("FIGURES", .globalImplicit), ("int", .globalImplicit), ("NoText", .globalImplicit)], isGenerator := false, isCoroutine := false, more := [] }
theorem sc_number_of : FnScope n_number_of ["word", "most"] c_number_of := ⟨rfl, rfl, rfl, by decide +kernel, rfl, by decide +kernel, by decide +kernel⟩
def g_number_of : Sim.Env → M Fl := thenS (ifS (orT (notT (testE (chainE leD leD (cE (.int 1)) (callB lenD (consE (varE 0) (nilE))) (cE (.int 3))))) (orT (testE (opE neD (methE isStrD stripD (varE 0) (consE (cE (.str "0123456789")) (nilE))) (cE (.str "")))) (orT (andT (testE (opE gtD (callB lenD (consE (varE 0) (nilE))) (cE (.int 1)))) (testE (opE eqD (opE ixD (varE 0) (cE (.int 0))) (cE (.str "0"))))) (testE (opE gtD (callB intD (consE (varE 0) (nilE))) (varE 1)))))) (raiseS 7) (nextS)) (retS (callB intD (consE (varE 0) (nilE))))
def F_number_of : List SV → M D := runF 2 g_number_of

abbrev s_read_row : Stmt := top 38
abbrev n_read_row : List Str := ["line", "words"]
abbrev c_read_row : Scope := { kind := .function, names := [("line", .local), ("words", .local), ("len", .globalImplicit), ("NoText", .globalImplicit), ("number_of", .globalImplicit), ("LONG", .globalImplicit)], isGenerator := false, isCoroutine := false, more := [] }
theorem sc_read_row : FnScope n_read_row ["line"] c_read_row := ⟨rfl, rfl, rfl, by decide +kernel, rfl, by decide +kernel, by decide +kernel⟩
def g_read_row : Sim.Env → M Fl := thenS (setS 1 (methE isStrD splitD (varE 0) (consE (cE (.str " ")) (nilE)))) (thenS (ifS (testE (opE neD (callB lenD (consE (varE 1) (nilE))) (cE (.int 2)))) (raiseS 7) (nextS)) (retS (tupE (consE (callF 2 F_number_of (consA (opE ixD (varE 1) (cE (.int 0))) (consA (opE subD (cE (.int 200)) (cE (.int 1))) (nilE)))) (consE (ifE (testE (opE eqD (opE ixD (varE 1) (cE (.int 1))) (cE (.str "fault")))) (cE .none) (callF 2 F_number_of (consA (opE ixD (varE 1) (cE (.int 1))) (consA (cE (.int 63)) (nilE))))) (nilE))))))
def F_read_row : List SV → M D := runF 2 g_read_row

abbrev s_read_heard : Stmt := top 39
abbrev n_read_heard : List Str := ["text", "made", "line", "one", "other"]
abbrev c_read_heard : Scope := { kind := .function, names := [("text", .local), ("made", .local), ("isinstance", .globalImplicit), ("str", .globalImplicit), ("NoText", .globalImplicit), ("all", .globalImplicit), ("zip", .globalImplicit)], isGenerator := false, isCoroutine := false, more := [("fast", .str "text"), ("fast", .str "line"), ("fast", .str "made"), ("fast", .str "one"), ("fast", .str "other")] }
theorem sc_read_heard : FnScope n_read_heard ["text"] c_read_heard := ⟨rfl, rfl, rfl, by decide +kernel, rfl, by decide +kernel, by decide +kernel⟩
def g_read_heard : Sim.Env → M Fl := thenS (ifS (notT (testE (isiE PyData.isStr (varE 0)))) (raiseS 7) (nextS)) (thenS (setS 1 (ifE (testE (opE neD (varE 0) (cE (.str "")))) (listE (lcXE (itemsE (methE isStrD splitD (varE 0) (consE (cE (.str "\n")) (nilE)))) [2] (bndN 2) (callF 1 F_read_row (consA (varE 2) (nilE))))) (listE (lstN (nilE))))) (thenS (ifS (notT (testE (callB allD (consE (listE (lcE (rngE zipM (consE (varE 1) (consE (sliceE (varE 1) (someO (cE (.int 1))) noneO) (nilE)))) [3, 4] (bndT [3, 4]) (yesT) (opE ltD (opE ixD (varE 3) (cE (.int 0))) (opE ixD (varE 4) (cE (.int 0)))))) (nilE))))) (raiseS 7) (nextS)) (retS (varE 1))))
def F_read_heard : List SV → M D := runF 5 g_read_heard

abbrev s__law_which : Stmt := top 51
abbrev n__law_which : List Str := ["e", "own"]
abbrev c__law_which : Scope := { kind := .function, names := [("e", .local), ("own", .local), ("isinstance", .globalImplicit), ("NoForm", .globalImplicit), ("NoSamples", .globalImplicit), ("NoRows", .globalImplicit), ("NoWords", .globalImplicit), ("NoRest", .globalImplicit), ("TooLong", .globalImplicit), ("NoLayer", .globalImplicit), ("NoText", .globalImplicit), ("Nothing", .globalImplicit), ("NoPackets", .globalImplicit), ("NoRuns", .globalImplicit), ("NoNumber", .globalImplicit), ("ValueError", .globalImplicit)], isGenerator := false, isCoroutine := false, more := [] }
theorem sc__law_which : FnScope n__law_which ["e"] c__law_which := ⟨rfl, rfl, rfl, by decide +kernel, rfl, by decide +kernel, by decide +kernel⟩
def g__law_which (a0 : Addr) (c0 : Nat) : Sim.Env → M Fl := thenS (setN 1 (lstN (consE (isX a0 0 (decide (c0 = 0))) (consE (isX a0 0 (decide (c0 = 1))) (consE (isX a0 0 (decide (c0 = 2))) (consE (isX a0 0 (decide (c0 = 3))) (nilE))))))) (thenS (extS 1 (listE (lstN (consE (isX a0 0 (decide (c0 = 4))) (consE (isX a0 0 (decide (c0 = 5))) (consE (isX a0 0 (decide (c0 = 6))) (consE (isX a0 0 (decide (c0 = 7))) (nilE)))))))) (thenS (extS 1 (listE (lstN (consE (isX a0 0 (decide (c0 = 8))) (consE (isX a0 0 (decide (c0 = 9))) (consE (isX a0 0 (decide (c0 = 10))) (consE (isX a0 0 (decide (c0 = 11))) (nilE)))))))) (thenS (ifS (orT (testE (opE neD (methE isListD countD (borE 1) (consE (cE (.bool true)) (nilE))) (cE (.int 1)))) (notT (testE (isX a0 0 true)))) (retS (tupE (consE (cE (.str "refused")) (consE (negE (cE (.int 1))) (nilE))))) (nextS)) (retS (tupE (consE (cE (.str "refused")) (consE (methE isListD indexD (borE 1) (consE (cE (.bool true)) (nilE))) (nilE))))))))
local macro_rules | `(tactic| walk_at "sem") => `(tactic| simp -implicitDefEqProofs only [thenS, thenM_n, thenM_r, thenM_b, thenM_c, nextS, retS, exprS, ifS, setS, setN, setT, parS, setAll, appS, extS, extM_l, putS, tickS, townN, townK, townA, townM_t, scrA, scrM_s, scrK, scrLen, scrIx, scrEmpty, ownM_o, freezeS, freeze_0o, freeze_0d, freeze_0n, freeze_s, raiseS_x, forS, varE, varM_d, borE, borM_d, borM_o, cE, opE, testE, boolM_b, chainE, isNE, notNE, isNoneD, andT, orT, notT, andE, orE, notE, ifE, nilE, consE, consA, tupE, lstN, listE, lcE, sliceE, someO, noneO, intM_i, revE, callB, isiE, methE, itemsE, itemsM_l, itemsM_t, rngE, callF, tabE, stopE, dict3E, negE, negD, catN, catM_ll, bndN, bndT_t, bndT_l, finM_r, finM_n, loopM_n, loopM_r, loopM_c, loopM_b, isStrD, isListD, PyData.isInt, PyData.isBool, PyData.isStr, PyData.isList, PyData.isTuple, wipeE, sliceKE, isTE,
  addD_ii, subD_ii, ltD_ii, leD_ii, gtD_ii, geD_ii, eqD_ii, neD_ii, ixD_l, ixD_t, lenD_l, lenD_t, sliceD_l, sliceD_t,
  seq_r, seq_f, seq_x, Sim.seq_assoc, lift_s, eq_self, Nat.reduceEqDiff, List.getElem?_cons_succ, List.getElem?_cons_zero, List.set_cons_succ, List.set_cons_zero, List.length_cons, List.length_nil, if_true, Bool.false_eq_true, if_false, Option.map_some, Bool.not_true, Bool.not_false, atI_0, atI_1, atI_2, atI_3, atI_4, Int.cast_ofNat_Int, Int.reduceSub, Int.reduceAdd, Int.reduceEq, Int.reduceLE, Int.reduceLT, ite_big, ite_lt_big, Nat.reduceLT, Nat.reduceAdd, Nat.reduceLeDiff, Nat.zero_add, yesT, decide_true, decide_false, List.length_map, List.length_range])
theorem which_eq : ∀ (a : Addr) (c : Nat), c < 12 → runF 2 (g__law_which a c) [.ex a] = Sim.ret (refused c)
  | a, 0, _ => by show seq (g__law_which a 0 [some (.ex a), none]) finM = _; unfold g__law_which; simp only [thenS, setN, lstN, consE, nilE, extS, listE, isX_0, ifS, orT, notT, testE, opE, methE, borE, cE, retS, tupE, nextS, seq_r, lift_s, thenM_n, thenM_r, List.getElem?_cons_succ, List.getElem?_cons_zero, List.set_cons_succ, List.set_cons_zero, borM_o, ownM_o, extM_l, appS, ite_lt_big, Nat.reduceLT, ite_big, List.length_cons, List.length_nil, Nat.reduceAdd, Nat.reduceLeDiff, List.cons_append, List.nil_append]; rfl
  | a, 1, _ => by show seq (g__law_which a 1 [some (.ex a), none]) finM = _; unfold g__law_which; simp only [thenS, setN, lstN, consE, nilE, extS, listE, isX_0, ifS, orT, notT, testE, opE, methE, borE, cE, retS, tupE, nextS, seq_r, lift_s, thenM_n, thenM_r, List.getElem?_cons_succ, List.getElem?_cons_zero, List.set_cons_succ, List.set_cons_zero, borM_o, ownM_o, extM_l, appS, ite_lt_big, Nat.reduceLT, ite_big, List.length_cons, List.length_nil, Nat.reduceAdd, Nat.reduceLeDiff, List.cons_append, List.nil_append]; rfl
  | a, 2, _ => by show seq (g__law_which a 2 [some (.ex a), none]) finM = _; unfold g__law_which; simp only [thenS, setN, lstN, consE, nilE, extS, listE, isX_0, ifS, orT, notT, testE, opE, methE, borE, cE, retS, tupE, nextS, seq_r, lift_s, thenM_n, thenM_r, List.getElem?_cons_succ, List.getElem?_cons_zero, List.set_cons_succ, List.set_cons_zero, borM_o, ownM_o, extM_l, appS, ite_lt_big, Nat.reduceLT, ite_big, List.length_cons, List.length_nil, Nat.reduceAdd, Nat.reduceLeDiff, List.cons_append, List.nil_append]; rfl
  | a, 3, _ => by show seq (g__law_which a 3 [some (.ex a), none]) finM = _; unfold g__law_which; simp only [thenS, setN, lstN, consE, nilE, extS, listE, isX_0, ifS, orT, notT, testE, opE, methE, borE, cE, retS, tupE, nextS, seq_r, lift_s, thenM_n, thenM_r, List.getElem?_cons_succ, List.getElem?_cons_zero, List.set_cons_succ, List.set_cons_zero, borM_o, ownM_o, extM_l, appS, ite_lt_big, Nat.reduceLT, ite_big, List.length_cons, List.length_nil, Nat.reduceAdd, Nat.reduceLeDiff, List.cons_append, List.nil_append]; rfl
  | a, 4, _ => by show seq (g__law_which a 4 [some (.ex a), none]) finM = _; unfold g__law_which; simp only [thenS, setN, lstN, consE, nilE, extS, listE, isX_0, ifS, orT, notT, testE, opE, methE, borE, cE, retS, tupE, nextS, seq_r, lift_s, thenM_n, thenM_r, List.getElem?_cons_succ, List.getElem?_cons_zero, List.set_cons_succ, List.set_cons_zero, borM_o, ownM_o, extM_l, appS, ite_lt_big, Nat.reduceLT, ite_big, List.length_cons, List.length_nil, Nat.reduceAdd, Nat.reduceLeDiff, List.cons_append, List.nil_append]; rfl
  | a, 5, _ => by show seq (g__law_which a 5 [some (.ex a), none]) finM = _; unfold g__law_which; simp only [thenS, setN, lstN, consE, nilE, extS, listE, isX_0, ifS, orT, notT, testE, opE, methE, borE, cE, retS, tupE, nextS, seq_r, lift_s, thenM_n, thenM_r, List.getElem?_cons_succ, List.getElem?_cons_zero, List.set_cons_succ, List.set_cons_zero, borM_o, ownM_o, extM_l, appS, ite_lt_big, Nat.reduceLT, ite_big, List.length_cons, List.length_nil, Nat.reduceAdd, Nat.reduceLeDiff, List.cons_append, List.nil_append]; rfl
  | a, 6, _ => by show seq (g__law_which a 6 [some (.ex a), none]) finM = _; unfold g__law_which; simp only [thenS, setN, lstN, consE, nilE, extS, listE, isX_0, ifS, orT, notT, testE, opE, methE, borE, cE, retS, tupE, nextS, seq_r, lift_s, thenM_n, thenM_r, List.getElem?_cons_succ, List.getElem?_cons_zero, List.set_cons_succ, List.set_cons_zero, borM_o, ownM_o, extM_l, appS, ite_lt_big, Nat.reduceLT, ite_big, List.length_cons, List.length_nil, Nat.reduceAdd, Nat.reduceLeDiff, List.cons_append, List.nil_append]; rfl
  | a, 7, _ => by show seq (g__law_which a 7 [some (.ex a), none]) finM = _; unfold g__law_which; simp only [thenS, setN, lstN, consE, nilE, extS, listE, isX_0, ifS, orT, notT, testE, opE, methE, borE, cE, retS, tupE, nextS, seq_r, lift_s, thenM_n, thenM_r, List.getElem?_cons_succ, List.getElem?_cons_zero, List.set_cons_succ, List.set_cons_zero, borM_o, ownM_o, extM_l, appS, ite_lt_big, Nat.reduceLT, ite_big, List.length_cons, List.length_nil, Nat.reduceAdd, Nat.reduceLeDiff, List.cons_append, List.nil_append]; rfl
  | a, 8, _ => by show seq (g__law_which a 8 [some (.ex a), none]) finM = _; unfold g__law_which; simp only [thenS, setN, lstN, consE, nilE, extS, listE, isX_0, ifS, orT, notT, testE, opE, methE, borE, cE, retS, tupE, nextS, seq_r, lift_s, thenM_n, thenM_r, List.getElem?_cons_succ, List.getElem?_cons_zero, List.set_cons_succ, List.set_cons_zero, borM_o, ownM_o, extM_l, appS, ite_lt_big, Nat.reduceLT, ite_big, List.length_cons, List.length_nil, Nat.reduceAdd, Nat.reduceLeDiff, List.cons_append, List.nil_append]; rfl
  | a, 9, _ => by show seq (g__law_which a 9 [some (.ex a), none]) finM = _; unfold g__law_which; simp only [thenS, setN, lstN, consE, nilE, extS, listE, isX_0, ifS, orT, notT, testE, opE, methE, borE, cE, retS, tupE, nextS, seq_r, lift_s, thenM_n, thenM_r, List.getElem?_cons_succ, List.getElem?_cons_zero, List.set_cons_succ, List.set_cons_zero, borM_o, ownM_o, extM_l, appS, ite_lt_big, Nat.reduceLT, ite_big, List.length_cons, List.length_nil, Nat.reduceAdd, Nat.reduceLeDiff, List.cons_append, List.nil_append]; rfl
  | a, 10, _ => by show seq (g__law_which a 10 [some (.ex a), none]) finM = _; unfold g__law_which; simp only [thenS, setN, lstN, consE, nilE, extS, listE, isX_0, ifS, orT, notT, testE, opE, methE, borE, cE, retS, tupE, nextS, seq_r, lift_s, thenM_n, thenM_r, List.getElem?_cons_succ, List.getElem?_cons_zero, List.set_cons_succ, List.set_cons_zero, borM_o, ownM_o, extM_l, appS, ite_lt_big, Nat.reduceLT, ite_big, List.length_cons, List.length_nil, Nat.reduceAdd, Nat.reduceLeDiff, List.cons_append, List.nil_append]; rfl
  | a, 11, _ => by show seq (g__law_which a 11 [some (.ex a), none]) finM = _; unfold g__law_which; simp only [thenS, setN, lstN, consE, nilE, extS, listE, isX_0, ifS, orT, notT, testE, opE, methE, borE, cE, retS, tupE, nextS, seq_r, lift_s, thenM_n, thenM_r, List.getElem?_cons_succ, List.getElem?_cons_zero, List.set_cons_succ, List.set_cons_zero, borM_o, ownM_o, extM_l, appS, ite_lt_big, Nat.reduceLT, ite_big, List.length_cons, List.length_nil, Nat.reduceAdd, Nat.reduceLeDiff, List.cons_append, List.nil_append]; rfl
  | a, c + 12, h => by omega

abbrev s__law_ask : Stmt := top 52
abbrev n__law_ask : List Str := ["thing", "e"]
abbrev c__law_ask : Scope := { kind := .function, names := [("thing", .local), ("e", .local), ("read_heard", .globalImplicit), ("WireError", .globalImplicit), ("_law_which", .globalImplicit)], isGenerator := false, isCoroutine := false, more := [] }
theorem sc__law_ask : FnScope n__law_ask ["thing"] c__law_ask := ⟨rfl, rfl, rfl, by decide +kernel, rfl, by decide +kernel, by decide +kernel⟩
def g__law_ask : Sim.Env → M Fl := tryS (retS (callF 1 F_read_heard (consA (varE 0) (nilE))))
def F__law_ask : List SV → M D := runF 2 g__law_ask

abbrev s_line_of : Stmt := top 35
abbrev n_line_of : List Str := ["row"]
abbrev c_line_of : Scope := { kind := .function, names := [("row", .local), ("str", .globalImplicit)], isGenerator := false, isCoroutine := false, more := [] }
theorem sc_line_of : FnScope n_line_of ["row"] c_line_of := ⟨rfl, rfl, rfl, by decide +kernel, rfl, by decide +kernel, by decide +kernel⟩
def g_line_of : Sim.Env → M Fl := retS (opE addD (opE addD (callB strD (consE (opE ixD (varE 0) (cE (.int 0))) (nilE))) (cE (.str " "))) (ifE (testE (notNE (opE ixD (varE 0) (cE (.int 1))))) (callB strD (consE (opE ixD (varE 0) (cE (.int 1))) (nilE))) (cE (.str "fault"))))
def F_line_of : List SV → M D := runF 1 g_line_of

abbrev s_heard_text : Stmt := top 36
abbrev n_heard_text : List Str := ["form", "samples", "row"]
abbrev c_heard_text : Scope := { kind := .function, names := [("form", .local), ("samples", .local), ("heard", .globalImplicit)], isGenerator := false, isCoroutine := false, more := [("fast", .str "form"), ("fast", .str "samples"), ("fast", .str "row")] }
theorem sc_heard_text : FnScope n_heard_text ["form", "samples"] c_heard_text := ⟨rfl, rfl, rfl, by decide +kernel, rfl, by decide +kernel, by decide +kernel⟩
def g_heard_text : Sim.Env → M Fl := retS (methE isStrD joinD (cE (.str "\n")) (consE (listE (lcE (itemsE (callF 2 F_heard (consA (varE 0) (consA (varE 1) (nilE))))) [2] (bndN 2) (yesT) (callF 1 F_line_of (consA (varE 2) (nilE))))) (nilE)))
def F_heard_text : List SV → M D := runF 3 g_heard_text

abbrev s_law : Stmt := top 54
abbrev n_law : List Str := ["script", "town", "often", "form", "samples", "rows", "lines", "text", "k", "at", "more", "due", "odd", "tick", "word"]
abbrev c_law : Scope := { kind := .function, names := [("script", .local), ("town", .local), ("often", .local), ("form", .local), ("samples", .local), ("rows", .local), ("lines", .local), ("text", .local), ("k", .local), ("at", .local), ("more", .local), ("due", .local), ("odd", .local), ("_law_draw", .globalImplicit), ("_law_form", .globalImplicit), ("_law_noisy", .globalImplicit), ("heard", .globalImplicit), ("heard_text", .globalImplicit), ("read_heard", .globalImplicit), ("range", .globalImplicit), ("len", .globalImplicit), ("_law_pick", .globalImplicit), ("_law_due", .globalImplicit), ("_law_ask", .globalImplicit)], isGenerator := false, isCoroutine := false, more := [("fast", .str "script"), ("fast", .str "town"), ("fast", .str "often"), ("fast", .str "form"), ("fast", .str "samples"), ("fast", .str "rows"), ("fast", .str "tick"), ("fast", .str "word"), ("fast", .str "lines"), ("fast", .str "text"), ("fast", .str "k"), ("fast", .str "at"), ("fast", .str "more"), ("fast", .str "due"), ("fast", .str "odd")] }
theorem sc_law : FnScope n_law ["script"] c_law := ⟨rfl, rfl, rfl, by decide +kernel, rfl, by decide +kernel, by decide +kernel⟩
def g_law_1 : Sim.Env → M Fl := thenS (forS (rngE rng1M (consE (varE 2) (nilE))) (bndN 8) (thenS (setS 9 (callF 3 F__law_draw (scrA 0 (townA 1 (consA (opE addD (callB lenD (consE (varE 7) (nilE))) (cE (.int 1))) (nilE)))))) (thenS (setS 10 (callF 3 F__law_pick (scrA 0 (townA 1 (consA (listE (lstN (consE (cE (.str "")) (consE (cE (.str "0")) (consE (cE (.str "1")) (consE (cE (.str "9")) (consE (cE (.str " ")) (consE (cE (.str "\n")) (consE (cE (.str "f")) (consE (cE (.str "fault")) (consE (cE (.str "-")) (nilE)))))))))))) (nilE)))))) (setS 7 (opE addD (opE addD (sliceE (varE 7) noneO (someO (varE 9))) (varE 10)) (sliceE (varE 7) (someO (opE addD (varE 9) (callF 3 F__law_draw (scrA 0 (townA 1 (consA (cE (.int 2)) (nilE))))))) noneO)))))) (thenS (setS 11 (callF 1 F__law_due (consA (varE 7) (nilE)))) (thenS (ifS (testE (opE neD (callF 1 F__law_ask (consA (varE 7) (nilE))) (ifE (testE (notNE (varE 11))) (varE 11) (tupE (consE (cE (.str "refused")) (consE (cE (.int 7)) (nilE))))))) (retS (cE (.bool false))) (nextS)) (thenS (setS 12 (listE (lstN (consE (cE .none) (consE (cE (.int 5)) (consE (cE (.str " ")) (consE (cE (.str "1")) (consE (cE (.str "1 64")) (consE (cE (.str "200 1")) (consE (cE (.str "01 1")) (consE (cE (.str "1 01")) (consE (cE (.str "1 Fault")) (consE (cE (.str "2 1\n1 1")) (consE (cE (.str "1 1\n1 2")) (consE (tupE (consE (cE (.str "1 1")) (nilE))) (consE (cE (.str "1 1\n")) (nilE))))))))))))))))) (retS (opE eqD (callF 1 F__law_ask (consA (callF 3 F__law_pick (scrA 0 (townA 1 (consA (varE 12) (nilE))))) (nilE))) (tupE (consE (cE (.str "refused")) (consE (cE (.int 7)) (nilE)))))))))
def g_law : Sim.Env → M Fl := thenS (setS 2 (callF 3 F__law_draw (scrA 0 (townA 1 (consA (cE (.int 3)) (nilE)))))) (thenS (setS 3 (callF 2 F__law_form (scrA 0 (townA 1 (nilE))))) (thenS (setS 4 (callF 3 F__law_noisy (scrA 0 (townA 1 (consA (varE 3) (nilE)))))) (thenS (setS 5 (callF 2 F_heard (consA (varE 3) (consA (varE 4) (nilE))))) (thenS (setS 6 (listE (lcE (itemsE (varE 5)) [13, 14] (bndT [13, 14]) (yesT) (opE addD (opE addD (callB strD (consE (varE 13) (nilE))) (cE (.str " "))) (ifE (testE (isNE (varE 14))) (cE (.str "fault")) (callB strD (consE (varE 14) (nilE)))))))) (thenS (setS 7 (methE isStrD joinD (cE (.str "\n")) (consE (varE 6) (nilE)))) (thenS (ifS (orT (testE (opE neD (callF 2 F_heard_text (consA (varE 3) (consA (varE 4) (nilE)))) (varE 7))) (testE (opE neD (callF 1 F_read_heard (consA (varE 7) (nilE))) (varE 5)))) (retS (cE (.bool false))) (nextS)) (g_law_1)))))))

structure Tx (K : PySem.W.Frag) (mg : Str → Option Value) where
  a__law_cell_at : Addr
  d__law_cell_at : FuncData
  f__law_cell_at : Fun K "_law_cell_at" "_law_cell_at" s__law_cell_at a__law_cell_at d__law_cell_at
  m__law_cell_at : mg "_law_cell_at" = some (.ref a__law_cell_at)
  b__law_cell_at : Binds K d__law_cell_at ["script", "k"] []
  a__law_mixed : Addr
  d__law_mixed : FuncData
  f__law_mixed : Fun K "_law_mixed" "_law_mixed" s__law_mixed a__law_mixed d__law_mixed
  m__law_mixed : mg "_law_mixed" = some (.ref a__law_mixed)
  b__law_mixed : Binds K d__law_mixed ["script", "k", "many"] []
  a__law_draw : Addr
  d__law_draw : FuncData
  f__law_draw : Fun K "_law_draw" "_law_draw" s__law_draw a__law_draw d__law_draw
  m__law_draw : mg "_law_draw" = some (.ref a__law_draw)
  b__law_draw : Binds K d__law_draw ["script", "town", "many"] []
  a__law_pick : Addr
  d__law_pick : FuncData
  f__law_pick : Fun K "_law_pick" "_law_pick" s__law_pick a__law_pick d__law_pick
  m__law_pick : mg "_law_pick" = some (.ref a__law_pick)
  b__law_pick : Binds K d__law_pick ["script", "town", "some"] []
  a__law_form : Addr
  d__law_form : FuncData
  f__law_form : Fun K "_law_form" "_law_form" s__law_form a__law_form d__law_form
  m__law_form : mg "_law_form" = some (.ref a__law_form)
  b__law_form : Binds K d__law_form ["script", "town"] []
  a__law_frame : Addr
  d__law_frame : FuncData
  f__law_frame : Fun K "_law_frame" "_law_frame" s__law_frame a__law_frame d__law_frame
  m__law_frame : mg "_law_frame" = some (.ref a__law_frame)
  b__law_frame : Binds K d__law_frame ["form", "word"] []
  a__law_samples : Addr
  d__law_samples : FuncData
  f__law_samples : Fun K "_law_samples" "_law_samples" s__law_samples a__law_samples d__law_samples
  m__law_samples : mg "_law_samples" = some (.ref a__law_samples)
  b__law_samples : Binds K d__law_samples ["script", "town", "form", "most"] []
  a__law_noisy : Addr
  d__law_noisy : FuncData
  f__law_noisy : Fun K "_law_noisy" "_law_noisy" s__law_noisy a__law_noisy d__law_noisy
  m__law_noisy : mg "_law_noisy" = some (.ref a__law_noisy)
  b__law_noisy : Binds K d__law_noisy ["script", "town", "form"] []
  a_is_one_of : Addr
  d_is_one_of : FuncData
  f_is_one_of : Fun K "is_one_of" "is_one_of" s_is_one_of a_is_one_of d_is_one_of
  m_is_one_of : mg "is_one_of" = some (.ref a_is_one_of)
  b_is_one_of : Binds K d_is_one_of ["thing", "words"] []
  a_is_whole : Addr
  d_is_whole : FuncData
  f_is_whole : Fun K "is_whole" "is_whole" s_is_whole a_is_whole d_is_whole
  m_is_whole : mg "is_whole" = some (.ref a_is_whole)
  b_is_whole : Binds K d_is_whole ["thing", "low", "most"] []
  a_is_form : Addr
  d_is_form : FuncData
  f_is_form : Fun K "is_form" "is_form" s_is_form a_is_form d_is_form
  m_is_form : mg "is_form" = some (.ref a_is_form)
  b_is_form : Binds K d_is_form ["thing"] []
  a_need_form : Addr
  d_need_form : FuncData
  f_need_form : Fun K "need_form" "need_form" s_need_form a_need_form d_need_form
  m_need_form : mg "need_form" = some (.ref a_need_form)
  b_need_form : Binds K d_need_form ["thing"] []
  a_need_samples : Addr
  d_need_samples : FuncData
  f_need_samples : Fun K "need_samples" "need_samples" s_need_samples a_need_samples d_need_samples
  m_need_samples : mg "need_samples" = some (.ref a_need_samples)
  b_need_samples : Binds K d_need_samples ["thing"] []
  a_L___init__ : Addr
  d_L___init__ : FuncData
  f_L___init__ : Fun K "__init__" "Listener.__init__" s_L___init__ a_L___init__ d_L___init__
  b_L___init__ : Binds K d_L___init__ ["self", "form"] []
  a_word_of : Addr
  d_word_of : FuncData
  f_word_of : Fun K "word_of" "word_of" s_word_of a_word_of d_word_of
  m_word_of : mg "word_of" = some (.ref a_word_of)
  b_word_of : Binds K d_word_of ["form", "bits"] []
  a_parity_of : Addr
  d_parity_of : FuncData
  f_parity_of : Fun K "parity_of" "parity_of" s_parity_of a_parity_of d_parity_of
  m_parity_of : mg "parity_of" = some (.ref a_parity_of)
  b_parity_of : Binds K d_parity_of ["form", "bits"] []
  a_L_ended : Addr
  d_L_ended : FuncData
  f_L_ended : Fun K "ended" "Listener.ended" s_L_ended a_L_ended d_L_ended
  b_L_ended : Binds K d_L_ended ["self"] []
  a_L_hear : Addr
  d_L_hear : FuncData
  f_L_hear : Fun K "hear" "Listener.hear" s_L_hear a_L_hear d_L_hear
  b_L_hear : Binds K d_L_hear ["self", "sample"] []
  a_heard_of : Addr
  d_heard_of : FuncData
  f_heard_of : Fun K "heard_of" "heard_of" s_heard_of a_heard_of d_heard_of
  m_heard_of : mg "heard_of" = some (.ref a_heard_of)
  b_heard_of : Binds K d_heard_of ["form", "samples"] []
  a_heard : Addr
  d_heard : FuncData
  f_heard : Fun K "heard" "heard" s_heard a_heard d_heard
  m_heard : mg "heard" = some (.ref a_heard)
  b_heard : Binds K d_heard ["form", "samples"] []
  a__law_due : Addr
  d__law_due : FuncData
  f__law_due : Fun K "_law_due" "_law_due" s__law_due a__law_due d__law_due
  m__law_due : mg "_law_due" = some (.ref a__law_due)
  b__law_due : Binds K d__law_due ["text"] []
  a_number_of : Addr
  d_number_of : FuncData
  f_number_of : Fun K "number_of" "number_of" s_number_of a_number_of d_number_of
  m_number_of : mg "number_of" = some (.ref a_number_of)
  b_number_of : Binds K d_number_of ["word", "most"] []
  a_read_row : Addr
  d_read_row : FuncData
  f_read_row : Fun K "read_row" "read_row" s_read_row a_read_row d_read_row
  m_read_row : mg "read_row" = some (.ref a_read_row)
  b_read_row : Binds K d_read_row ["line"] []
  a_read_heard : Addr
  d_read_heard : FuncData
  f_read_heard : Fun K "read_heard" "read_heard" s_read_heard a_read_heard d_read_heard
  m_read_heard : mg "read_heard" = some (.ref a_read_heard)
  b_read_heard : Binds K d_read_heard ["text"] []
  a__law_which : Addr
  d__law_which : FuncData
  f__law_which : Fun K "_law_which" "_law_which" s__law_which a__law_which d__law_which
  m__law_which : mg "_law_which" = some (.ref a__law_which)
  b__law_which : Binds K d__law_which ["e"] []
  a__law_ask : Addr
  d__law_ask : FuncData
  f__law_ask : Fun K "_law_ask" "_law_ask" s__law_ask a__law_ask d__law_ask
  m__law_ask : mg "_law_ask" = some (.ref a__law_ask)
  b__law_ask : Binds K d__law_ask ["thing"] []
  a_line_of : Addr
  d_line_of : FuncData
  f_line_of : Fun K "line_of" "line_of" s_line_of a_line_of d_line_of
  m_line_of : mg "line_of" = some (.ref a_line_of)
  b_line_of : Binds K d_line_of ["row"] []
  a_heard_text : Addr
  d_heard_text : FuncData
  f_heard_text : Fun K "heard_text" "heard_text" s_heard_text a_heard_text d_heard_text
  m_heard_text : mg "heard_text" = some (.ref a_heard_text)
  b_heard_text : Binds K d_heard_text ["form", "samples"] []
  a_law : Addr
  d_law : FuncData
  f_law : Fun K "law" "law" s_law a_law d_law
  m_law : mg "law" = some (.ref a_law)
  b_law : Binds K d_law ["script"] []
  c_Listener : Addr
  g_Listener : mg "Listener" = some (.ref c_Listener)
  cls : Cls K c_Listener
  na_form : NoAttr K c_Listener "form"
  na_tick : NoAttr K c_Listener "tick"
  na_bits : NoAttr K c_Listener "bits"
  na_told : NoAttr K c_Listener "told"
  na_past : NoAttr K c_Listener "past"
  me_L_ended : Meth K c_Listener "ended" a_L_ended
  me_L_hear : Meth K c_Listener "hear" a_L_hear
  mkL : Mk K c_Listener a_L___init__
  c_NoForm : Addr
  g_NoForm : mg "NoForm" = some (.ref c_NoForm)
  x_NoForm : PySem.W.excIn K c_NoForm [.type "ValueError", .type "Exception", .type "BaseException", .type "object"] "ValueError.__new__" = true
  k_NoForm : PySem.W.keepIn K (.ref c_NoForm) = true
  s_NoForm : PySem.W.subIn K (.ref c_NoForm) (.type "BaseException") = some true
  t_NoForm : PySem.W.typeIn K (.ref c_NoForm) = some (.type "type")
  c_NoLayer : Addr
  g_NoLayer : mg "NoLayer" = some (.ref c_NoLayer)
  x_NoLayer : PySem.W.excIn K c_NoLayer [.type "ValueError", .type "Exception", .type "BaseException", .type "object"] "ValueError.__new__" = true
  k_NoLayer : PySem.W.keepIn K (.ref c_NoLayer) = true
  s_NoLayer : PySem.W.subIn K (.ref c_NoLayer) (.type "BaseException") = some true
  t_NoLayer : PySem.W.typeIn K (.ref c_NoLayer) = some (.type "type")
  c_NoNumber : Addr
  g_NoNumber : mg "NoNumber" = some (.ref c_NoNumber)
  x_NoNumber : PySem.W.excIn K c_NoNumber [.type "ValueError", .type "Exception", .type "BaseException", .type "object"] "ValueError.__new__" = true
  k_NoNumber : PySem.W.keepIn K (.ref c_NoNumber) = true
  s_NoNumber : PySem.W.subIn K (.ref c_NoNumber) (.type "BaseException") = some true
  t_NoNumber : PySem.W.typeIn K (.ref c_NoNumber) = some (.type "type")
  c_NoPackets : Addr
  g_NoPackets : mg "NoPackets" = some (.ref c_NoPackets)
  x_NoPackets : PySem.W.excIn K c_NoPackets [.type "ValueError", .type "Exception", .type "BaseException", .type "object"] "ValueError.__new__" = true
  k_NoPackets : PySem.W.keepIn K (.ref c_NoPackets) = true
  s_NoPackets : PySem.W.subIn K (.ref c_NoPackets) (.type "BaseException") = some true
  t_NoPackets : PySem.W.typeIn K (.ref c_NoPackets) = some (.type "type")
  c_NoRest : Addr
  g_NoRest : mg "NoRest" = some (.ref c_NoRest)
  x_NoRest : PySem.W.excIn K c_NoRest [.type "ValueError", .type "Exception", .type "BaseException", .type "object"] "ValueError.__new__" = true
  k_NoRest : PySem.W.keepIn K (.ref c_NoRest) = true
  s_NoRest : PySem.W.subIn K (.ref c_NoRest) (.type "BaseException") = some true
  t_NoRest : PySem.W.typeIn K (.ref c_NoRest) = some (.type "type")
  c_NoRows : Addr
  g_NoRows : mg "NoRows" = some (.ref c_NoRows)
  x_NoRows : PySem.W.excIn K c_NoRows [.type "ValueError", .type "Exception", .type "BaseException", .type "object"] "ValueError.__new__" = true
  k_NoRows : PySem.W.keepIn K (.ref c_NoRows) = true
  s_NoRows : PySem.W.subIn K (.ref c_NoRows) (.type "BaseException") = some true
  t_NoRows : PySem.W.typeIn K (.ref c_NoRows) = some (.type "type")
  c_NoRuns : Addr
  g_NoRuns : mg "NoRuns" = some (.ref c_NoRuns)
  x_NoRuns : PySem.W.excIn K c_NoRuns [.type "ValueError", .type "Exception", .type "BaseException", .type "object"] "ValueError.__new__" = true
  k_NoRuns : PySem.W.keepIn K (.ref c_NoRuns) = true
  s_NoRuns : PySem.W.subIn K (.ref c_NoRuns) (.type "BaseException") = some true
  t_NoRuns : PySem.W.typeIn K (.ref c_NoRuns) = some (.type "type")
  c_NoSamples : Addr
  g_NoSamples : mg "NoSamples" = some (.ref c_NoSamples)
  x_NoSamples : PySem.W.excIn K c_NoSamples [.type "ValueError", .type "Exception", .type "BaseException", .type "object"] "ValueError.__new__" = true
  k_NoSamples : PySem.W.keepIn K (.ref c_NoSamples) = true
  s_NoSamples : PySem.W.subIn K (.ref c_NoSamples) (.type "BaseException") = some true
  t_NoSamples : PySem.W.typeIn K (.ref c_NoSamples) = some (.type "type")
  c_NoText : Addr
  g_NoText : mg "NoText" = some (.ref c_NoText)
  x_NoText : PySem.W.excIn K c_NoText [.type "ValueError", .type "Exception", .type "BaseException", .type "object"] "ValueError.__new__" = true
  k_NoText : PySem.W.keepIn K (.ref c_NoText) = true
  s_NoText : PySem.W.subIn K (.ref c_NoText) (.type "BaseException") = some true
  t_NoText : PySem.W.typeIn K (.ref c_NoText) = some (.type "type")
  c_NoWords : Addr
  g_NoWords : mg "NoWords" = some (.ref c_NoWords)
  x_NoWords : PySem.W.excIn K c_NoWords [.type "ValueError", .type "Exception", .type "BaseException", .type "object"] "ValueError.__new__" = true
  k_NoWords : PySem.W.keepIn K (.ref c_NoWords) = true
  s_NoWords : PySem.W.subIn K (.ref c_NoWords) (.type "BaseException") = some true
  t_NoWords : PySem.W.typeIn K (.ref c_NoWords) = some (.type "type")
  c_Nothing : Addr
  g_Nothing : mg "Nothing" = some (.ref c_Nothing)
  x_Nothing : PySem.W.excIn K c_Nothing [.type "ValueError", .type "Exception", .type "BaseException", .type "object"] "ValueError.__new__" = true
  k_Nothing : PySem.W.keepIn K (.ref c_Nothing) = true
  s_Nothing : PySem.W.subIn K (.ref c_Nothing) (.type "BaseException") = some true
  t_Nothing : PySem.W.typeIn K (.ref c_Nothing) = some (.type "type")
  c_TooLong : Addr
  g_TooLong : mg "TooLong" = some (.ref c_TooLong)
  x_TooLong : PySem.W.excIn K c_TooLong [.type "ValueError", .type "Exception", .type "BaseException", .type "object"] "ValueError.__new__" = true
  k_TooLong : PySem.W.keepIn K (.ref c_TooLong) = true
  s_TooLong : PySem.W.subIn K (.ref c_TooLong) (.type "BaseException") = some true
  t_TooLong : PySem.W.typeIn K (.ref c_TooLong) = some (.type "type")
  n_ValueError : mg "ValueError" = none
  n_all : mg "all" = none
  n_bool : mg "bool" = none
  n_enumerate : mg "enumerate" = none
  n_int : mg "int" = none
  n_isinstance : mg "isinstance" = none
  n_len : mg "len" = none
  n_list : mg "list" = none
  n_range : mg "range" = none
  n_set : mg "set" = none
  n_sorted : mg "sorted" = none
  n_str : mg "str" = none
  n_sum : mg "sum" = none
  n_tuple : mg "tuple" = none
  n_zip : mg "zip" = none
  m_FIGURES : ∃ t, mg "FIGURES" = some (.str "0123456789" t)
  m_LEAST : ∃ t, mg "LEAST" = some (.int 4 t)
  m_LONG : ∃ t, mg "LONG" = some (.int 200 t)
  m_MOST : ∃ t, mg "MOST" = some (.int 6 t)
  a_ORDERS : Addr
  m_ORDERS : mg "ORDERS" = some (.ref a_ORDERS)
  k_ORDERS : KT K a_ORDERS [.str "low", .str "high"]
  m_PACE : ∃ t, mg "PACE" = some (.int 6 t)
  a_PARITIES : Addr
  m_PARITIES : mg "PARITIES" = some (.ref a_PARITIES)
  k_PARITIES : KT K a_PARITIES [.str "none", .str "even", .str "odd"]
  c_WireError : Addr
  g_WireError : mg "WireError" = some (.ref c_WireError)
  et : ExcT K (fun c => [c_NoForm, c_NoSamples, c_NoRows, c_NoWords, c_NoRest, c_TooLong, c_NoLayer, c_NoText, c_Nothing, c_NoPackets, c_NoRuns, c_NoNumber].getD c c_Listener) c_WireError
def Tx.cv {K : PySem.W.Frag} {mg : Str → Option Value} (T : Tx K mg) : Nat → Value := fun c => .ref ([T.c_NoForm, T.c_NoSamples, T.c_NoRows, T.c_NoWords, T.c_NoRest, T.c_TooLong, T.c_NoLayer, T.c_NoText, T.c_Nothing, T.c_NoPackets, T.c_NoRuns, T.c_NoNumber].getD c T.c_Listener)
section
variable {P : Program} {w : World} {K : PySem.W.Frag} {mg : Str → Option Value} {base : Heap}
theorem ok__law_cell_at (T : Tx K mg) : FnOk P w K mg base (L2N.CX P w) 1 T.a__law_cell_at T.d__law_cell_at ["script", "k"] (SpF K T.cv 2 F__law_cell_at) :=
  fn_sim (N := n__law_cell_at) (g := g__law_cell_at) (sc := c__law_cell_at) T.f__law_cell_at rfl sc__law_cell_at (fun cdv A outer s H E B hK hcv hE hr => (ss_cons (ss_if (st_cmp (opd_lt hK hr.units) (sb_of (se_var (pv 1))) (sb_of (se_scrLen hK (pe_callB call_len_seq (by rfl) T.n_len (by decide +kernel) (pa_cons (pv 0) pa_nil)))) (nomark _)) (ss_one (ss_ret (se_scrIx hK (pe_ix ix_list (pv 0) (se_var (pv 1)) (fun _ _ => rfl))))) ss_nil) (ss_cons (ss_if (st_scrEmpty hK (pt_cmpR (op_eqP hr.units) (pv 0) (pe_lst pa_nil) (nomark _))) (ss_one (ss_ret se_int)) ss_nil) (ss_one (ss_ret (se_op (opd_add hK) (sb_of (se_op (opd_mul hK) (sb_of (se_scrIx hK (pe_ix ix_list (pv 0) (se_op opd_mod (sb_of (se_var (pv 1))) (sb_of (se_scrLen hK (pe_callB call_len_seq (by rfl) T.n_len (by decide +kernel) (pa_cons (pv 0) pa_nil))))) (fun _ _ => rfl)))) (sb_of se_int))) (sb_of (se_var (pv 1)))))))))

theorem ok__law_mixed (T : Tx K mg) : FnOk P w K mg base (L2N.CX P w) 2 T.a__law_mixed T.d__law_mixed ["script", "k", "many"] (SpF K T.cv 3 F__law_mixed) :=
  fn_sim (N := n__law_mixed) (g := g__law_mixed) (sc := c__law_mixed) T.f__law_mixed rfl sc__law_mixed (fun cdv A outer s H E B hK hcv hE hr => (ss_cons (ss_asg (ps_set (i := 3) sc__law_mixed.nd rfl (Or.inl rfl) (se_op opd_mod (sb_of (se_op (opd_add hK) (sb_of (se_op (opd_add hK) (sb_of (se_op (opd_mul hK) (sb_of (se_call hK hcv hE (pe_call (ok__law_cell_at T) (hr.mono (by decide)) rfl T.m__law_cell_at T.f__law_cell_at.kp T.b__law_cell_at .nil (L2N.passes_call (L2N.takes_of rfl rfl rfl rfl) fun _ _ _ _ h => h) (sa_scr (pv 0) (sa_cons (se_var (pv 1)) sa_nil))))) (sb_of se_int))) (sb_of (se_op (opd_mul hK) (sb_of se_int) (sb_of (se_var (pv 1))))))) (sb_of se_int))) (sb_of se_int)))) (ss_one (ss_ret (se_op opd_mod (sb_of (se_op opd_mod (sb_of (se_op opd_mod (sb_of (se_op opd_pow (sb_of (se_var (pv 3))) (sb_of se_int))) (sb_of se_int))) (sb_of se_int))) (sb_of (se_var (pv 2))))))))

theorem ok__law_draw (T : Tx K mg) : FnOk P w K mg base (L2N.CX P w) 3 T.a__law_draw T.d__law_draw ["script", "town", "many"] (SpF K T.cv 3 F__law_draw) :=
  fn_sim (N := n__law_draw) (g := g__law_draw) (sc := c__law_draw) T.f__law_draw rfl sc__law_draw (fun cdv A outer s H E B hK hcv hE hr => (ss_cons (ss_tick (ps_expr (pe_bm PySem.F.plainAttrs_list PySem.F.slot_list_append PySem.F.type_list_append mt_append (pv 1) (pa_cons pe_int pa_nil)))) (ss_one (ss_ret (se_call hK hcv hE (pe_call (ok__law_mixed T) (hr.mono (by decide)) rfl T.m__law_mixed T.f__law_mixed.kp T.b__law_mixed .nil (L2N.passes_call (L2N.takes_of rfl rfl rfl rfl) fun _ _ _ _ h => h) (sa_scr (pv 0) (sa_cons (se_townLen (pe_callB call_len_seq (by rfl) T.n_len (by decide +kernel) (pa_cons (pv 1) pa_nil))) (sa_cons (se_var (pv 2)) sa_nil)))))))))

theorem ok__law_pick (T : Tx K mg) : FnOk P w K mg base (L2N.CX P w) 4 T.a__law_pick T.d__law_pick ["script", "town", "some"] (SpF K T.cv 3 F__law_pick) :=
  fn_sim (N := n__law_pick) (g := g__law_pick) (sc := c__law_pick) T.f__law_pick rfl sc__law_pick (fun cdv A outer s H E B hK hcv hE hr => (ss_one (ss_ret (se_ix hK (sb_of (se_var (pv 2))) (sb_of (se_call hK hcv hE (pe_call (ok__law_draw T) (hr.mono (by decide)) rfl T.m__law_draw T.f__law_draw.kp T.b__law_draw .nil (L2N.passes_call (L2N.takes_of rfl rfl rfl rfl) fun _ _ _ _ h => h) (sa_scr (pv 0) (sa_town (pv 1) (sa_cons (se_callB (calld_len hK) (by rfl) T.n_len (by decide +kernel) (sbs_cons (sb_of (se_var (pv 2))) sbs_nil)) sa_nil)))))) (fun _ _ => rfl)))))

theorem ok__law_form (T : Tx K mg) : FnOk P w K mg base (L2N.CX P w) 5 T.a__law_form T.d__law_form ["script", "town"] (SpF K T.cv 2 F__law_form) :=
  fn_sim (N := n__law_form) (g := g__law_form) (sc := c__law_form) T.f__law_form rfl sc__law_form (fun cdv A outer s H E B hK hcv hE hr => (ss_cons (ss_asg (ps_set (i := 2) sc__law_form.nd rfl (Or.inl rfl) (se_call hK hcv hE (pe_call (ok__law_pick T) (hr.mono (by decide)) rfl T.m__law_pick T.f__law_pick.kp T.b__law_pick .nil (L2N.passes_call (L2N.takes_of rfl rfl rfl rfl) fun _ _ _ _ h => h) (sa_scr (pv 0) (sa_town (pv 1) (sa_cons (se_lst (sr_cons se_int (sr_cons se_int (sr_cons se_int (sr_cons se_int (sr_cons se_int (sr_cons se_int (sr_cons se_int (sr_cons se_int sr_nil))))))))) sa_nil))))))) (ss_cons (ss_asg (ps_set (i := 3) sc__law_form.nd rfl (Or.inl rfl) (se_call hK hcv hE (pe_call (ok__law_pick T) (hr.mono (by decide)) rfl T.m__law_pick T.f__law_pick.kp T.b__law_pick .nil (L2N.passes_call (L2N.takes_of rfl rfl rfl rfl) fun _ _ _ _ h => h) (sa_scr (pv 0) (sa_town (pv 1) (sa_cons (se_lst (sr_cons se_str (sr_cons se_str sr_nil))) sa_nil))))))) (ss_cons (ss_asg (ps_set (i := 4) sc__law_form.nd rfl (Or.inl rfl) (se_call hK hcv hE (pe_call (ok__law_pick T) (hr.mono (by decide)) rfl T.m__law_pick T.f__law_pick.kp T.b__law_pick .nil (L2N.passes_call (L2N.takes_of rfl rfl rfl rfl) fun _ _ _ _ h => h) (sa_scr (pv 0) (sa_town (pv 1) (sa_cons (se_lst (sr_cons se_str (sr_cons se_str (sr_cons se_str sr_nil)))) sa_nil))))))) (ss_one (ss_ret (se_tup (sr_cons (se_var (pv 2)) (sr_cons (se_op (opd_add hK) (sb_of se_int) (sb_of (se_call hK hcv hE (pe_call (ok__law_draw T) (hr.mono (by decide)) rfl T.m__law_draw T.f__law_draw.kp T.b__law_draw .nil (L2N.passes_call (L2N.takes_of rfl rfl rfl rfl) fun _ _ _ _ h => h) (sa_scr (pv 0) (sa_town (pv 1) (sa_cons se_int sa_nil))))))) (sr_cons (se_var (pv 3)) (sr_cons (se_var (pv 4)) (sr_cons (se_op (opd_add hK) (sb_of se_int) (sb_of (se_call hK hcv hE (pe_call (ok__law_draw T) (hr.mono (by decide)) rfl T.m__law_draw T.f__law_draw.kp T.b__law_draw .nil (L2N.passes_call (L2N.takes_of rfl rfl rfl rfl) fun _ _ _ _ h => h) (sa_scr (pv 0) (sa_town (pv 1) (sa_cons se_int sa_nil))))))) sr_nil))))))))))))

theorem ok__law_frame (T : Tx K mg) : FnOk P w K mg base (L2N.CX P w) 1 T.a__law_frame T.d__law_frame ["form", "word"] (SpF K T.cv 2 F__law_frame) :=
  fn_sim (N := n__law_frame) (g := g__law_frame) (sc := c__law_frame) T.f__law_frame rfl sc__law_frame (fun cdv A outer s H E B hK hcv hE hr => (ss_cons (ss_asgT (ps_asg (sb_of (se_var (pv 0))) (sgb_tup (is := [2, 3, 4, 5, 6]) hK (pg_tup rfl (pgs_cons (pg_name (i := 2) sc__law_frame.nd rfl (Or.inr rfl)) (pgs_cons (pg_name (i := 3) sc__law_frame.nd rfl (Or.inl rfl)) (pgs_cons (pg_name (i := 4) sc__law_frame.nd rfl (Or.inl rfl)) (pgs_cons (pg_name (i := 5) sc__law_frame.nd rfl (Or.inl rfl)) (pgs_cons (pg_name (i := 6) sc__law_frame.nd rfl (Or.inl rfl)) pgs_nil)))))) (pg_lst rfl (pgs_cons (pg_name (i := 2) sc__law_frame.nd rfl (Or.inr rfl)) (pgs_cons (pg_name (i := 3) sc__law_frame.nd rfl (Or.inl rfl)) (pgs_cons (pg_name (i := 4) sc__law_frame.nd rfl (Or.inl rfl)) (pgs_cons (pg_name (i := 5) sc__law_frame.nd rfl (Or.inl rfl)) (pgs_cons (pg_name (i := 6) sc__law_frame.nd rfl (Or.inl rfl)) pgs_nil))))))))) (ss_cons (ss_asgLcD (ps_lcN (is := [10]) (by decide) (ps_setLc (i := 7) (own := [("place", 10)]) rfl sc__law_frame.nd rfl rfl (sw_true rfl rfl rfl (by decide +kernel)) (si_range1 rfl T.n_range (sr_cons (se_var (pv 3)) sr_nil)) (blkOk_by (own := [("place", 10)]) (N := n__law_frame) (sc := c__law_frame) (by decide +kernel)) (fun _ _ _ _ _ => (sg_name (pg_name (i := 10) sc__law_frame.nd rfl (Or.inl rfl)))) (fun _ _ _ _ _ => sts_nil) (fun _ _ _ _ _ => (se_op opd_mod (sb_of (se_op opd_fdiv (sb_of (se_var (pv 1))) (sb_of (se_ix hK (sb_of (se_lst (sr_cons se_int (sr_cons se_int (sr_cons se_int (sr_cons se_int (sr_cons se_int (sr_cons se_int sr_nil)))))))) (sb_of (se_var (pv 10))) (fun _ _ => rfl))))) (sb_of se_int)))))) (ss_cons (ss_asg (ps_set (i := 7) sc__law_frame.nd rfl (Or.inl rfl) (se_if (st_cmp (opd_eq hK hr.units) (sb_of (se_var (pv 4))) (sb_of se_str) (nomark _)) (se_var (pv 7)) (se_revL hK (sb_of (se_var (pv 7))))))) (ss_cons (ss_asg (ps_set (i := 8) sc__law_frame.nd rfl (Or.inl rfl) (se_op opd_mod (sb_of (se_callB (calld_sum rfl) (by rfl) T.n_sum (by decide +kernel) (sbs_cons (sb_of (se_var (pv 7))) sbs_nil))) (sb_of se_int)))) (ss_cons (ss_asg (ps_set (i := 9) sc__law_frame.nd rfl (Or.inl rfl) (se_dict3 (by decide +kernel) (by decide +kernel) (by decide +kernel) (pe_dget (hu_of hr) (pe_disp (pps_cons pe_str (se_lst sr_nil) (pps_cons pe_str (se_lst (sr_cons (se_var (pv 8)) sr_nil)) (pps_cons pe_str (se_lst (sr_cons (se_op opd_sub (sb_of se_int) (sb_of (se_var (pv 8)))) sr_nil)) pps_nil))) (by rfl) (by rfl) (fun z => by cases z) (by decide)) (se_var (pv 5)) (fun _ _ => rfl))))) (ss_one (ss_ret (se_meth ty_str (pe_bm PySem.F.plainAttrs_str PySem.F.slot_str_join PySem.F.type_str_join mtd_join (sb_of se_str) (sbs_cons (sb_of (se_of_sn (sn_lc (own := [("bit", 11)]) (is := [11]) rfl sc__law_frame.nd (si_seq hK (se_op (opd_add hK) (sb_of (se_op (opd_add hK) (sb_of (se_op (opd_add hK) (sb_of (se_lst (sr_cons se_int sr_nil))) (sb_of (se_var (pv 7))))) (sb_of (se_var (pv 9))))) (sb_of (se_op (opd_mul hK) (sb_of (se_lst (sr_cons se_int sr_nil))) (sb_of (se_var (pv 6))))))) (blkOk_by (own := [("bit", 11)]) (N := n__law_frame) (sc := c__law_frame) (by decide +kernel)) (fun _ _ _ _ _ => (sg_name (pg_name (i := 11) sc__law_frame.nd rfl (Or.inl rfl)))) (fun _ _ _ _ _ => sts_nil) (fun _ _ _ _ _ => (se_op (opd_mul hK) (sb_of (se_callTy calld_str (by rfl) T.n_str (by decide +kernel) (sbs_cons (sb_of (se_var (pv 11))) sbs_nil))) (sb_of (se_var (pv 2))))) (by decide)))) sbs_nil)))))))))))

theorem ok__law_samples (T : Tx K mg) : FnOk P w K mg base (L2N.CX P w) 5 T.a__law_samples T.d__law_samples ["script", "town", "form", "most"] (SpF K T.cv 4 F__law_samples) :=
  fn_sim (N := n__law_samples) (g := g__law_samples) (sc := c__law_samples) T.f__law_samples rfl sc__law_samples (fun cdv A outer s H E B hK hcv hE hr => (ss_cons (ss_asgT (ps_asg (sb_of (se_tup (sr_cons se_str (sr_cons (se_tup sr_nil) sr_nil)))) (sgb_tup (is := [4, 5]) hK (pg_tup rfl (pgs_cons (pg_name (i := 4) sc__law_samples.nd rfl (Or.inl rfl)) (pgs_cons (pg_name (i := 5) sc__law_samples.nd rfl (Or.inl rfl)) pgs_nil))) (pg_lst rfl (pgs_cons (pg_name (i := 4) sc__law_samples.nd rfl (Or.inl rfl)) (pgs_cons (pg_name (i := 5) sc__law_samples.nd rfl (Or.inl rfl)) pgs_nil)))))) (ss_cons (ss_for (is := [6]) (passes_of rfl) rfl (si_range1 rfl T.n_range (sr_cons (se_op (opd_add hK) (sb_of se_int) (sb_of (se_call hK hcv hE (pe_call (ok__law_draw T) (hr.mono (by decide)) rfl T.m__law_draw T.f__law_draw.kp T.b__law_draw .nil (L2N.passes_call (L2N.takes_of rfl rfl rfl rfl) fun _ _ _ _ h => h) (sa_scr (pv 0) (sa_town (pv 1) (sa_cons se_int sa_nil))))))) sr_nil)) (sg_name (pg_name (i := 6) sc__law_samples.nd rfl (Or.inl rfl))) (ss_cons (ss_asg (ps_set (i := 7) sc__law_samples.nd rfl (Or.inl rfl) (se_call hK hcv hE (pe_call (ok__law_draw T) (hr.mono (by decide)) rfl T.m__law_draw T.f__law_draw.kp T.b__law_draw .nil (L2N.passes_call (L2N.takes_of rfl rfl rfl rfl) fun _ _ _ _ h => h) (sa_scr (pv 0) (sa_town (pv 1) (sa_cons (se_call hK hcv hE (pe_call (ok__law_pick T) (hr.mono (by decide)) rfl T.m__law_pick T.f__law_pick.kp T.b__law_pick .nil (L2N.passes_call (L2N.takes_of rfl rfl rfl rfl) fun _ _ _ _ h => h) (sa_scr (pv 0) (sa_town (pv 1) (sa_cons (se_lst (sr_cons se_int (sr_cons se_int (sr_cons se_int sr_nil)))) sa_nil))))) sa_nil))))))) (ss_cons (ss_asg (ps_set (i := 8) sc__law_samples.nd rfl (Or.inl rfl) (se_call hK hcv hE (pe_call (ok__law_draw T) (hr.mono (by decide)) rfl T.m__law_draw T.f__law_draw.kp T.b__law_draw .nil (L2N.passes_call (L2N.takes_of rfl rfl rfl rfl) fun _ _ _ _ h => h) (sa_scr (pv 0) (sa_town (pv 1) (sa_cons (se_ix hK (sb_of (se_lst (sr_cons se_int (sr_cons se_int (sr_cons se_int sr_nil))))) (sb_of (se_op opd_sub (sb_of (se_ix hK (sb_of (se_var (pv 2))) (sb_of se_int) (fun _ _ => rfl))) (sb_of se_int))) (fun _ _ => rfl)) sa_nil))))))) (ss_cons (ss_asg (ps_set (i := 9) sc__law_samples.nd rfl (Or.inl rfl) (se_op (opd_add hK) (sb_of (se_op (opd_mul hK) (sb_of se_str) (sb_of (se_var (pv 7))))) (sb_of (se_call hK hcv hE (pe_call (ok__law_frame T) (hr.mono (by decide)) rfl T.m__law_frame T.f__law_frame.kp T.b__law_frame .nil (L2N.passes_call (L2N.takes_of rfl rfl rfl rfl) fun _ _ _ _ h => h) (sa_cons (se_var (pv 2)) (sa_cons (se_var (pv 8)) sa_nil)))))))) (ss_one (ss_if (st_cmp (opd_le hK hr.units) (sb_of (se_callB (calld_len hK) (by rfl) T.n_len (by decide +kernel) (sbs_cons (sb_of (se_op (opd_add hK) (sb_of (se_var (pv 4))) (sb_of (se_var (pv 9))))) sbs_nil))) (sb_of (se_var (pv 3))) (nomark _)) (ss_one (ss_par (consE_len (consE_len nilE_len)) (ps_par (i := 4) (j := 5) rfl sc__law_samples.nd rfl rfl (by decide) rfl rfl (sr_cons (se_op (opd_add hK) (sb_of (se_var (pv 4))) (sb_of (se_var (pv 9)))) (sr_cons (se_op (opd_add hK) (sb_of (se_var (pv 5))) (sb_of (se_tup (sr_cons (se_tup (sr_cons (se_var (pv 7)) (sr_cons (se_var (pv 8)) sr_nil))) sr_nil)))) sr_nil)) rfl))) ss_nil)))))) (ss_cons (ss_if (st_cmp (opd_eq hK hr.units) (sb_of (se_var (pv 5))) (sb_of (se_tup sr_nil)) (nomark _)) (ss_one (ss_par (consE_len (consE_len nilE_len)) (ps_par (i := 4) (j := 5) rfl sc__law_samples.nd rfl rfl (by decide) rfl rfl (sr_cons (se_call hK hcv hE (pe_call (ok__law_frame T) (hr.mono (by decide)) rfl T.m__law_frame T.f__law_frame.kp T.b__law_frame .nil (L2N.passes_call (L2N.takes_of rfl rfl rfl rfl) fun _ _ _ _ h => h) (sa_cons (se_var (pv 2)) (sa_cons se_int sa_nil)))) (sr_cons (se_tup (sr_cons (se_tup (sr_cons se_int (sr_cons se_int sr_nil))) sr_nil)) sr_nil)) rfl))) ss_nil) (ss_cons (ss_asg (ps_set (i := 10) sc__law_samples.nd rfl (Or.inl rfl) (se_call hK hcv hE (pe_call (ok__law_draw T) (hr.mono (by decide)) rfl T.m__law_draw T.f__law_draw.kp T.b__law_draw .nil (L2N.passes_call (L2N.takes_of rfl rfl rfl rfl) fun _ _ _ _ h => h) (sa_scr (pv 0) (sa_town (pv 1) (sa_cons se_int sa_nil))))))) (ss_one (ss_ret (se_tup (sr_cons (se_op (opd_add hK) (sb_of (se_var (pv 4))) (sb_of (se_op (opd_mul hK) (sb_of se_str) (sb_of (se_var (pv 10)))))) (sr_cons (se_var (pv 5)) (sr_cons (se_var (pv 10)) sr_nil)))))))))))

theorem ok__law_noisy (T : Tx K mg) : FnOk P w K mg base (L2N.CX P w) 6 T.a__law_noisy T.d__law_noisy ["script", "town", "form"] (SpF K T.cv 3 F__law_noisy) :=
  fn_sim (N := n__law_noisy) (g := g__law_noisy) (sc := c__law_noisy) T.f__law_noisy rfl sc__law_noisy (fun cdv A outer s H E B hK hcv hE hr => (ss_cons (ss_asg (ps_set (i := 3) sc__law_noisy.nd rfl (Or.inl rfl) (se_call hK hcv hE (pe_call (ok__law_draw T) (hr.mono (by decide)) rfl T.m__law_draw T.f__law_draw.kp T.b__law_draw .nil (L2N.passes_call (L2N.takes_of rfl rfl rfl rfl) fun _ _ _ _ h => h) (sa_scr (pv 0) (sa_town (pv 1) (sa_cons se_int sa_nil))))))) (ss_cons (ss_asg (ps_set (i := 4) sc__law_noisy.nd rfl (Or.inl rfl) (se_ix hK (sb_of (se_call hK hcv hE (pe_call (ok__law_samples T) (hr.mono (by decide)) rfl T.m__law_samples T.f__law_samples.kp T.b__law_samples .nil (L2N.passes_call (L2N.takes_of rfl rfl rfl rfl) fun _ _ _ _ h => h) (sa_scr (pv 0) (sa_town (pv 1) (sa_cons (se_var (pv 2)) (sa_cons se_int sa_nil))))))) (sb_of se_int) (fun _ _ => rfl)))) (ss_cons (ss_for (is := [5]) (passes_of rfl) rfl (si_range1 rfl T.n_range (sr_cons (se_var (pv 3)) sr_nil)) (sg_name (pg_name (i := 5) sc__law_noisy.nd rfl (Or.inl rfl))) (ss_cons (ss_asg (ps_set (i := 6) sc__law_noisy.nd rfl (Or.inl rfl) (se_call hK hcv hE (pe_call (ok__law_draw T) (hr.mono (by decide)) rfl T.m__law_draw T.f__law_draw.kp T.b__law_draw .nil (L2N.passes_call (L2N.takes_of rfl rfl rfl rfl) fun _ _ _ _ h => h) (sa_scr (pv 0) (sa_town (pv 1) (sa_cons (se_callB (calld_len hK) (by rfl) T.n_len (by decide +kernel) (sbs_cons (sb_of (se_var (pv 4))) sbs_nil)) sa_nil))))))) (ss_one (ss_asg (ps_set (i := 4) sc__law_noisy.nd rfl (Or.inl rfl) (se_op (opd_add hK) (sb_of (se_op (opd_add hK) (sb_of (se_slice hK (sb_of (se_var (pv 4))) so_none (so_some (se_var (pv 6))))) (sb_of (se_call hK hcv hE (pe_call (ok__law_pick T) (hr.mono (by decide)) rfl T.m__law_pick T.f__law_pick.kp T.b__law_pick .nil (L2N.passes_call (L2N.takes_of rfl rfl rfl rfl) fun _ _ _ _ h => h) (sa_scr (pv 0) (sa_town (pv 1) (sa_cons (se_lst (sr_cons se_str (sr_cons se_str sr_nil))) sa_nil)))))))) (sb_of (se_slice hK (sb_of (se_var (pv 4))) (so_some (se_op (opd_add hK) (sb_of (se_var (pv 6))) (sb_of se_int))) so_none)))))))) (ss_cons (ss_if (st_cmp (opd_eq hK hr.units) (sb_of (se_var (pv 3))) (sb_of se_int) (nomark _)) (ss_one (ss_asg (ps_set (i := 4) sc__law_noisy.nd rfl (Or.inl rfl) (se_meth ty_str (pe_bm PySem.F.plainAttrs_str PySem.F.slot_str_join PySem.F.type_str_join mtd_join (sb_of se_str) (sbs_cons (sb_of (se_of_sn (sn_lc (own := [("k", 5)]) (is := [5]) rfl sc__law_noisy.nd (si_range1 rfl T.n_range (sr_cons (se_op (opd_add hK) (sb_of se_int) (sb_of (se_call hK hcv hE (pe_call (ok__law_draw T) (hr.mono (by decide)) rfl T.m__law_draw T.f__law_draw.kp T.b__law_draw .nil (L2N.passes_call (L2N.takes_of rfl rfl rfl rfl) fun _ _ _ _ h => h) (sa_scr (pv 0) (sa_town (pv 1) (sa_cons se_int sa_nil))))))) sr_nil)) (blkOk_by (own := [("k", 5)]) (N := n__law_noisy) (sc := c__law_noisy) (by decide +kernel)) (fun _ _ _ _ _ => (sg_name (pg_name (i := 5) sc__law_noisy.nd rfl (Or.inl rfl)))) (fun _ _ _ _ _ => sts_nil) (fun _ _ _ _ _ => (se_call hK hcv rfl (pe_call (ok__law_pick T) (hr.mono (by decide)) rfl T.m__law_pick T.f__law_pick.kp T.b__law_pick .nil passN (sa_scr (pv 0) (sa_town (pv 1) (sa_cons (se_lst (sr_cons se_str (sr_cons se_str sr_nil))) sa_nil)))))) (by decide)))) sbs_nil)))))) ss_nil) (ss_one (ss_ret (se_var (pv 4)))))))))

theorem ok_is_one_of (T : Tx K mg) : FnOk P w K mg base (L2N.CX P w) 1 T.a_is_one_of T.d_is_one_of ["thing", "words"] (SpF K T.cv 2 F_is_one_of) :=
  fn_sim (N := n_is_one_of) (g := g_is_one_of) (sc := c_is_one_of) T.f_is_one_of rfl sc_is_one_of (fun cdv A outer s H E B hK hcv hE hr => (ss_one (ss_ret (se_and (se_isi hK isi_str rfl T.n_isinstance rfl T.n_str (by decide +kernel) (sb_of (se_var (pv 0)))) (se_one (se_cmp (opd_in hK hr.units) (sb_of (se_var (pv 0))) (sb_of (se_var (pv 1))) rfl))))))

theorem ok_is_whole (T : Tx K mg) : FnOk P w K mg base (L2N.CX P w) 1 T.a_is_whole T.d_is_whole ["thing", "low", "most"] (SpF K T.cv 3 F_is_whole) :=
  fn_sim (N := n_is_whole) (g := g_is_whole) (sc := c_is_whole) T.f_is_whole rfl sc_is_whole (fun cdv A outer s H E B hK hcv hE hr => (ss_one (ss_ret (se_and (se_isi hK isi_int rfl T.n_isinstance rfl T.n_int (by decide +kernel) (sb_of (se_var (pv 0)))) (se_and (se_not (se_isi hK isi_bool rfl T.n_isinstance rfl T.n_bool (by decide +kernel) (sb_of (se_var (pv 0))))) (se_one (se_chain (opd_le hK hr.units) (opd_le hK hr.units) (sb_of (se_var (pv 1))) (sb_of (se_var (pv 0))) (sb_of (se_var (pv 2))))))))))

theorem ok_is_form (T : Tx K mg) : FnOk P w K mg base (L2N.CX P w) 2 T.a_is_form T.d_is_form ["thing"] (SpF K T.cv 1 F_is_form) :=
  fn_sim (N := n_is_form) (g := g_is_form) (sc := c_is_form) T.f_is_form rfl sc_is_form (fun cdv A outer s H E B hK hcv hE hr => (ss_cons (ss_if (st_of (sw_or (st_not (st_val (se_isi hK isi_tuple rfl T.n_isinstance rfl T.n_tuple (by decide +kernel) (sb_of (se_var (pv 0)))))) (sw_or (st_cmp (opd_ne hK hr.units) (sb_of (se_callB (calld_len hK) (by rfl) T.n_len (by decide +kernel) (sbs_cons (sb_of (se_var (pv 0))) sbs_nil))) (sb_of se_int) (nomark _)) (sw_or1 (st_not (st_val (se_call hK hcv hE (pe_call (ok_is_whole T) (hr.mono (by decide)) rfl T.m_is_whole T.f_is_whole.kp T.b_is_whole .nil (L2N.passes_call (L2N.takes_of rfl rfl rfl rfl) fun _ _ _ _ h => h) (sa_cons (se_ix hK (sb_of (se_var (pv 0))) (sb_of se_int) (fun _ _ => rfl)) (sa_cons se_int (sa_cons (se_c (v := .int 6) (pe_glob (by rfl) T.m_PACE.choose_spec ⟨_, rfl⟩) fun _ _ => .int _) sa_nil))))))))))) (ss_one (ss_ret se_bl)) ss_nil) (ss_cons (ss_if (st_of (sw_or (st_not (st_val (se_call hK hcv hE (pe_call (ok_is_whole T) (hr.mono (by decide)) rfl T.m_is_whole T.f_is_whole.kp T.b_is_whole .nil (L2N.passes_call (L2N.takes_of rfl rfl rfl rfl) fun _ _ _ _ h => h) (sa_cons (se_ix hK (sb_of (se_var (pv 0))) (sb_of se_int) (fun _ _ => rfl)) (sa_cons (se_c (v := .int 4) (pe_glob (by rfl) T.m_LEAST.choose_spec ⟨_, rfl⟩) fun _ _ => .int _) (sa_cons (se_c (v := .int 6) (pe_glob (by rfl) T.m_MOST.choose_spec ⟨_, rfl⟩) fun _ _ => .int _) sa_nil))))))) (sw_or1 (st_not (st_val (se_call hK hcv hE (pe_call (ok_is_one_of T) (hr.mono (by decide)) rfl T.m_is_one_of T.f_is_one_of.kp T.b_is_one_of .nil (L2N.passes_call (L2N.takes_of rfl rfl rfl rfl) fun _ _ _ _ h => h) (sa_cons (se_ix hK (sb_of (se_var (pv 0))) (sb_of se_int) (fun _ _ => rfl)) (sa_cons (se_c (v := .ref T.a_ORDERS) (d := .tuple [.str "low", .str "high"]) (pe_glob (by rfl) T.m_ORDERS rfl) fun _ _ => .tup (.inr (hK ▸ T.k_ORDERS)) (.cons (.str _) (.cons (.str _) .nil))) sa_nil))))))))) (ss_one (ss_ret se_bl)) ss_nil) (ss_one (ss_ret (se_and (se_call hK hcv hE (pe_call (ok_is_one_of T) (hr.mono (by decide)) rfl T.m_is_one_of T.f_is_one_of.kp T.b_is_one_of .nil (L2N.passes_call (L2N.takes_of rfl rfl rfl rfl) fun _ _ _ _ h => h) (sa_cons (se_ix hK (sb_of (se_var (pv 0))) (sb_of se_int) (fun _ _ => rfl)) (sa_cons (se_c (v := .ref T.a_PARITIES) (d := .tuple [.str "none", .str "even", .str "odd"]) (pe_glob (by rfl) T.m_PARITIES rfl) fun _ _ => .tup (.inr (hK ▸ T.k_PARITIES)) (.cons (.str _) (.cons (.str _) (.cons (.str _) .nil)))) sa_nil)))) (se_one (se_call hK hcv hE (pe_call (ok_is_whole T) (hr.mono (by decide)) rfl T.m_is_whole T.f_is_whole.kp T.b_is_whole .nil (L2N.passes_call (L2N.takes_of rfl rfl rfl rfl) fun _ _ _ _ h => h) (sa_cons (se_ix hK (sb_of (se_var (pv 0))) (sb_of se_int) (fun _ _ => rfl)) (sa_cons se_int (sa_cons se_int sa_nil))))))))))))

theorem ok_need_form (T : Tx K mg) : FnOk P w K mg base (L2N.CX P w) 3 T.a_need_form T.d_need_form ["thing"] (SpF K T.cv 1 F_need_form) :=
  fn_sim (N := n_need_form) (g := g_need_form) (sc := c_need_form) T.f_need_form rfl sc_need_form (fun cdv A outer s H E B hK hcv hE hr => (ss_one (ss_if (st_not (st_val (se_call hK hcv hE (pe_call (ok_is_form T) (hr.mono (by decide)) rfl T.m_is_form T.f_is_form.kp T.b_is_form .nil (L2N.passes_call (L2N.takes_of rfl rfl rfl rfl) fun _ _ _ _ h => h) (sa_cons (se_var (pv 0)) sa_nil))))) (ss_one (ss_raiseC (C := T.c_NoForm) (by rw [hcv]; rfl) rfl hE (L2N.takes_of rfl rfl rfl rfl) T.x_NoForm T.g_NoForm T.k_NoForm T.s_NoForm T.t_NoForm (by rfl))) ss_nil)))

theorem ok_need_samples (T : Tx K mg) : FnOk P w K mg base (L2N.CX P w) 1 T.a_need_samples T.d_need_samples ["thing"] (SpF K T.cv 1 F_need_samples) :=
  fn_sim (N := n_need_samples) (g := g_need_samples) (sc := c_need_samples) T.f_need_samples rfl sc_need_samples (fun cdv A outer s H E B hK hcv hE hr => (ss_one (ss_if (st_of (sw_or (st_not (st_val (se_isi hK isi_str rfl T.n_isinstance rfl T.n_str (by decide +kernel) (sb_of (se_var (pv 0)))))) (sw_or (st_not (st_chain (opd_le hK hr.units) (opd_le hK hr.units) (sb_of se_int) (sb_of (se_callB (calld_len hK) (by rfl) T.n_len (by decide +kernel) (sbs_cons (sb_of (se_var (pv 0))) sbs_nil))) (sb_of (se_c (v := .int 200) (pe_glob (by rfl) T.m_LONG.choose_spec ⟨_, rfl⟩) fun _ _ => .int _)))) (sw_or1 (st_not (st_val (se_callB (calld_all rfl) (by rfl) T.n_all (by decide +kernel) (sbs_cons (sb_of (se_of_sn (sn_lc (own := [("sign", 1)]) (is := [1]) rfl sc_need_samples.nd (si_seq hK (se_var (pv 0))) (blkOk_by (own := [("sign", 1)]) (N := n_need_samples) (sc := c_need_samples) (by decide +kernel)) (fun _ _ _ _ _ => (sg_name (pg_name (i := 1) sc_need_samples.nd rfl (Or.inl rfl)))) (fun _ _ _ _ _ => sts_nil) (fun _ _ _ _ _ => (se_cmp (opd_in hK hr.units) (sb_of (se_var (pv 1))) (sb_of se_str) rfl)) (by decide)))) sbs_nil)))))))) (ss_one (ss_raiseC (C := T.c_NoSamples) (by rw [hcv]; rfl) rfl hE (L2N.takes_of rfl rfl rfl rfl) T.x_NoSamples T.g_NoSamples T.k_NoSamples T.s_NoSamples T.t_NoSamples (by rfl))) ss_nil)))

theorem ok_L___init__ (T : Tx K mg) : FnOk P w K mg base (L2N.CX P w) 4 T.a_L___init__ T.d_L___init__ ["self", "form"] (spNew K T.cv T.c_Listener F_need_form) :=
  init_sim (sc := c_L___init__) T.f_L___init__ rfl sc_L___init__ T.cls T.na_form T.na_tick T.na_bits T.na_told T.na_past (fun cdv A outer s H E hr => pss_cons (ps_expr (pe_call (ok_need_form T) (hr.mono (by decide)) rfl T.m_need_form T.f_need_form.kp T.b_need_form .nil (L2N.passes_call (L2N.takes_of rfl rfl rfl rfl) fun _ _ _ _ h => h) (pa_cons (pv 1) pa_nil))) (pss_cons (ps_fld (pv 0) (pv 1) rfl) (pss_cons (ps_fld (pv 0) pe_non rfl) (pss_cons (ps_fld (pv 0) (pe_tupZ pa_nil) rfl) (pss_cons (ps_fld (pv 0) (pe_tupZ pa_nil) rfl) (pss_one (ps_fld (pv 0) (pe_lst pa_nil) rfl)))))))

theorem ok_word_of (T : Tx K mg) : FnOk P w K mg base (L2N.CX P w) 1 T.a_word_of T.d_word_of ["form", "bits"] (SpF K T.cv 2 F_word_of) :=
  fn_sim (N := n_word_of) (g := g_word_of) (sc := c_word_of) T.f_word_of rfl sc_word_of (fun cdv A outer s H E B hK hcv hE hr => (ss_cons (ss_asg (ps_set (i := 2) sc_word_of.nd rfl (Or.inl rfl) se_int)) (ss_cons (ss_for (is := [3]) (passes_of rfl) rfl (si_seq hK (se_if (st_cmp (opd_eq hK hr.units) (sb_of (se_ix hK (sb_of (se_var (pv 0))) (sb_of se_int) (fun _ _ => rfl))) (sb_of se_str) (nomark _)) (se_revL hK (sb_of (se_var (pv 1)))) (se_var (pv 1)))) (sg_name (pg_name (i := 3) sc_word_of.nd rfl (Or.inl rfl))) (ss_one (ss_asg (ps_set (i := 2) sc_word_of.nd rfl (Or.inl rfl) (se_op (opd_add hK) (sb_of (se_op (opd_mul hK) (sb_of se_int) (sb_of (se_var (pv 2))))) (sb_of (se_var (pv 3)))))))) (ss_one (ss_ret (se_var (pv 2)))))))

theorem ok_parity_of (T : Tx K mg) : FnOk P w K mg base (L2N.CX P w) 1 T.a_parity_of T.d_parity_of ["form", "bits"] (SpF K T.cv 2 F_parity_of) :=
  fn_sim (N := n_parity_of) (g := g_parity_of) (sc := c_parity_of) T.f_parity_of rfl sc_parity_of (fun cdv A outer s H E B hK hcv hE hr => (ss_one (ss_ret (se_dict3 (by decide +kernel) (by decide +kernel) (by decide +kernel) (pe_dget (hu_of hr) (pe_disp (pps_cons pe_str (se_lst sr_nil) (pps_cons pe_str (se_lst (sr_cons (se_op opd_mod (sb_of (se_callB (calld_sum rfl) (by rfl) T.n_sum (by decide +kernel) (sbs_cons (sb_of (se_var (pv 1))) sbs_nil))) (sb_of se_int)) sr_nil)) (pps_cons pe_str (se_lst (sr_cons (se_op opd_sub (sb_of se_int) (sb_of (se_op opd_mod (sb_of (se_callB (calld_sum rfl) (by rfl) T.n_sum (by decide +kernel) (sbs_cons (sb_of (se_var (pv 1))) sbs_nil))) (sb_of se_int)))) sr_nil)) pps_nil))) (by rfl) (by rfl) (fun z => by cases z) (by decide)) (se_ix hK (sb_of (se_var (pv 0))) (sb_of se_int) (fun _ _ => rfl)) (fun _ _ => rfl))))))

theorem ok_L_ended (T : Tx K mg) : FnOk P w K mg base (L2N.CX P w) 2 T.a_L_ended T.d_L_ended ["self"] (SpF K T.cv 1 F_L_ended) :=
  fn_sim (N := n_L_ended) (g := g_L_ended) (sc := c_L_ended) T.f_L_ended rfl sc_L_ended (fun cdv A outer s H E B hK hcv hE hr => (ss_cons (ss_asgT (ps_asg (sb_of (se_fld (f := .form) hK (cv100 hcv rfl) T.cls T.na_form rfl (pe_fld (pv 0) rfl))) (sgb_tup (is := [1, 2, 3, 4, 5]) hK (pg_tup rfl (pgs_cons (pg_name (i := 1) sc_L_ended.nd rfl (Or.inl rfl)) (pgs_cons (pg_name (i := 2) sc_L_ended.nd rfl (Or.inl rfl)) (pgs_cons (pg_name (i := 3) sc_L_ended.nd rfl (Or.inl rfl)) (pgs_cons (pg_name (i := 4) sc_L_ended.nd rfl (Or.inl rfl)) (pgs_cons (pg_name (i := 5) sc_L_ended.nd rfl (Or.inl rfl)) pgs_nil)))))) (pg_lst rfl (pgs_cons (pg_name (i := 1) sc_L_ended.nd rfl (Or.inl rfl)) (pgs_cons (pg_name (i := 2) sc_L_ended.nd rfl (Or.inl rfl)) (pgs_cons (pg_name (i := 3) sc_L_ended.nd rfl (Or.inl rfl)) (pgs_cons (pg_name (i := 4) sc_L_ended.nd rfl (Or.inl rfl)) (pgs_cons (pg_name (i := 5) sc_L_ended.nd rfl (Or.inl rfl)) pgs_nil))))))))) (ss_cons (ss_if (st_cmp (opd_lt hK hr.units) (sb_of (se_callB (calld_len hK) (by rfl) T.n_len (by decide +kernel) (sbs_cons (sb_of (se_fld (f := .bits) hK (cv100 hcv rfl) T.cls T.na_bits rfl (pe_fld (pv 0) rfl))) sbs_nil))) (sb_of (se_op (opd_add hK) (sb_of (se_op (opd_add hK) (sb_of (se_op (opd_add hK) (sb_of se_int) (sb_of (se_var (pv 2))))) (sb_of (se_callTy calld_int (by rfl) T.n_int (by decide +kernel) (sbs_cons (sb_of (se_cmp (opd_ne hK hr.units) (sb_of (se_var (pv 4))) (sb_of se_str) (nomark _))) sbs_nil))))) (sb_of (se_var (pv 5))))) (nomark _)) (ss_one (ss_ret se_non)) ss_nil) (ss_cons (ss_asg (ps_set (i := 6) sc_L_ended.nd rfl (Or.inl rfl) (se_callTy (calld_list hK) (by rfl) T.n_list (by decide +kernel) (sbs_cons (sb_of (se_slice hK (sb_of (se_fld (f := .bits) hK (cv100 hcv rfl) T.cls T.na_bits rfl (pe_fld (pv 0) rfl))) (so_some se_int) (so_some (se_op (opd_add hK) (sb_of se_int) (sb_of (se_var (pv 2))))))) sbs_nil)))) (ss_cons (ss_asg (ps_set (i := 7) sc_L_ended.nd rfl (Or.inl rfl) (se_and (se_cmp (opd_eq hK hr.units) (sb_of (se_ix hK (sb_of (se_fld (f := .bits) hK (cv100 hcv rfl) T.cls T.na_bits rfl (pe_fld (pv 0) rfl))) (sb_of se_int) (fun _ _ => rfl))) (sb_of se_int) (nomark _)) (se_one (se_cmp (opd_eq hK hr.units) (sb_of (se_callTy (calld_list hK) (by rfl) T.n_list (by decide +kernel) (sbs_cons (sb_of (se_slice hK (sb_of (se_fld (f := .bits) hK (cv100 hcv rfl) T.cls T.na_bits rfl (pe_fld (pv 0) rfl))) (so_some (se_op (opd_add hK) (sb_of se_int) (sb_of (se_var (pv 2))))) so_none)) sbs_nil))) (sb_of (se_op (opd_add hK) (sb_of (se_call hK hcv hE (pe_call (ok_parity_of T) (hr.mono (by decide)) rfl T.m_parity_of T.f_parity_of.kp T.b_parity_of .nil (L2N.passes_call (L2N.takes_of rfl rfl rfl rfl) fun _ _ _ _ h => h) (sa_cons (se_fld (f := .form) hK (cv100 hcv rfl) T.cls T.na_form rfl (pe_fld (pv 0) rfl)) (sa_cons (se_var (pv 6)) sa_nil))))) (sb_of (se_op (opd_mul hK) (sb_of (se_lst (sr_cons se_int sr_nil))) (sb_of (se_var (pv 5))))))) (nomark _)))))) (ss_cons (ss_asg (ps_set (i := 8) sc_L_ended.nd rfl (Or.inl rfl) (se_if (st_val (se_var (pv 7))) (se_call hK hcv hE (pe_call (ok_word_of T) (hr.mono (by decide)) rfl T.m_word_of T.f_word_of.kp T.b_word_of .nil (L2N.passes_call (L2N.takes_of rfl rfl rfl rfl) fun _ _ _ _ h => h) (sa_cons (se_fld (f := .form) hK (cv100 hcv rfl) T.cls T.na_form rfl (pe_fld (pv 0) rfl)) (sa_cons (se_var (pv 6)) sa_nil)))) se_non))) (ss_cons (ss_setF (f := .told) hK (cv100 hcv rfl) T.cls T.na_told rfl (ps_fld (pv 0) (se_op (opd_add hK) (sb_of (se_fld (f := .told) hK (cv100 hcv rfl) T.cls T.na_told rfl (pe_fld (pv 0) rfl))) (sb_of (se_tup (sr_cons (se_var (pv 8)) sr_nil)))) rfl)) (ss_cons (ss_setF (f := .tick) hK (cv100 hcv rfl) T.cls T.na_tick rfl (ps_fld (pv 0) se_non rfl)) (ss_cons (ss_setF (f := .bits) hK (cv100 hcv rfl) T.cls T.na_bits rfl (ps_fld (pv 0) (se_tup sr_nil) rfl)) (ss_one (ss_ret (se_if (st_val (se_var (pv 7))) (se_tup (sr_cons se_str (sr_cons (se_var (pv 8)) sr_nil))) (se_tup (sr_cons se_str sr_nil))))))))))))))

theorem ok_L_hear (T : Tx K mg) : FnOk P w K mg base (L2N.CX P w) 3 T.a_L_hear T.d_L_hear ["self", "sample"] (SpF K T.cv 2 F_L_hear) :=
  fn_sim (N := n_L_hear) (g := g_L_hear) (sc := c_L_hear) T.f_L_hear rfl sc_L_hear (fun cdv A outer s H E B hK hcv hE hr => (ss_cons (ss_if (st_of (sw_or (st_not (st_val (se_isi hK isi_str rfl T.n_isinstance rfl T.n_str (by decide +kernel) (sb_of (se_var (pv 1)))))) (sw_or1 (st_cmp (opd_notIn hK hr.units) (sb_of (se_var (pv 1))) (sb_of (se_tup (sr_cons se_str (sr_cons se_str sr_nil)))) rfl)))) (ss_one (ss_raiseC (C := T.c_NoSamples) (by rw [hcv]; rfl) rfl hE (L2N.takes_of rfl rfl rfl rfl) T.x_NoSamples T.g_NoSamples T.k_NoSamples T.s_NoSamples T.t_NoSamples (by rfl))) ss_nil) (ss_cons (ss_past hK (cv100 hcv rfl) T.cls T.na_past (ps_expr (pe_bm PySem.F.plainAttrs_list PySem.F.slot_list_append PySem.F.type_list_append mt_append (pe_fld (pv 0) rfl) (pa_cons (se_tup (sr_cons (se_fld (f := .tick) hK (cv100 hcv rfl) T.cls T.na_tick rfl (pe_fld (pv 0) rfl)) (sr_cons (se_fld (f := .bits) hK (cv100 hcv rfl) T.cls T.na_bits rfl (pe_fld (pv 0) rfl)) (sr_cons (se_fld (f := .told) hK (cv100 hcv rfl) T.cls T.na_told rfl (pe_fld (pv 0) rfl)) (sr_cons (se_var (pv 1)) sr_nil))))) pa_nil)))) (ss_cons (ss_if (st_of (sw_and (st_isN (se_fld (f := .tick) hK (cv100 hcv rfl) T.cls T.na_tick rfl (pe_fld (pv 0) rfl))) (sw_and1 (st_cmp (opd_eq hK hr.units) (sb_of (se_var (pv 1))) (sb_of se_str) (nomark _))))) (ss_one (ss_ret se_non)) ss_nil) (ss_cons (ss_if (st_isN (se_fld (f := .tick) hK (cv100 hcv rfl) T.cls T.na_tick rfl (pe_fld (pv 0) rfl))) (ss_one (ss_setF (f := .tick) hK (cv100 hcv rfl) T.cls T.na_tick rfl (ps_fld (pv 0) se_int rfl))) ss_nil) (ss_cons (ss_asg (ps_set (i := 2) sc_L_hear.nd rfl (Or.inl rfl) (se_ix hK (sb_of (se_fld (f := .form) hK (cv100 hcv rfl) T.cls T.na_form rfl (pe_fld (pv 0) rfl))) (sb_of se_int) (fun _ _ => rfl)))) (ss_cons (ss_if (st_cmp (opd_eq hK hr.units) (sb_of (se_op opd_mod (sb_of (se_fld (f := .tick) hK (cv100 hcv rfl) T.cls T.na_tick rfl (pe_fld (pv 0) rfl))) (sb_of (se_var (pv 2))))) (sb_of (se_op opd_fdiv (sb_of (se_var (pv 2))) (sb_of se_int))) (nomark _)) (ss_one (ss_setF (f := .bits) hK (cv100 hcv rfl) T.cls T.na_bits rfl (ps_fld (pv 0) (se_op (opd_add hK) (sb_of (se_fld (f := .bits) hK (cv100 hcv rfl) T.cls T.na_bits rfl (pe_fld (pv 0) rfl))) (sb_of (se_tup (sr_cons (se_callTy calld_int (by rfl) T.n_int (by decide +kernel) (sbs_cons (sb_of (se_var (pv 1))) sbs_nil)) sr_nil)))) rfl))) ss_nil) (ss_cons (ss_setF (f := .tick) hK (cv100 hcv rfl) T.cls T.na_tick rfl (ps_fld (pv 0) (se_op (opd_add hK) (sb_of (se_fld (f := .tick) hK (cv100 hcv rfl) T.cls T.na_tick rfl (pe_fld (pv 0) rfl))) (sb_of se_int)) rfl)) (ss_one (ss_ret (se_methL0 hK hcv hE rfl (fun _ _ _ _ _ => rfl) (pe_meth0 (pv 0) T.cls T.me_L_ended (ok_L_ended T) (hr.mono (by decide)) T.b_L_ended .nil (L2N.passes_call (L2N.takes_of rfl rfl rfl rfl) fun _ _ _ _ h => h)))))))))))))

theorem ok_heard_of (T : Tx K mg) : FnOk P w K mg base (L2N.CX P w) 6 T.a_heard_of T.d_heard_of ["form", "samples"] (SpF K T.cv 2 F_heard_of) :=
  fn_sim (N := n_heard_of) (g := g_heard_of) (sc := c_heard_of) T.f_heard_of rfl sc_heard_of (fun cdv A outer s H E B hK hcv hE hr => (ss_new (i := 2) hK hcv hE rfl (ps_set (i := 2) sc_heard_of.nd rfl (Or.inl rfl) (pe_make T.mkL (ok_L___init__ T) (hr.mono (by decide)) rfl T.g_Listener T.b_L___init__ .nil (L2N.passes_call (L2N.takes_of rfl rfl rfl rfl) fun _ _ _ _ h => h) (pa_cons (se_var (pv 0)) pa_nil))) (fun B hK hcv hE => (ss_cons (ss_asgN (ps_set (i := 3) sc_heard_of.nd rfl (Or.inl rfl) (sn_lst sr_nil))) (ss_cons (ss_for (is := [4, 5]) (passes_of rfl) rfl (si_enumS hK rfl T.n_enumerate (sr_cons (se_var (pv 1)) sr_nil)) (sgz_tup (is := [4, 5]) hK (pg_tup rfl (pgs_cons (pg_name (i := 4) sc_heard_of.nd rfl (Or.inl rfl)) (pgs_cons (pg_name (i := 5) sc_heard_of.nd rfl (Or.inl rfl)) pgs_nil)))) (ss_cons (ss_asg (ps_set (i := 6) sc_heard_of.nd rfl (Or.inl rfl) (se_methL hK hcv hE rfl (fun _ _ _ _ _ => rfl) (pe_meth (pv 2) T.cls T.me_L_hear (ok_L_hear T) (hr.mono (by decide)) T.b_L_hear .nil (L2N.passes_call (L2N.takes_of rfl rfl rfl rfl) fun _ _ _ _ h => h) (sa_cons (se_var (pv 5)) sa_nil))))) (ss_one (ss_if (st_notN (se_var (pv 6))) (ss_one (ss_app (ps_expr (pe_bm PySem.F.plainAttrs_list PySem.F.slot_list_append PySem.F.type_list_append mt_append (pv 3) (pa_cons (se_tup (sr_cons (se_var (pv 4)) (sr_cons (se_if (st_cmp (opd_eq hK hr.units) (sb_of (se_ix hK (sb_of (se_var (pv 6))) (sb_of se_int) (fun _ _ => rfl))) (sb_of se_str) (nomark _)) (se_ix hK (sb_of (se_var (pv 6))) (sb_of se_int) (fun _ _ => rfl)) se_non) sr_nil))) pa_nil))))) ss_nil)))) (ss_freeze (i := 3) (ss_one (ss_ret (se_var (pv 3))))))))))

theorem ok_heard (T : Tx K mg) : FnOk P w K mg base (L2N.CX P w) 7 T.a_heard T.d_heard ["form", "samples"] (SpF K T.cv 2 F_heard) :=
  fn_sim (N := n_heard) (g := g_heard) (sc := c_heard) T.f_heard rfl sc_heard (fun cdv A outer s H E B hK hcv hE hr => (ss_cons (ss_expr (se_call hK hcv hE (pe_call (ok_need_form T) (hr.mono (by decide)) rfl T.m_need_form T.f_need_form.kp T.b_need_form .nil (L2N.passes_call (L2N.takes_of rfl rfl rfl rfl) fun _ _ _ _ h => h) (sa_cons (se_var (pv 0)) sa_nil)))) (ss_cons (ss_expr (se_call hK hcv hE (pe_call (ok_need_samples T) (hr.mono (by decide)) rfl T.m_need_samples T.f_need_samples.kp T.b_need_samples .nil (L2N.passes_call (L2N.takes_of rfl rfl rfl rfl) fun _ _ _ _ h => h) (sa_cons (se_var (pv 1)) sa_nil)))) (ss_one (ss_ret (se_call hK hcv hE (pe_call (ok_heard_of T) (hr.mono (by decide)) rfl T.m_heard_of T.f_heard_of.kp T.b_heard_of .nil (L2N.passes_call (L2N.takes_of rfl rfl rfl rfl) fun _ _ _ _ h => h) (sa_cons (se_var (pv 0)) (sa_cons (se_var (pv 1)) sa_nil)))))))))

theorem ok__law_due (T : Tx K mg) : FnOk P w K mg base (L2N.CX P w) 1 T.a__law_due T.d__law_due ["text"] (SpF K T.cv 1 F__law_due) :=
  fn_sim (N := n__law_due) (g := g__law_due) (sc := c__law_due) T.f__law_due rfl sc__law_due (fun cdv A outer s H E B hK hcv hE hr => (ss_cons (ss_asgN (ps_set (i := 1) sc__law_due.nd rfl (Or.inl rfl) (sn_lst sr_nil))) (ss_cons (ss_asgLcD (ps_lcN (is := [6]) (by decide) (ps_setLc (i := 2) (own := [("number", 6)]) rfl sc__law_due.nd rfl rfl (sw_true rfl rfl rfl (by decide +kernel)) (si_range1 rfl T.n_range (sr_cons se_int sr_nil)) (blkOk_by (own := [("number", 6)]) (N := n__law_due) (sc := c__law_due) (by decide +kernel)) (fun _ _ _ _ _ => (sg_name (pg_name (i := 6) sc__law_due.nd rfl (Or.inl rfl)))) (fun _ _ _ _ _ => sts_nil) (fun _ _ _ _ _ => (se_callTy calld_str (by rfl) T.n_str (by decide +kernel) (sbs_cons (sb_of (se_var (pv 6))) sbs_nil)))))) (ss_cons (ss_for (is := [3]) (passes_of rfl) rfl (si_seq hK (se_if (st_cmp (opd_ne hK hr.units) (sb_of (se_var (pv 0))) (sb_of se_str) (nomark _)) (se_meth ty_str (pe_bm PySem.F.plainAttrs_str PySem.F.slot_str_split PySem.F.type_str_split mtd_split (sb_of (se_var (pv 0))) (sbs_cons (sb_of se_str) sbs_nil))) (se_lst sr_nil))) (sg_name (pg_name (i := 3) sc__law_due.nd rfl (Or.inl rfl))) (ss_cons (ss_asg (ps_set (i := 4) sc__law_due.nd rfl (Or.inl rfl) (se_meth ty_str (pe_bm PySem.F.plainAttrs_str PySem.F.slot_str_split PySem.F.type_str_split mtd_split (sb_of (se_var (pv 3))) (sbs_cons (sb_of se_str) sbs_nil))))) (ss_cons (ss_if (st_of (sw_or (st_cmp (opd_ne hK hr.units) (sb_of (se_callB (calld_len hK) (by rfl) T.n_len (by decide +kernel) (sbs_cons (sb_of (se_var (pv 4))) sbs_nil))) (sb_of se_int) (nomark _)) (sw_or (st_cmp (opd_notIn hK hr.units) (sb_of (se_ix hK (sb_of (se_var (pv 4))) (sb_of se_int) (fun _ _ => rfl))) (sb_of (se_var (pv 2))) rfl) (sw_or1 (st_cmp (opd_notIn hK hr.units) (sb_of (se_ix hK (sb_of (se_var (pv 4))) (sb_of se_int) (fun _ _ => rfl))) (sb_of (se_op (opd_add hK) (sb_of (se_slice hK (sb_of (se_var (pv 2))) so_none (so_some se_int))) (sb_of (se_lst (sr_cons se_str sr_nil))))) rfl))))) (ss_one (ss_ret se_non)) ss_nil) (ss_one (ss_app (ps_expr (pe_bm PySem.F.plainAttrs_list PySem.F.slot_list_append PySem.F.type_list_append mt_append (pv 1) (pa_cons (se_tup (sr_cons (se_callTy calld_int (by rfl) T.n_int (by decide +kernel) (sbs_cons (sb_of (se_ix hK (sb_of (se_var (pv 4))) (sb_of se_int) (fun _ _ => rfl))) sbs_nil)) (sr_cons (se_if (st_cmp (opd_eq hK hr.units) (sb_of (se_ix hK (sb_of (se_var (pv 4))) (sb_of se_int) (fun _ _ => rfl))) (sb_of se_str) (nomark _)) se_non (se_callTy calld_int (by rfl) T.n_int (by decide +kernel) (sbs_cons (sb_of (se_ix hK (sb_of (se_var (pv 4))) (sb_of se_int) (fun _ _ => rfl))) sbs_nil))) sr_nil))) pa_nil)))))))) (ss_freeze (i := 1) (ss_cons (ss_asgLcD (ps_lcN (is := [7]) (by decide) (ps_setLc (i := 5) (own := [("row", 7)]) rfl sc__law_due.nd rfl rfl (sw_true rfl rfl rfl (by decide +kernel)) (si_seq hK (se_var (pv 1))) (blkOk_by (own := [("row", 7)]) (N := n__law_due) (sc := c__law_due) (by decide +kernel)) (fun _ _ _ _ _ => (sg_name (pg_name (i := 7) sc__law_due.nd rfl (Or.inl rfl)))) (fun _ _ _ _ _ => sts_nil) (fun _ _ _ _ _ => (se_ix hK (sb_of (se_var (pv 7))) (sb_of se_int) (fun _ _ => rfl)))))) (ss_freeze (i := 1) (ss_one (ss_ret (se_if (st_cmp (opd_eq hK hr.units) (sb_of (se_var (pv 5))) (sb_of (se_sortSet hK rfl (by rfl) T.n_sorted (by rfl) T.n_set (se_var (pv 5)))) (nomark _)) (se_var (pv 1)) se_non))))))))))

theorem ok_number_of (T : Tx K mg) : FnOk P w K mg base (L2N.CX P w) 1 T.a_number_of T.d_number_of ["word", "most"] (SpF K T.cv 2 F_number_of) :=
  fn_sim (N := n_number_of) (g := g_number_of) (sc := c_number_of) T.f_number_of rfl sc_number_of (fun cdv A outer s H E B hK hcv hE hr => (ss_cons (ss_if (st_of (sw_or (st_not (st_chain (opd_le hK hr.units) (opd_le hK hr.units) (sb_of se_int) (sb_of (se_callB (calld_len hK) (by rfl) T.n_len (by decide +kernel) (sbs_cons (sb_of (se_var (pv 0))) sbs_nil))) (sb_of se_int))) (sw_or (st_cmp (opd_ne hK hr.units) (sb_of (se_meth ty_str (pe_bm PySem.F.plainAttrs_str PySem.F.slot_str_strip PySem.F.type_str_strip mtd_strip (sb_of (se_var (pv 0))) (sbs_cons (sb_of (se_c (v := .str "0123456789") (pe_glob (by rfl) T.m_FIGURES.choose_spec ⟨_, rfl⟩) fun _ _ => .str _)) sbs_nil)))) (sb_of se_str) (nomark _)) (sw_or (st_of (sw_and (st_cmp (opd_gt hK hr.units) (sb_of (se_callB (calld_len hK) (by rfl) T.n_len (by decide +kernel) (sbs_cons (sb_of (se_var (pv 0))) sbs_nil))) (sb_of se_int) (nomark _)) (sw_and1 (st_cmp (opd_eq hK hr.units) (sb_of (se_ix hK (sb_of (se_var (pv 0))) (sb_of se_int) (fun _ _ => rfl))) (sb_of se_str) (nomark _))))) (sw_or1 (st_cmp (opd_gt hK hr.units) (sb_of (se_callTy calld_int (by rfl) T.n_int (by decide +kernel) (sbs_cons (sb_of (se_var (pv 0))) sbs_nil))) (sb_of (se_var (pv 1))) (nomark _))))))) (ss_one (ss_raiseC (C := T.c_NoText) (by rw [hcv]; rfl) rfl hE (L2N.takes_of rfl rfl rfl rfl) T.x_NoText T.g_NoText T.k_NoText T.s_NoText T.t_NoText (by rfl))) ss_nil) (ss_one (ss_ret (se_callTy calld_int (by rfl) T.n_int (by decide +kernel) (sbs_cons (sb_of (se_var (pv 0))) sbs_nil))))))

theorem ok_read_row (T : Tx K mg) : FnOk P w K mg base (L2N.CX P w) 2 T.a_read_row T.d_read_row ["line"] (SpF K T.cv 1 F_read_row) :=
  fn_sim (N := n_read_row) (g := g_read_row) (sc := c_read_row) T.f_read_row rfl sc_read_row (fun cdv A outer s H E B hK hcv hE hr => (ss_cons (ss_asg (ps_set (i := 1) sc_read_row.nd rfl (Or.inl rfl) (se_meth ty_str (pe_bm PySem.F.plainAttrs_str PySem.F.slot_str_split PySem.F.type_str_split mtd_split (sb_of (se_var (pv 0))) (sbs_cons (sb_of se_str) sbs_nil))))) (ss_cons (ss_if (st_cmp (opd_ne hK hr.units) (sb_of (se_callB (calld_len hK) (by rfl) T.n_len (by decide +kernel) (sbs_cons (sb_of (se_var (pv 1))) sbs_nil))) (sb_of se_int) (nomark _)) (ss_one (ss_raiseC (C := T.c_NoText) (by rw [hcv]; rfl) rfl hE (L2N.takes_of rfl rfl rfl rfl) T.x_NoText T.g_NoText T.k_NoText T.s_NoText T.t_NoText (by rfl))) ss_nil) (ss_one (ss_ret (se_tup (sr_cons (se_call hK hcv hE (pe_call (ok_number_of T) (hr.mono (by decide)) rfl T.m_number_of T.f_number_of.kp T.b_number_of .nil (L2N.passes_call (L2N.takes_of rfl rfl rfl rfl) fun _ _ _ _ h => h) (sa_cons (se_ix hK (sb_of (se_var (pv 1))) (sb_of se_int) (fun _ _ => rfl)) (sa_cons (se_op opd_sub (sb_of (se_c (v := .int 200) (pe_glob (by rfl) T.m_LONG.choose_spec ⟨_, rfl⟩) fun _ _ => .int _)) (sb_of se_int)) sa_nil)))) (sr_cons (se_if (st_cmp (opd_eq hK hr.units) (sb_of (se_ix hK (sb_of (se_var (pv 1))) (sb_of se_int) (fun _ _ => rfl))) (sb_of se_str) (nomark _)) se_non (se_call hK hcv hE (pe_call (ok_number_of T) (hr.mono (by decide)) rfl T.m_number_of T.f_number_of.kp T.b_number_of .nil (L2N.passes_call (L2N.takes_of rfl rfl rfl rfl) fun _ _ _ _ h => h) (sa_cons (se_ix hK (sb_of (se_var (pv 1))) (sb_of se_int) (fun _ _ => rfl)) (sa_cons se_int sa_nil))))) sr_nil))))))))

theorem ok_read_heard (T : Tx K mg) : FnOk P w K mg base (L2N.CX P w) 3 T.a_read_heard T.d_read_heard ["text"] (SpF K T.cv 1 F_read_heard) :=
  fn_sim (N := n_read_heard) (g := g_read_heard) (sc := c_read_heard) T.f_read_heard rfl sc_read_heard (fun cdv A outer s H E B hK hcv hE hr => (ss_cons (ss_if (st_not (st_val (se_isi hK isi_str rfl T.n_isinstance rfl T.n_str (by decide +kernel) (sb_of (se_var (pv 0)))))) (ss_one (ss_raiseC (C := T.c_NoText) (by rw [hcv]; rfl) rfl hE (L2N.takes_of rfl rfl rfl rfl) T.x_NoText T.g_NoText T.k_NoText T.s_NoText T.t_NoText (by rfl))) ss_nil) (ss_cons (ss_asg (ps_set (i := 1) sc_read_heard.nd rfl (Or.inl rfl) (se_if (st_cmp (opd_ne hK hr.units) (sb_of (se_var (pv 0))) (sb_of se_str) (nomark _)) (se_of_sn (sn_lcX (own := [("line", 2)]) (is := [2]) rfl sc_read_heard.nd rfl rfl (L2N.takes_of rfl rfl rfl rfl) (si_seq hK (se_meth ty_str (pe_bm PySem.F.plainAttrs_str PySem.F.slot_str_split PySem.F.type_str_split mtd_split (sb_of (se_var (pv 0))) (sbs_cons (sb_of se_str) sbs_nil)))) (blkOk_by (own := [("line", 2)]) (N := n_read_heard) (sc := c_read_heard) (by decide +kernel)) (fun _ _ _ _ _ _ => (sg_name (pg_name (i := 2) sc_read_heard.nd rfl (Or.inl rfl)))) (fun _ _ _ _ _ _ ps => (se_call hK hcv hE (pe_call (ok_read_row T) (hr.mono (by decide)) rfl T.m_read_row T.f_read_row.kp T.b_read_row .nil ps (sa_cons (se_var (pv 2)) sa_nil)))) (by decide))) (se_lst sr_nil)))) (ss_cons (ss_if (st_not (st_val (se_callB (calld_all rfl) (by rfl) T.n_all (by decide +kernel) (sbs_cons (sb_of (se_of_sn (sn_lc (own := [("one", 3), ("other", 4)]) (is := [3, 4]) rfl sc_read_heard.nd (si_zip hK rfl T.n_zip (sr_cons (se_var (pv 1)) (sr_cons (se_slice hK (sb_of (se_var (pv 1))) (so_some se_int) so_none) sr_nil))) (blkOk_by (own := [("one", 3), ("other", 4)]) (N := n_read_heard) (sc := c_read_heard) (by decide +kernel)) (fun _ _ _ _ _ => (sgz_tup (is := [3, 4]) hK (pg_tup rfl (pgs_cons (pg_name (i := 3) sc_read_heard.nd rfl (Or.inl rfl)) (pgs_cons (pg_name (i := 4) sc_read_heard.nd rfl (Or.inl rfl)) pgs_nil))))) (fun _ _ _ _ _ => sts_nil) (fun _ _ _ _ _ => (se_cmp (opd_lt hK hr.units) (sb_of (se_ix hK (sb_of (se_var (pv 3))) (sb_of se_int) (fun _ _ => rfl))) (sb_of (se_ix hK (sb_of (se_var (pv 4))) (sb_of se_int) (fun _ _ => rfl))) (nomark _))) (by decide)))) sbs_nil)))) (ss_one (ss_raiseC (C := T.c_NoText) (by rw [hcv]; rfl) rfl hE (L2N.takes_of rfl rfl rfl rfl) T.x_NoText T.g_NoText T.k_NoText T.s_NoText T.t_NoText (by rfl))) ss_nil) (ss_one (ss_ret (se_var (pv 1))))))))

theorem ok__law_which (T : Tx K mg) : FnW P w K mg base 1 T.a__law_which T.d__law_which ["e"] (spW K T.cv 2 g__law_which) :=
  fnw_sim (N := n__law_which) (g := g__law_which) (sc := c__law_which) T.f__law_which rfl sc__law_which (fun cdv A outer s H E p c B hc hz hd hK hcv hE hr => (ss_cons (ss_asgN (ps_set (i := 1) sc__law_which.nd rfl (Or.inl rfl) (sn_lst (sr_cons (se_isX (cv := .ref T.c_NoForm) (call_isX (T.et.ec c hc) (List.mem_singleton.mpr rfl) (L2N.Zn.zc hz) hd) (pv 0) (pe_glob (v := .ref T.c_NoForm) (by rfl) T.g_NoForm rfl) (fun _ h => h) (T.et.kit c 0 hc (by decide)) rfl T.n_isinstance) (sr_cons (se_isX (cv := .ref T.c_NoSamples) (call_isX (T.et.ec c hc) (List.mem_singleton.mpr rfl) (L2N.Zn.zc hz) hd) (pv 0) (pe_glob (v := .ref T.c_NoSamples) (by rfl) T.g_NoSamples rfl) (fun _ h => h) (T.et.kit c 1 hc (by decide)) rfl T.n_isinstance) (sr_cons (se_isX (cv := .ref T.c_NoRows) (call_isX (T.et.ec c hc) (List.mem_singleton.mpr rfl) (L2N.Zn.zc hz) hd) (pv 0) (pe_glob (v := .ref T.c_NoRows) (by rfl) T.g_NoRows rfl) (fun _ h => h) (T.et.kit c 2 hc (by decide)) rfl T.n_isinstance) (sr_cons (se_isX (cv := .ref T.c_NoWords) (call_isX (T.et.ec c hc) (List.mem_singleton.mpr rfl) (L2N.Zn.zc hz) hd) (pv 0) (pe_glob (v := .ref T.c_NoWords) (by rfl) T.g_NoWords rfl) (fun _ h => h) (T.et.kit c 3 hc (by decide)) rfl T.n_isinstance) sr_nil))))))) (ss_cons (ss_ext (ps_expr (pe_bm PySem.F.plainAttrs_list PySem.F.slot_list_extend PySem.F.type_list_extend mt_extendR (pv 1) (pa_cons (sb_of (se_lst (sr_cons (se_isX (cv := .ref T.c_NoRest) (call_isX (T.et.ec c hc) (List.mem_singleton.mpr rfl) (L2N.Zn.zc hz) hd) (pv 0) (pe_glob (v := .ref T.c_NoRest) (by rfl) T.g_NoRest rfl) (fun _ h => h) (T.et.kit c 4 hc (by decide)) rfl T.n_isinstance) (sr_cons (se_isX (cv := .ref T.c_TooLong) (call_isX (T.et.ec c hc) (List.mem_singleton.mpr rfl) (L2N.Zn.zc hz) hd) (pv 0) (pe_glob (v := .ref T.c_TooLong) (by rfl) T.g_TooLong rfl) (fun _ h => h) (T.et.kit c 5 hc (by decide)) rfl T.n_isinstance) (sr_cons (se_isX (cv := .ref T.c_NoLayer) (call_isX (T.et.ec c hc) (List.mem_singleton.mpr rfl) (L2N.Zn.zc hz) hd) (pv 0) (pe_glob (v := .ref T.c_NoLayer) (by rfl) T.g_NoLayer rfl) (fun _ h => h) (T.et.kit c 6 hc (by decide)) rfl T.n_isinstance) (sr_cons (se_isX (cv := .ref T.c_NoText) (call_isX (T.et.ec c hc) (List.mem_singleton.mpr rfl) (L2N.Zn.zc hz) hd) (pv 0) (pe_glob (v := .ref T.c_NoText) (by rfl) T.g_NoText rfl) (fun _ h => h) (T.et.kit c 7 hc (by decide)) rfl T.n_isinstance) sr_nil)))))) pa_nil)))) (ss_cons (ss_ext (ps_expr (pe_bm PySem.F.plainAttrs_list PySem.F.slot_list_extend PySem.F.type_list_extend mt_extendR (pv 1) (pa_cons (sb_of (se_lst (sr_cons (se_isX (cv := .ref T.c_Nothing) (call_isX (T.et.ec c hc) (List.mem_singleton.mpr rfl) (L2N.Zn.zc hz) hd) (pv 0) (pe_glob (v := .ref T.c_Nothing) (by rfl) T.g_Nothing rfl) (fun _ h => h) (T.et.kit c 8 hc (by decide)) rfl T.n_isinstance) (sr_cons (se_isX (cv := .ref T.c_NoPackets) (call_isX (T.et.ec c hc) (List.mem_singleton.mpr rfl) (L2N.Zn.zc hz) hd) (pv 0) (pe_glob (v := .ref T.c_NoPackets) (by rfl) T.g_NoPackets rfl) (fun _ h => h) (T.et.kit c 9 hc (by decide)) rfl T.n_isinstance) (sr_cons (se_isX (cv := .ref T.c_NoRuns) (call_isX (T.et.ec c hc) (List.mem_singleton.mpr rfl) (L2N.Zn.zc hz) hd) (pv 0) (pe_glob (v := .ref T.c_NoRuns) (by rfl) T.g_NoRuns rfl) (fun _ h => h) (T.et.kit c 10 hc (by decide)) rfl T.n_isinstance) (sr_cons (se_isX (cv := .ref T.c_NoNumber) (call_isX (T.et.ec c hc) (List.mem_singleton.mpr rfl) (L2N.Zn.zc hz) hd) (pv 0) (pe_glob (v := .ref T.c_NoNumber) (by rfl) T.g_NoNumber rfl) (fun _ h => h) (T.et.kit c 11 hc (by decide)) rfl T.n_isinstance) sr_nil)))))) pa_nil)))) (ss_cons (ss_if (st_of (sw_or (st_cmp (opd_ne hK hr.units) (sb_of (se_meth ty_list (pe_bm PySem.F.plainAttrs_list PySem.F.slot_list_count PySem.F.type_list_count (mtd_count hK hr.units) (sb_var (pv 1)) (sbs_cons (sb_of se_bl) sbs_nil)))) (sb_of se_int) (nomark _)) (sw_or1 (st_not (st_val (se_isX (cv := .type "ValueError") (call_isX (T.et.ec c hc) (List.mem_singleton.mpr rfl) (L2N.Zn.zc hz) hd) (pv 0) (pe_bltn (v := .ty "ValueError") (by rfl) T.n_ValueError (by decide +kernel) rfl) (fun _ h => h) (T.et.ve c hc) rfl T.n_isinstance)))))) (ss_one (ss_ret (se_tup (sr_cons se_str (sr_cons (se_neg se_int) sr_nil))))) ss_nil) (ss_one (ss_ret (se_tup (sr_cons se_str (sr_cons (se_meth ty_list (pe_bm PySem.F.plainAttrs_list PySem.F.slot_list_index PySem.F.type_list_index (mtd_index hK hr.units) (sb_var (pv 1)) (sbs_cons (sb_of se_bl) sbs_nil))) sr_nil))))))))))

theorem ok__law_ask (T : Tx K mg) : FnOk P w K mg base (L2N.CX P w) 4 T.a__law_ask T.d__law_ask ["thing"] (SpF K T.cv 1 F__law_ask) :=
  fn_simT (N := n__law_ask) (g := g__law_ask) (sc := c__law_ask) T.f__law_ask rfl sc__law_ask (fun cdv A outer s H E B hK hcv hE hO hT hr => (ss_one (ss_try (i := 1) (N := 2) (gw := g__law_which) rfl rfl sc__law_ask.nd rfl rfl ⟨by rfl, by decide, Or.inl T.g_WireError⟩ (L2N.takes_of rfl rfl rfl rfl) hO hT hK hcv T.et.ex (ok__law_which T) which_eq (hr.mono (by decide)) (by rfl) T.m__law_which T.f__law_which.kp T.b__law_which (fun _ _ => pv 1) (fun W pn xe B hK hcv hE tk po => (ss_one (ss_ret (se_call hK hcv hE (pe_call (ok_read_heard T) (hr.mono (by decide)) rfl T.m_read_heard T.f_read_heard.kp T.b_read_heard .nil (L2N.passes_call tk fun _ _ σ _ h => h σ) (sa_cons (se_var (pv 0)) sa_nil)))))))))

theorem ok_line_of (T : Tx K mg) : FnOk P w K mg base (L2N.CX P w) 1 T.a_line_of T.d_line_of ["row"] (SpF K T.cv 1 F_line_of) :=
  fn_sim (N := n_line_of) (g := g_line_of) (sc := c_line_of) T.f_line_of rfl sc_line_of (fun cdv A outer s H E B hK hcv hE hr => (ss_one (ss_ret (se_op (opd_add hK) (sb_of (se_op (opd_add hK) (sb_of (se_callTy calld_str (by rfl) T.n_str (by decide +kernel) (sbs_cons (sb_of (se_ix hK (sb_of (se_var (pv 0))) (sb_of se_int) (fun _ _ => rfl))) sbs_nil))) (sb_of se_str))) (sb_of (se_if (st_notN (se_ix hK (sb_of (se_var (pv 0))) (sb_of se_int) (fun _ _ => rfl))) (se_callTy calld_str (by rfl) T.n_str (by decide +kernel) (sbs_cons (sb_of (se_ix hK (sb_of (se_var (pv 0))) (sb_of se_int) (fun _ _ => rfl))) sbs_nil)) se_str))))))

theorem ok_heard_text (T : Tx K mg) : FnOk P w K mg base (L2N.CX P w) 8 T.a_heard_text T.d_heard_text ["form", "samples"] (SpF K T.cv 2 F_heard_text) :=
  fn_sim (N := n_heard_text) (g := g_heard_text) (sc := c_heard_text) T.f_heard_text rfl sc_heard_text (fun cdv A outer s H E B hK hcv hE hr => (ss_one (ss_ret (se_meth ty_str (pe_bm PySem.F.plainAttrs_str PySem.F.slot_str_join PySem.F.type_str_join mtd_join (sb_of se_str) (sbs_cons (sb_of (se_of_sn (sn_lc (own := [("row", 2)]) (is := [2]) rfl sc_heard_text.nd (si_seq hK (se_call hK hcv hE (pe_call (ok_heard T) (hr.mono (by decide)) rfl T.m_heard T.f_heard.kp T.b_heard .nil (L2N.passes_call (L2N.takes_of rfl rfl rfl rfl) fun _ _ _ _ h => h) (sa_cons (se_var (pv 0)) (sa_cons (se_var (pv 1)) sa_nil))))) (blkOk_by (own := [("row", 2)]) (N := n_heard_text) (sc := c_heard_text) (by decide +kernel)) (fun _ _ _ _ _ => (sg_name (pg_name (i := 2) sc_heard_text.nd rfl (Or.inl rfl)))) (fun _ _ _ _ _ => sts_nil) (fun _ _ _ _ _ => (se_call hK hcv rfl (pe_call (ok_line_of T) (hr.mono (by decide)) rfl T.m_line_of T.f_line_of.kp T.b_line_of .nil passN (sa_cons (se_var (pv 2)) sa_nil)))) (by decide)))) sbs_nil))))))

theorem ok_law (T : Tx K mg) (hlaw : ∀ ns : List Int, ns.length ≤ 63 → ∃ n, lawR 15 g_law ns = .ok (.bool true) n) : FnOk P w K mg base (L2N.CX P w) 9 T.a_law T.d_law ["script"] (spLaw K) :=
  law_sim (N := n_law) (sc := c_law) (cv := T.cv) T.f_law rfl sc_law (by decide) rfl (fun cdv A outer s H E => ps_set (i := 1) sc_law.nd rfl (Or.inl rfl) (pe_lst pa_nil))
    (fun cdv A outer s H E B hK hcv hE hr => (ss_cons (ss_asg (ps_set (i := 2) sc_law.nd rfl (Or.inl rfl) (se_call hK hcv hE (pe_call (ok__law_draw T) (hr.mono (by decide)) rfl T.m__law_draw T.f__law_draw.kp T.b__law_draw .nil (L2N.passes_call (L2N.takes_of rfl rfl rfl rfl) fun _ _ _ _ h => h) (sa_scr (pv 0) (sa_town (pv 1) (sa_cons se_int sa_nil))))))) (ss_cons (ss_asg (ps_set (i := 3) sc_law.nd rfl (Or.inl rfl) (se_call hK hcv hE (pe_call (ok__law_form T) (hr.mono (by decide)) rfl T.m__law_form T.f__law_form.kp T.b__law_form .nil (L2N.passes_call (L2N.takes_of rfl rfl rfl rfl) fun _ _ _ _ h => h) (sa_scr (pv 0) (sa_town (pv 1) sa_nil)))))) (ss_cons (ss_asg (ps_set (i := 4) sc_law.nd rfl (Or.inl rfl) (se_call hK hcv hE (pe_call (ok__law_noisy T) (hr.mono (by decide)) rfl T.m__law_noisy T.f__law_noisy.kp T.b__law_noisy .nil (L2N.passes_call (L2N.takes_of rfl rfl rfl rfl) fun _ _ _ _ h => h) (sa_scr (pv 0) (sa_town (pv 1) (sa_cons (se_var (pv 3)) sa_nil))))))) (ss_cons (ss_asg (ps_set (i := 5) sc_law.nd rfl (Or.inl rfl) (se_call hK hcv hE (pe_call (ok_heard T) (hr.mono (by decide)) rfl T.m_heard T.f_heard.kp T.b_heard .nil (L2N.passes_call (L2N.takes_of rfl rfl rfl rfl) fun _ _ _ _ h => h) (sa_cons (se_var (pv 3)) (sa_cons (se_var (pv 4)) sa_nil)))))) (ss_cons (ss_asgLcD (ps_lcN (is := [13, 14]) (by decide) (ps_setLc (i := 6) (own := [("tick", 13), ("word", 14)]) rfl sc_law.nd rfl rfl (sw_true rfl rfl rfl (by decide +kernel)) (si_seq hK (se_var (pv 5))) (blkOk_by (own := [("tick", 13), ("word", 14)]) (N := n_law) (sc := c_law) (by decide +kernel)) (fun _ _ _ _ _ => (sg_of (sgb_tup (is := [13, 14]) hK (pg_tup rfl (pgs_cons (pg_name (i := 13) sc_law.nd rfl (Or.inl rfl)) (pgs_cons (pg_name (i := 14) sc_law.nd rfl (Or.inl rfl)) pgs_nil))) (pg_lst rfl (pgs_cons (pg_name (i := 13) sc_law.nd rfl (Or.inl rfl)) (pgs_cons (pg_name (i := 14) sc_law.nd rfl (Or.inl rfl)) pgs_nil)))))) (fun _ _ _ _ _ => sts_nil) (fun _ _ _ _ _ => (se_op (opd_add hK) (sb_of (se_op (opd_add hK) (sb_of (se_callTy calld_str (by rfl) T.n_str (by decide +kernel) (sbs_cons (sb_of (se_var (pv 13))) sbs_nil))) (sb_of se_str))) (sb_of (se_if (st_isN (se_var (pv 14))) se_str (se_callTy calld_str (by rfl) T.n_str (by decide +kernel) (sbs_cons (sb_of (se_var (pv 14))) sbs_nil))))))))) (ss_cons (ss_asg (ps_set (i := 7) sc_law.nd rfl (Or.inl rfl) (se_meth ty_str (pe_bm PySem.F.plainAttrs_str PySem.F.slot_str_join PySem.F.type_str_join mtd_join (sb_of se_str) (sbs_cons (sb_of (se_var (pv 6))) sbs_nil))))) (ss_cons (ss_if (st_of (sw_or (st_cmp (opd_ne hK hr.units) (sb_of (se_call hK hcv hE (pe_call (ok_heard_text T) (hr.mono (by decide)) rfl T.m_heard_text T.f_heard_text.kp T.b_heard_text .nil (L2N.passes_call (L2N.takes_of rfl rfl rfl rfl) fun _ _ _ _ h => h) (sa_cons (se_var (pv 3)) (sa_cons (se_var (pv 4)) sa_nil))))) (sb_of (se_var (pv 7))) (nomark _)) (sw_or1 (st_cmp (opd_ne hK hr.units) (sb_of (se_call hK hcv hE (pe_call (ok_read_heard T) (hr.mono (by decide)) rfl T.m_read_heard T.f_read_heard.kp T.b_read_heard .nil (L2N.passes_call (L2N.takes_of rfl rfl rfl rfl) fun _ _ _ _ h => h) (sa_cons (se_var (pv 7)) sa_nil)))) (sb_of (se_var (pv 5))) (nomark _))))) (ss_one (ss_ret se_bl)) ss_nil) (ss_cons (ss_for (is := [8]) (passes_of rfl) rfl (si_range1 rfl T.n_range (sr_cons (se_var (pv 2)) sr_nil)) (sg_name (pg_name (i := 8) sc_law.nd rfl (Or.inl rfl))) (ss_cons (ss_asg (ps_set (i := 9) sc_law.nd rfl (Or.inl rfl) (se_call hK hcv hE (pe_call (ok__law_draw T) (hr.mono (by decide)) rfl T.m__law_draw T.f__law_draw.kp T.b__law_draw .nil (L2N.passes_call (L2N.takes_of rfl rfl rfl rfl) fun _ _ _ _ h => h) (sa_scr (pv 0) (sa_town (pv 1) (sa_cons (se_op (opd_add hK) (sb_of (se_callB (calld_len hK) (by rfl) T.n_len (by decide +kernel) (sbs_cons (sb_of (se_var (pv 7))) sbs_nil))) (sb_of se_int)) sa_nil))))))) (ss_cons (ss_asg (ps_set (i := 10) sc_law.nd rfl (Or.inl rfl) (se_call hK hcv hE (pe_call (ok__law_pick T) (hr.mono (by decide)) rfl T.m__law_pick T.f__law_pick.kp T.b__law_pick .nil (L2N.passes_call (L2N.takes_of rfl rfl rfl rfl) fun _ _ _ _ h => h) (sa_scr (pv 0) (sa_town (pv 1) (sa_cons (se_lst (sr_cons se_str (sr_cons se_str (sr_cons se_str (sr_cons se_str (sr_cons se_str (sr_cons se_str (sr_cons se_str (sr_cons se_str (sr_cons se_str sr_nil)))))))))) sa_nil))))))) (ss_one (ss_asg (ps_set (i := 7) sc_law.nd rfl (Or.inl rfl) (se_op (opd_add hK) (sb_of (se_op (opd_add hK) (sb_of (se_slice hK (sb_of (se_var (pv 7))) so_none (so_some (se_var (pv 9))))) (sb_of (se_var (pv 10))))) (sb_of (se_slice hK (sb_of (se_var (pv 7))) (so_some (se_op (opd_add hK) (sb_of (se_var (pv 9))) (sb_of (se_call hK hcv hE (pe_call (ok__law_draw T) (hr.mono (by decide)) rfl T.m__law_draw T.f__law_draw.kp T.b__law_draw .nil (L2N.passes_call (L2N.takes_of rfl rfl rfl rfl) fun _ _ _ _ h => h) (sa_scr (pv 0) (sa_town (pv 1) (sa_cons se_int sa_nil)))))))) so_none))))))))) (ss_cons (ss_asg (ps_set (i := 11) sc_law.nd rfl (Or.inl rfl) (se_call hK hcv hE (pe_call (ok__law_due T) (hr.mono (by decide)) rfl T.m__law_due T.f__law_due.kp T.b__law_due .nil (L2N.passes_call (L2N.takes_of rfl rfl rfl rfl) fun _ _ _ _ h => h) (sa_cons (se_var (pv 7)) sa_nil))))) (ss_cons (ss_if (st_cmp (opd_ne hK hr.units) (sb_of (se_call hK hcv hE (pe_call (ok__law_ask T) (hr.mono (by decide)) rfl T.m__law_ask T.f__law_ask.kp T.b__law_ask .nil (L2N.passes_call (L2N.takes_of rfl rfl rfl rfl) fun _ _ _ _ h => h) (sa_cons (se_var (pv 7)) sa_nil)))) (sb_of (se_if (st_notN (se_var (pv 11))) (se_var (pv 11)) (se_tup (sr_cons se_str (sr_cons se_int sr_nil))))) (nomark _)) (ss_one (ss_ret se_bl)) ss_nil) (ss_cons (ss_asg (ps_set (i := 12) sc_law.nd rfl (Or.inl rfl) (se_lst (sr_cons se_non (sr_cons se_int (sr_cons se_str (sr_cons se_str (sr_cons se_str (sr_cons se_str (sr_cons se_str (sr_cons se_str (sr_cons se_str (sr_cons se_str (sr_cons se_str (sr_cons (se_tup (sr_cons se_str sr_nil)) (sr_cons se_str sr_nil)))))))))))))))) (ss_one (ss_ret (se_cmp (opd_eq hK hr.units) (sb_of (se_call hK hcv hE (pe_call (ok__law_ask T) (hr.mono (by decide)) rfl T.m__law_ask T.f__law_ask.kp T.b__law_ask .nil (L2N.passes_call (L2N.takes_of rfl rfl rfl rfl) fun _ _ _ _ h => h) (sa_cons (se_call hK hcv hE (pe_call (ok__law_pick T) (hr.mono (by decide)) rfl T.m__law_pick T.f__law_pick.kp T.b__law_pick .nil (L2N.passes_call (L2N.takes_of rfl rfl rfl rfl) fun _ _ _ _ h => h) (sa_scr (pv 0) (sa_town (pv 1) (sa_cons (se_var (pv 12)) sa_nil))))) sa_nil)))) (sb_of (se_tup (sr_cons se_str (sr_cons se_int sr_nil)))) (nomark _)))))))))))))))) hlaw

end
end Lw

namespace Lw
open PySem PySem.Spec L2 Sim
local macro_rules | `(tactic| walk_at "sem") => `(tactic| simp -implicitDefEqProofs only [thenS, thenM_n, thenM_r, thenM_b, thenM_c, nextS, retS, exprS, ifS, setS, setN, setT, parS, setAll, appS, extS, extM_l, putS, tickS, townN, townK, townA, townM_t, scrA, scrM_s, scrK, scrLen, scrIx, scrEmpty, ownM_o, freezeS, freeze_0o, freeze_0d, freeze_0n, freeze_s, raiseS_x, forS, varE, varM_d, borE, borM_d, borM_o, cE, opE, testE, boolM_b, chainE, isNE, notNE, isNoneD, andT, orT, notT, andE, orE, notE, ifE, nilE, consE, consA, tupE, lstN, listE, lcE, sliceE, someO, noneO, intM_i, revE, callB, isiE, methE, itemsE, itemsM_l, itemsM_t, rngE, callF, tabE, stopE, dict3E, negE, negD, catN, catM_ll, bndN, bndT_t, bndT_l, finM_r, finM_n, loopM_n, loopM_r, loopM_c, loopM_b, isStrD, isListD, lcXE, isTupD, intD_t, intD_f, ks_mark_mark, ks_fixed_mark, ks_length_mark, ks_mark_fixed, ks_fixed_fixed, ks_length_fixed, ks_mark_length, ks_fixed_length, ks_length_length, ks_none_none, ks_sum_none, ks_xor_none, ks_none_sum, ks_sum_sum, ks_xor_sum, kn_none_none, kn_sum_none, kn_xor_none, PyData.isInt, PyData.isBool, PyData.isStr, PyData.isList, PyData.isTuple, wipeE, sortSetE, sliceKE, isTE,
  addD_ii, subD_ii, ltD_ii, leD_ii, gtD_ii, geD_ii, eqD_ii, neD_ii, ixD_l, ixD_t, lenD_l, lenD_t, sliceD_l, sliceD_t,
  seq_r, seq_f, seq_x, Sim.seq_assoc, lift_s, eq_self, Nat.reduceEqDiff, List.getElem?_cons_succ, List.getElem?_cons_zero, List.set_cons_succ, List.set_cons_zero, List.length_cons, List.length_nil, if_true, Bool.false_eq_true, if_false, Option.map_some, Bool.not_true, Bool.not_false, atI_0, atI_1, atI_2, atI_3, atI_4, Int.cast_ofNat_Int, Int.reduceSub, Int.reduceAdd, Int.reduceEq, Int.reduceLE, Int.reduceLT, ite_big, ite_lt_big, Nat.reduceLT, Nat.reduceAdd, Nat.reduceLeDiff, Nat.zero_add, yesT, decide_true, decide_false, List.length_map, List.length_range])
/-! ### the laws' draws -/
theorem cell_eq (ns : List Int) (k : Nat) : ∃ v : Int, F__law_cell_at [.scr ns, .d (.int k)] = ret (.int v) := by
  show ∃ v : Int, seq (g__law_cell_at [some (.scr ns), some (.d (.int k))]) finM = _
  unfold g__law_cell_at
  by_cases h : k < ns.length
  · have e : decide ((k : Int) < (ns.length : Int)) = true := decide_eq_true (by omega)
    refine ⟨ns[k], ?_⟩
    walk_at "sem"
    simp only [e, if_true, atI_lt h, seq_r, lift_s, Option.map_some, thenM, finM]
  · have e : decide ((k : Int) < (ns.length : Int)) = false := decide_eq_false (by omega)
    by_cases hn : ns = []
    · have e2 : ns.isEmpty = true := by simp [hn]
      refine ⟨0, ?_⟩
      walk_at "sem"
      simp only [e, e2, seq_r, if_true, Bool.false_eq_true, if_false]
      walk_at "sem"
      simp only [e2]
      rfl
    · have e2 : ns.isEmpty = false := by cases ns <;> simp at hn ⊢
      have hp : 0 < ns.length := List.length_pos_iff.mpr hn
      have hm : k % ns.length < ns.length := Nat.mod_lt _ hp
      have e3 : ((k : Int) % (ns.length : Int)) = ((k % ns.length : Nat) : Int) := by simp
      refine ⟨ns[k % ns.length] * 31 + k, ?_⟩
      walk_at "sem"
      simp only [e, e2, seq_r, if_true, Bool.false_eq_true, if_false]
      walk_at "sem"
      simp only [e2, Bool.false_eq_true, if_false, seq_r, thenM]
      walk_at "sem"
      rw [modD_ii (j := (ns.length : Int)) (by omega)]
      simp only [lift_s, seq_r, e3, intM_i, atI_lt hm, Option.map_some]
      rw [mulD_ii (.inr (by decide))]
      rfl
theorem mixed_eq (ns : List Int) (k : Nat) (many : Int) (hm : 0 < many) : ∃ v : Int, (0 ≤ v ∧ v < many) ∧ F__law_mixed [.scr ns, .d (.int k), .d (.int many)] = ret (.int v) := by
  obtain ⟨c, hc⟩ := cell_eq ns k
  show ∃ v : Int, _ ∧ seq (g__law_mixed [some (.scr ns), some (.d (.int k)), some (.d (.int many)), none]) finM = _
  unfold g__law_mixed
  walk_at "sem"
  simp only [if_true, hc, seq_r]
  rw [mulD_ii (.inr (by decide)), mulD_ii (.inl (by decide))]
  walk_at "sem"
  rw [modD_ii (by decide)]
  walk_at "sem"
  have h1 := Int.emod_nonneg (c * 1103515245 + 7919 * (k : Int) + 12345) (show (2147483647 : Int) ≠ 0 by decide)
  have h2 := Int.emod_lt_of_pos (c * 1103515245 + 7919 * (k : Int) + 12345) (show (0 : Int) < 2147483647 by decide)
  rw [powD_ii ⟨by decide, by decide, by omega⟩]
  walk_at "sem"
  rw [modD_ii (by decide)]
  walk_at "sem"
  rw [modD_ii (by decide)]
  walk_at "sem"
  rw [modD_ii hm]
  exact ⟨_, ⟨Int.emod_nonneg _ (by omega), Int.emod_lt_of_pos _ hm⟩, rfl⟩
theorem draw_ok (ns : List Int) (many : Int) (hm : 0 < many) : Ok 1 (F__law_draw [.scr ns, .town, .d (.int many)]) fun d => ∃ v : Int, d = .int v ∧ 0 ≤ v ∧ v < many := by
  intro n hn
  obtain ⟨v, hv, e⟩ := mixed_eq ns (n.n + 1) many hm
  refine ⟨.int v, { n with n := n.n + 1 }, ?_, ⟨Nat.le_refl _, rfl⟩, v, rfl, hv.1, hv.2⟩
  show seq (g__law_draw [some (.scr ns), some .town, some (.d (.int many))]) finM n = _
  unfold g__law_draw
  simp only [thenS, tickS, List.getElem?_cons_succ, List.getElem?_cons_zero, townK, tickM, seq, if_pos (show n.n < big by omega), thenM, retS, callF, scrA, scrM, consA, townN, varE, varM, Sim.ret, nilE, List.length_cons, List.length_nil, if_true]
  rw [e]
  rfl
theorem pick_ok (ns : List Int) (xs : List D) (h0 : xs ≠ []) : Ok 1 (F__law_pick [.scr ns, .town, .d (.list xs)]) fun d => d ∈ xs := by
  show Ok 1 (seq (g__law_pick [some (.scr ns), some .town, some (.d (.list xs))]) finM) _
  unfold g__law_pick
  walk_at "sem"

  refine Ok.step (draw_ok ns xs.length (by have := List.length_pos_iff.mpr h0; omega)) (Nat.le_refl _) fun d hd => ?_
  obtain ⟨v, rfl, v0, v1⟩ := hd
  rw [ixD_l, atI_int v0 v1]
  exact Ok.ret (List.getElem_mem _)

/-! ### try -/
theorem try_x {g : Sim.Env → M Fl} {env : Sim.Env} {c : Nat} (h : g env = raiseM c) (hc : c < 12) : tryS g env = Sim.ret (.ret (refused c)) := by
  funext n
  unfold tryS
  rw [h]
  show (if c < 12 then R.ok (Fl.ret (refused c)) n else .bad) = .ok (.ret (refused c)) n
  rw [if_pos hc]
theorem try_r {g : Sim.Env → M Fl} {env : Sim.Env} {f : Fl} (h : g env = Sim.ret f) : tryS g env = Sim.ret f := by
  funext n
  unfold tryS
  rw [h]; rfl

theorem pl_ref (c : Nat) : Pl 1 (refused c) := pl_tuple fun x hx => by
  simp only [List.mem_cons, List.not_mem_nil, or_false] at hx
  rcases hx with rfl | rfl
  · exact pl_str _ _
  · exact pl_int _ _
theorem flat_rep {α : Type} (k : Nat) (a : α) : (List.replicate k [a]).flatten = List.replicate k a := by
  induction k with
  | zero => rfl
  | succ k ih => rw [List.replicate_succ, List.flatten_cons, ih]; rfl
theorem pl_refs (k c : Nat) : Pl 2 (.list (List.replicate k (refused c))) := pl_list fun x hx => by
  rw [(List.mem_replicate.mp hx).2]; exact pl_ref c
theorem ne_refs (k c : Nat) (hk : k ≤ 1000) : (seq (lift (mulD (.list [.tuple [.str "refused", .int c]]) (.int k))) fun a => lift (neD (.list (List.replicate k (refused c))) a)) = Sim.ret (.bool false) := by
  rw [mulD_li ⟨by omega, by simp⟩, Int.toNat_natCast, flat_rep, lift_s, seq_r]
  rw [show neD (.list (List.replicate k (refused c))) (.list (List.replicate k (.tuple [.str "refused", .int c]))) = _ from neD_refl (pl_refs k c) (by decide)]
  rfl
theorem mul_refs (k c : Nat) (hk : k ≤ 1000) : mulD (.list [.tuple [.str "refused", .int c]]) (.int k) = some (.list (List.replicate k (refused c))) := by
  rw [mulD_li ⟨by omega, by simp⟩, Int.toNat_natCast, flat_rep]; rfl
theorem ne_ref (c : Nat) : neD (refused c) (.tuple [.str "refused", .int c]) = some (.bool false) := neD_refl (pl_ref c) (by decide)
theorem eq_ref (c : Nat) : eqD (refused c) (.tuple [.str "refused", .int c]) = some (.bool true) := eqD_refl (pl_ref c) (by decide)
theorem ne_reps (k c : Nat) : neD (.list (List.replicate k (refused c))) (.list (List.replicate k (refused c))) = some (.bool false) := neD_refl (pl_refs k c) (by decide)
theorem eq_reps (k c : Nat) : eqD (.list (List.replicate k (refused c))) (.list (List.replicate k (refused c))) = some (.bool true) := eqD_refl (pl_refs k c) (by decide)

/-! ### forms -/
structure Fm where
  p : Nat
  b : Nat
  lo : Bool
  q : Nat
  s : Nat
structure Fm.Ok (f : Fm) : Prop where
  p1 : 1 ≤ f.p
  p2 : f.p ≤ 6
  b1 : 4 ≤ f.b
  b2 : f.b ≤ 6
  q2 : f.q ≤ 2
  s1 : 1 ≤ f.s
  s2 : f.s ≤ 2
def ordT : Bool → Str | true => "low" | false => "high"
def parT : Nat → Str | 0 => "none" | 1 => "even" | _ => "odd"
def Fm.d (f : Fm) : D := .tuple [.int f.p, .int f.b, .str (ordT f.lo), .str (parT f.q), .int f.s]
theorem ord_low (k : Bool) : eqD (.str (ordT k)) (.str "low") = some (.bool k) := by
  rw [eqD_ss]; cases k <;> rfl
theorem par_pick {q : Nat} (hq : q ≤ 2) (x y z : D) : pick3 "none" "even" "odd" x y z (.str (parT q)) = Sim.ret (if q = 0 then x else if q = 1 then y else z) := by
  match q, hq with
  | 0, _ => rfl
  | 1, _ => rfl
  | 2, _ => rfl
theorem par_none {q : Nat} (hq : q ≤ 2) : neD (.str (parT q)) (.str "none") = some (.bool (decide (q ≠ 0))) := by
  rw [neD_ss]
  match q, hq with
  | 0, _ => rfl
  | 1, _ => rfl
  | 2, _ => rfl
/-! ### frames -/
def bitsL (b w : Nat) : List Nat := (List.range b).map fun i => w / 2 ^ i % 2
def Fm.row (f : Fm) (w : Nat) : List Nat :=
  let r := if f.lo then bitsL f.b w else (bitsL f.b w).reverse
  [0] ++ r ++ (if f.q = 0 then [] else if f.q = 1 then [(bitsL f.b w).sum % 2] else [1 - (bitsL f.b w).sum % 2]) ++ List.replicate f.s 1
def Fm.fr (f : Fm) (w : Nat) : List Nat := (f.row w).flatMap fun x => List.replicate f.p (48 + x)
def intD' (n : Nat) : D := .int n
theorem rng1_nat {k : Nat} (h : k ≤ 1000000) : rng1M [.int (k : Int)] = Sim.ret ((List.range k).map intD') := by
  show (if (k : Int).natAbs ≤ big then ret (intsFrom 0 (k : Int).toNat 1) else fault) = _
  rw [if_pos (show (k : Int).natAbs ≤ big from show (k : Int).natAbs ≤ 1000000 by omega)]
  congr 1
  show (List.range (k : Int).toNat).map _ = _
  rw [Int.toNat_natCast]
  refine List.map_congr_left fun i _ => ?_
  show PyData.int (0 + (i : Int) * 1) = .int i
  congr 1; omega
theorem pow_at {c : Nat} (h : c < 6) : atI [PyData.int 1, .int 2, .int 4, .int 8, .int 16, .int 32] (c : Int) = some (.int ((2 ^ c : Nat) : Int)) := by
  rw [atI_lt (show c < [PyData.int 1, .int 2, .int 4, .int 8, .int 16, .int 32].length from h)]
  match c, h with
  | 0, _ => rfl
  | 1, _ => rfl
  | 2, _ => rfl
  | 3, _ => rfl
  | 4, _ => rfl
  | 5, _ => rfl
theorem top_at {b : Nat} (h1 : 4 ≤ b) (h2 : b ≤ 6) : atI [PyData.int 16, .int 32, .int 64] ((b : Int) - 4) = some (.int ((2 ^ b : Nat) : Int)) := by
  match b, h1, h2 with
  | 4, _, _ => rfl
  | 5, _, _ => rfl
  | 6, _, _ => rfl
theorem sumD_nat (l : List Nat) : sumD [.list (l.map intD')] = some (.int (l.sum : Nat)) := by
  have e : l.map intD' = (l.map fun (n : Nat) => (n : Int)).map PyData.int := by rw [List.map_map]; rfl
  rw [e, sumD_map]
  congr 2
  induction l with
  | nil => rfl
  | cons a l ih => simp only [List.map_cons, List.sum_cons, ih (by rw [List.map_map]; rfl)]; omega
theorem str_bit {x : Nat} (h : x ≤ 1) : strD [.int (x : Int)] = some (.str (txt [48 + x])) := by
  match x, h with
  | 0, _ => exact strD_0
  | 1, _ => exact strD_1
theorem mul_bit {c p : Nat} (h : p ≤ 1000) : mulD (.str (txt [c])) (.int (p : Int)) = some (.str (txt (List.replicate p c))) := by
  rw [mulD_txt ⟨by omega, by simp⟩, Int.toNat_natCast]
  congr 3
  clear h
  induction p with
  | zero => rfl
  | succ p ih => rw [List.replicate_succ, List.flatten_cons, ih]; rfl
theorem mul_ones {s : Nat} (h : s ≤ 1000) : mulD (.list [.int 1]) (.int (s : Int)) = some (.list ((List.replicate s 1).map intD')) := by
  rw [mulD_li ⟨by omega, by simp⟩, Int.toNat_natCast]
  congr 2
  clear h
  induction s with
  | zero => rfl
  | succ s ih => rw [List.replicate_succ, List.flatten_cons, ih]; rfl
theorem bits_len (b w : Nat) : (bitsL b w).length = b := by simp [bitsL]
theorem bits_le {b w x : Nat} (h : x ∈ bitsL b w) : x ≤ 1 := by
  simp only [bitsL, List.mem_map] at h
  obtain ⟨i, _, rfl⟩ := h
  have := Nat.mod_lt (w / 2 ^ i) (show 0 < 2 by decide); omega
theorem Fm.row_le {f : Fm} {w x : Nat} (h : x ∈ f.row w) : x ≤ 1 := by
  have h2 := Nat.mod_lt (bitsL f.b w).sum (show 0 < 2 by decide)
  simp only [Fm.row, List.mem_append, List.mem_singleton, List.mem_replicate] at h
  rcases h with ((h | h) | h) | h
  · omega
  · split at h
    · exact bits_le h
    · exact bits_le (List.mem_reverse.mp h)
  · split at h
    · cases h
    · split at h <;> simp only [List.mem_singleton] at h <;> omega
  · omega
theorem Fm.row_len (f : Fm) (w : Nat) : (f.row w).length = 1 + f.b + (if f.q = 0 then 0 else 1) + f.s := by
  have e : (if f.lo then bitsL f.b w else (bitsL f.b w).reverse).length = f.b := by split <;> simp [bits_len]
  simp only [Fm.row, List.length_append, List.length_replicate, e, List.length_singleton]
  congr 2
  split
  · rfl
  · split <;> rfl
theorem wire_join {p : Nat} (l : List Nat) (h : l.length ≤ 1000) (hp : p ≤ 1000) : joinD (.str "") [.list (l.map fun x => .str (txt (List.replicate p (48 + x))))] = some (.str (txt (l.flatMap fun x => List.replicate p (48 + x)))) := by
  have := joinD_txt (ls := l.map fun x => List.replicate p (48 + x)) (by
    rw [List.map_map]
    have : (List.map (List.length ∘ fun x => List.replicate p (48 + x)) l).sum = l.length * p := by
      clear h
      induction l with
      | nil => simp
      | cons a l ih => simp only [List.map_cons, List.sum_cons, ih, List.length_cons, Function.comp, List.length_replicate]; rw [Nat.add_mul, Nat.one_mul, Nat.add_comm]
    rw [this]
    exact Nat.le_trans (Nat.mul_le_mul h hp) (by decide))
  rw [List.map_map] at this
  exact this
/-- what the bit loop leaves -/
theorem bits_loop (x : SV) : ∀ (l : List D) (k w : Nat) (acc : List Nat) (z : Option SV), k + l.length ≤ 6 → acc.length = k → ∃ z',
    forF (bndN 3) (thenS (appS 2 (opE modD (varE 1) (cE (PyData.int 2)))) (setS 1 (opE fdivD (varE 1) (cE (PyData.int 2))))) l [some x, some (.d (.int w)), some (.own (acc.map intD')), z] =
    ret (.next [some x, some (.d (.int (w / 2 ^ l.length : Nat))), some (.own ((acc ++ bitsL l.length w).map intD')), z'])
  | [], k, w, acc, z, _, _ => ⟨z, by simp [forF, bitsL]⟩
  | d :: l, k, w, acc, z, h, ha => by
    obtain ⟨z', e⟩ := bits_loop x l (k + 1) (w / 2) (acc ++ [w % 2]) (some (.d d)) (by simp only [List.length_cons] at h; omega) (by simp [ha])
    refine ⟨z', ?_⟩
    simp only [forF]
    walk_at "sem"
    rw [modD_ii (by decide)]
    walk_at "sem"
    simp only [List.length_cons] at h
    rw [ite_lt_big (by omega)]
    walk_at "sem"
    rw [fdivD_ii (by decide)]
    walk_at "sem"
    have e1 : acc.map intD' ++ [PyData.int ((w : Int) % 2)] = (acc ++ [w % 2]).map intD' := by simp [intD']
    have e2 : (w : Int) / 2 = ((w / 2 : Nat) : Int) := by omega
    have e3 : acc ++ bitsL (l.length + 1) w = acc ++ [w % 2] ++ bitsL l.length (w / 2) := by
      rw [List.append_assoc]
      congr 1
      unfold bitsL
      rw [List.range_succ_eq_map, List.map_cons, List.map_map]
      simp only [Nat.pow_zero, Nat.div_one, List.singleton_append]
      congr 1
      refine List.map_congr_left fun i _ => ?_
      simp only [Function.comp, Nat.succ_eq_add_one, Nat.pow_succ]
      rw [Nat.div_div_eq_div_mul, Nat.mul_comm]
    rw [e1, e2, e, e3, Nat.pow_succ, Nat.mul_comm, Nat.div_div_eq_div_mul]
theorem parity_eq {f : Fm} (hf : f.Ok) (r : List Nat) : F_parity_of [.d f.d, .d (.list (r.map intD'))] = Sim.ret (.list ((if f.q = 0 then [] else if f.q = 1 then [r.sum % 2] else [1 - r.sum % 2]).map intD')) := by
  show seq (g_parity_of [some (.d f.d), some (.d (.list (r.map intD')))]) finM = _
  obtain ⟨p1, p2, b1, b2, q2, s1, s2⟩ := hf
  unfold g_parity_of Fm.d
  walk_at "sem"
  rw [sumD_nat]
  walk_at "sem"
  rw [modD_ii (by decide)]
  walk_at "sem"
  rw [par_pick q2, seq_r]
  congr 1
  have h2 := Nat.mod_lt r.sum (show 0 < 2 by decide)
  split
  · rfl
  · split
    · rfl
    · show PyData.list [.int (1 - ((r.sum : Nat) : Int) % 2)] = .list [.int ((1 - r.sum % 2 : Nat) : Int)]
      rw [show ((1 - r.sum % 2 : Nat) : Int) = 1 - ((r.sum : Nat) : Int) % 2 by omega]
theorem Fm.fr_len (f : Fm) (w : Nat) : (f.fr w).length = f.p * (1 + f.b + (if f.q = 0 then 0 else 1) + f.s) := by
  rw [← f.row_len w]
  unfold Fm.fr
  generalize f.row w = l
  induction l with
  | nil => simp
  | cons a l ih => simp only [List.flatMap_cons, List.length_append, List.length_replicate, ih, List.length_cons, Nat.mul_add, Nat.mul_one]; omega
theorem pl_form (f : Fm) : Pl 1 f.d := pl_tuple fun x hx => by
  simp only [List.mem_cons, List.not_mem_nil, or_false] at hx
  rcases hx with rfl | rfl | rfl | rfl | rfl
  · exact pl_int _ _
  · exact pl_int _ _
  · exact pl_str _ _
  · exact pl_str _ _
  · exact pl_int _ _

/-! ### the laws' own frame -/
theorem law_frame_eq {f : Fm} (hf : f.Ok) (w : Nat) : F__law_frame [.d f.d, .d (.int w)] = Sim.ret (.str (txt (f.fr w))) := by
  show seq (g__law_frame [some (.d f.d), some (.d (.int w)), none, none, none, none, none, none, none, none, none, none]) finM = _
  obtain ⟨p1, p2, b1, b2, q2, s1, s2⟩ := hf
  unfold g__law_frame Fm.d
  walk_at "sem"
  rw [rng1_nat (by omega)]
  walk_at "sem"
  rw [ite_big (by omega)]
  rw [lc_mapf intD' _ (fun c => intD' (w / 2 ^ c % 2)) (List.range f.b) (fun c _ => rfl) (fun c hc => ?_)]
  · rw [show (List.range f.b).map (fun c => intD' (w / 2 ^ c % 2)) = (bitsL f.b w).map intD' by simp [bitsL]]
    walk_at "sem"
    rw [ord_low]
    walk_at "sem"
    have er : (if f.lo = true then (ret (PyData.list ((bitsL f.b w).map intD')) : M D) else ret (.list ((bitsL f.b w).map intD').reverse)) = Sim.ret (.list ((if f.lo then bitsL f.b w else (bitsL f.b w).reverse).map intD')) := by
      split
      · rfl
      · rw [List.map_reverse]
    rw [er]
    generalize hr : (if f.lo = true then bitsL f.b w else (bitsL f.b w).reverse) = r
    have hs : r.sum = (bitsL f.b w).sum := by
      subst hr; split
      · rfl
      · exact List.sum_reverse _
    have hl : r.length = f.b := by subst hr; split <;> simp [bits_len]
    walk_at "sem"
    rw [sumD_nat]
    walk_at "sem"
    rw [modD_ii (by decide)]
    walk_at "sem"
    rw [par_pick q2]
    have h2 := Nat.mod_lt (bitsL f.b w).sum (show 0 < 2 by decide)
    have ep : (if f.q = 0 then PyData.list [] else if f.q = 1 then .list [.int ((r.sum : Int) % 2)] else .list [.int (1 - (r.sum : Int) % 2)]) = .list ((if f.q = 0 then [] else if f.q = 1 then [(bitsL f.b w).sum % 2] else [1 - (bitsL f.b w).sum % 2]).map intD') := by
      rw [hs]
      split
      · rfl
      · split
        · rfl
        · simp only [List.map_cons, List.map_nil, intD']
          congr 3
          omega
    rw [ep]
    generalize hm : (if f.q = 0 then [] else if f.q = 1 then [(bitsL f.b w).sum % 2] else [1 - (bitsL f.b w).sum % 2]) = m
    have hml : m.length ≤ 1 := by
      subst hm; split
      · simp
      · split <;> simp
    walk_at "sem"
    rw [addD_ll (by simp only [List.length_cons, List.length_nil, List.length_map, big]; omega)]
    walk_at "sem"
    rw [addD_ll (by simp only [List.length_cons, List.length_nil, List.length_map, List.length_append, big]; omega)]
    walk_at "sem"
    rw [mul_ones (by omega)]
    walk_at "sem"
    rw [addD_ll (by simp only [List.length_cons, List.length_nil, List.length_map, List.length_append, List.length_replicate, big]; omega)]
    walk_at "sem"
    have ew : [PyData.int 0] ++ r.map intD' ++ m.map intD' ++ (List.replicate f.s 1).map intD' = (f.row w).map intD' := by
      simp only [Fm.row, hr, hm, List.map_append, List.map_cons, List.map_nil]
      rfl
    rw [ew]
    have hrl := f.row_len w
    rw [ite_big (by rw [List.length_map, hrl]; split <;> omega)]
    rw [lc_mapf intD' _ (fun x => .str (txt (List.replicate f.p (48 + x)))) (f.row w) (fun c _ => rfl) (fun x hx => ?_)]
    · walk_at "sem"
      rw [wire_join _ (by rw [hrl]; split <;> omega) (by omega)]
      rfl
    · simp only [intD']
      walk_at "sem"
      rw [str_bit (Fm.row_le hx)]
      walk_at "sem"
      rw [mul_bit (by omega)]
      rfl
  · have h6 : c < 6 := by have := List.mem_range.mp hc; omega
    show _ = Sim.ret (PyData.int ((w / 2 ^ c % 2 : Nat) : Int))
    simp only [intD']
    walk_at "sem"
    rw [pow_at h6]
    walk_at "sem"
    have hp : 2 ^ c < 2 ^ 6 := Nat.pow_lt_pow_right (by decide) h6
    have hp0 : 0 < 2 ^ c := Nat.pow_pos (by decide)
    rw [fdivD_ii ⟨by omega, by omega⟩]
    walk_at "sem"
    rw [modD_ii (by decide), lift_s]
    congr 2
theorem form_ok (ns : List Int) : Ok 5 (F__law_form [.scr ns, .town]) fun d => ∃ f : Fm, f.Ok ∧ d = f.d := by
  show Ok 5 (seq (g__law_form [some (.scr ns), some .town, none, none, none]) finM) _
  unfold g__law_form
  walk_at "sem"
  refine Ok.step (pick_ok ns _ (by simp)) (by decide) fun d hd => ?_
  try walk_at "sem"
  refine Ok.step (pick_ok ns _ (by simp)) (by decide) fun d2 hd2 => ?_
  try walk_at "sem"
  refine Ok.step (pick_ok ns _ (by simp)) (by decide) fun d3 hd3 => ?_
  try walk_at "sem"
  refine Ok.step (draw_ok ns 3 (by decide)) (by decide) fun d4 hd4 => ?_
  obtain ⟨v4, rfl, h40, h41⟩ := hd4
  try walk_at "sem"
  refine Ok.step (draw_ok ns 2 (by decide)) (by decide) fun d5 hd5 => ?_
  obtain ⟨v5, rfl, h50, h51⟩ := hd5
  have e1 : ∃ p : Nat, 1 ≤ p ∧ p ≤ 6 ∧ d = .int p := by
    simp only [List.mem_cons, List.not_mem_nil, or_false] at hd
    rcases hd with h | h | h | h | h | h | h | h <;> subst h
    · exact ⟨1, by decide, by decide, rfl⟩
    · exact ⟨1, by decide, by decide, rfl⟩
    · exact ⟨2, by decide, by decide, rfl⟩
    · exact ⟨2, by decide, by decide, rfl⟩
    · exact ⟨3, by decide, by decide, rfl⟩
    · exact ⟨4, by decide, by decide, rfl⟩
    · exact ⟨5, by decide, by decide, rfl⟩
    · exact ⟨6, by decide, by decide, rfl⟩
  have e2 : ∃ k : Bool, d2 = .str (ordT k) := by
    simp only [List.mem_cons, List.not_mem_nil, or_false] at hd2
    rcases hd2 with h | h <;> subst h
    · exact ⟨true, rfl⟩
    · exact ⟨false, rfl⟩
  have e3 : ∃ q : Nat, q ≤ 2 ∧ d3 = .str (parT q) := by
    simp only [List.mem_cons, List.not_mem_nil, or_false] at hd3
    rcases hd3 with h | h | h <;> subst h
    · exact ⟨0, by decide, rfl⟩
    · exact ⟨1, by decide, rfl⟩
    · exact ⟨2, by decide, rfl⟩
  obtain ⟨p, p1, p2, rfl⟩ := e1
  obtain ⟨k, rfl⟩ := e2
  obtain ⟨q, q2, rfl⟩ := e3
  refine Ok.ret ⟨⟨p, (4 + v4).toNat, k, q, (1 + v5).toNat⟩, ⟨p1, p2, ?_, ?_, q2, ?_, ?_⟩, ?_⟩
  · show 4 ≤ (4 + v4).toNat; omega
  · show (4 + v4).toNat ≤ 6; omega
  · show 1 ≤ (1 + v5).toNat; omega
  · show (1 + v5).toNat ≤ 2; omega
  · show PyData.tuple [.int p, .int (4 + v4), .str (ordT k), .str (parT q), .int (1 + v5)] = Fm.d ⟨p, (4 + v4).toNat, k, q, (1 + v5).toNat⟩
    unfold Fm.d
    rw [show (((4 + v4).toNat : Nat) : Int) = 4 + v4 by omega, show (((1 + v5).toNat : Nat) : Int) = 1 + v5 by omega]

/-! ### what is needed is there -/
theorem whole_eq (i a b : Int) : F_is_whole [.d (.int i), .d (.int a), .d (.int b)] = Sim.ret (.bool (decide (a ≤ i ∧ i ≤ b))) := by
  show seq (g_is_whole [some (.d (.int i)), some (.d (.int a)), some (.d (.int b))]) finM = _
  unfold g_is_whole
  walk_at "sem"
  by_cases h : a ≤ i
  · simp [h, seq_r]
  · simp [h, seq_r]
theorem in_ord (k : Bool) : inD (.str (ordT k)) (.tuple [.str "low", .str "high"]) = some (.bool true) := by
  cases k <;> simp [inD, inB, ordT, PyData.eqv, PyData.depth, PyData.depthAll]
theorem in_par {q : Nat} (h : q ≤ 2) : inD (.str (parT q)) (.tuple [.str "none", .str "even", .str "odd"]) = some (.bool true) := by
  match q, h with
  | 0, _ => simp [inD, inB, parT, PyData.eqv, PyData.depth, PyData.depthAll]
  | 1, _ => simp [inD, inB, parT, PyData.eqv, PyData.depth, PyData.depthAll]
  | 2, _ => simp [inD, inB, parT, PyData.eqv, PyData.depth, PyData.depthAll]
theorem one_eq {s : Str} {xs : List D} {k : Bool} (h : inD (.str s) (.tuple xs) = some (.bool k)) : F_is_one_of [.d (.str s), .d (.tuple xs)] = Sim.ret (.bool k) := by
  show seq (g_is_one_of [some (.d (.str s)), some (.d (.tuple xs))]) finM = _
  unfold g_is_one_of
  walk_at "sem"
  rw [h]; rfl
theorem is_form_eq {f : Fm} (hf : f.Ok) : F_is_form [.d f.d] = Sim.ret (.bool true) := by
  obtain ⟨p1, p2, b1, b2, q2, s1, s2⟩ := hf
  show seq (g_is_form [some (.d f.d)]) finM = _
  unfold g_is_form Fm.d
  walk_at "sem"
  rw [whole_eq, decide_eq_true (by omega)]
  walk_at "sem"
  rw [whole_eq, decide_eq_true (by omega)]
  walk_at "sem"
  rw [one_eq (in_ord _)]
  walk_at "sem"
  rw [one_eq (in_par q2)]
  walk_at "sem"
  rw [whole_eq, decide_eq_true (by omega)]
  rfl
theorem need_form_eq {f : Fm} (hf : f.Ok) : F_need_form [.d f.d] = Sim.ret .none := by
  show seq (g_need_form [some (.d f.d)]) finM = _
  unfold g_need_form
  walk_at "sem"
  rw [is_form_eq hf]
  walk_at "sem"
/-! ### signs -/
def Bin (l : List Nat) : Prop := ∀ c ∈ l, c = 48 ∨ c = 49
theorem in_01 {c : Nat} (h : c = 48 ∨ c = 49) : inD (.str (txt [c])) (.str "01") = some (.bool true) := by
  have : inB (.str (txt [c])) (.str "01") = some (decide (c ∈ ("01" : Str).cps.toList)) := by simp [inB, txt]
  rw [inD, this]
  have e : ("01" : Str).cps.toList = [48, 49] := by decide +kernel
  rw [e]
  rcases h with rfl | rfl <;> rfl
theorem need_samples_eq {l : List Nat} (h1 : 1 ≤ l.length) (h2 : l.length ≤ 200) (hb : Bin l) : F_need_samples [.d (.str (txt l))] = Sim.ret .none := by
  show seq (g_need_samples [some (.d (.str (txt l))), none]) finM = _
  unfold g_need_samples
  walk_at "sem"
  rw [lenD_txt (show l.length ≤ 1000000 by omega)]
  walk_at "sem"
  rw [decide_eq_true (show (1 : Int) ≤ (l.length : Int) by omega), decide_eq_true (show (l.length : Int) ≤ 200 by omega)]
  walk_at "sem"
  rw [itemsM_txt (by omega)]
  walk_at "sem"
  rw [ite_big (by omega)]
  rw [lc_mapf (fun c => PyData.str (txt [c])) _ (fun _ => .bool true) l (fun c _ => rfl) (fun c hc => ?_)]
  · walk_at "sem"
    rw [show l.map (fun _ => PyData.bool true) = (l.map fun _ => true).map PyData.bool by rw [List.map_map]; rfl, allD_map]
    walk_at "sem"
    rw [show (l.map fun _ => true).all id = true by simp]
    walk_at "sem"
  · walk_at "sem"
    rw [in_01 (hb c hc)]
    rfl
def Fm.long (f : Fm) : Nat := f.p * (1 + f.b + (if f.q = 0 then 0 else 1) + f.s)
theorem Fm.long_le {f : Fm} (hf : f.Ok) : 1 ≤ f.long ∧ f.long ≤ 60 := by
  obtain ⟨p1, p2, b1, b2, q2, s1, s2⟩ := hf
  unfold Fm.long
  have h1 : 1 * 6 ≤ f.p * (1 + f.b + (if f.q = 0 then 0 else 1) + f.s) := Nat.mul_le_mul p1 (by split <;> omega)
  have h2 : f.p * (1 + f.b + (if f.q = 0 then 0 else 1) + f.s) ≤ 6 * 10 := Nat.mul_le_mul p2 (by split <;> omega)
  omega
theorem Fm.fr_bin (f : Fm) (w : Nat) : Bin (f.fr w) := by
  intro c hc
  simp only [Fm.fr, List.mem_flatMap, List.mem_replicate] at hc
  obtain ⟨x, hx, _, rfl⟩ := hc
  have := Fm.row_le hx
  omega
/-! ### ticks apart -/
def apartL (a b : List Nat) : Nat := ((List.range a.length).filter fun i => !decide (a[i]? = b[i]?)).length
/-! ### frames are told apart -/
theorem bits_succ (b w : Nat) : bitsL (b + 1) w = (w % 2) :: bitsL b (w / 2) := by
  unfold bitsL
  rw [List.range_succ_eq_map, List.map_cons, List.map_map]
  simp only [Nat.pow_zero, Nat.div_one]
  congr 1
  refine List.map_congr_left fun i _ => ?_
  simp only [Function.comp, Nat.succ_eq_add_one, Nat.pow_succ]
  rw [Nat.div_div_eq_div_mul, Nat.mul_comm]
def valL : List Nat → Nat
  | [] => 0
  | x :: l => x + 2 * valL l
theorem val_bits : ∀ b w : Nat, valL (bitsL b w) = w % 2 ^ b
  | 0, w => by simp [bitsL, valL, Nat.mod_one]
  | b + 1, w => by rw [bits_succ, valL, val_bits b (w / 2), Nat.pow_succ, Nat.mul_comm (2 ^ b) 2, Nat.mod_mul]
theorem bits_inj {b w v : Nat} (hw : w < 2 ^ b) (hv : v < 2 ^ b) (h : bitsL b w = bitsL b v) : w = v := by
  have := congrArg valL h
  rw [val_bits, val_bits, Nat.mod_eq_of_lt hw, Nat.mod_eq_of_lt hv] at this
  exact this
theorem reps_inj {p : Nat} (hp : 1 ≤ p) : ∀ {l m : List Nat}, l.length = m.length → (l.flatMap fun x => List.replicate p (48 + x)) = (m.flatMap fun x => List.replicate p (48 + x)) → l = m
  | [], [], _, _ => rfl
  | a :: l, b :: m, hl, h => by
    simp only [List.flatMap_cons] at h
    have h1 := List.append_inj h (by simp)
    have h2 := reps_inj hp (l := l) (m := m) (by simpa using hl) h1.2
    have h3 : 48 + a = 48 + b := by
      have e := h1.1
      obtain ⟨q, rfl⟩ : ∃ q, p = q + 1 := ⟨p - 1, by omega⟩
      simp only [List.replicate_succ, List.cons.injEq] at e
      exact e.1
    rw [h2, show a = b by omega]
  | [], _ :: _, hl, _ => by simp at hl
  | _ :: _, [], hl, _ => by simp at hl
theorem Fm.fr_inj {f : Fm} (hf : f.Ok) {w v : Nat} (hw : w < 2 ^ f.b) (hv : v < 2 ^ f.b) (h : f.fr w = f.fr v) : w = v := by
  have h1 : f.row w = f.row v := reps_inj hf.p1 (by rw [Fm.row_len, Fm.row_len]) h
  unfold Fm.row at h1
  simp only [List.append_assoc, List.singleton_append, List.cons.injEq, true_and] at h1
  have h2 := (List.append_inj h1 (by split <;> simp [bits_len])).1
  split at h2
  · exact bits_inj hw hv (List.cons.inj h2).2
  · exact bits_inj hw hv (List.reverse_inj.mp (List.cons.inj h2).2)

/-! ### rows, samples that are sent -/
def rowD (r : Nat × Nat) : D := .tuple [.int r.1, .int r.2]
def rowsD (rs : List (Nat × Nat)) : D := .tuple (rs.map rowD)
def Fm.part (f : Fm) (r : Nat × Nat) : List Nat := List.replicate r.1 49 ++ f.fr r.2
def Fm.sentL (f : Fm) (rs : List (Nat × Nat)) (rest : Nat) : List Nat := rs.flatMap f.part ++ List.replicate rest 49
structure RowOk (f : Fm) (r : Nat × Nat) : Prop where
  g : r.1 ≤ 200
  w : r.2 < 2 ^ f.b
theorem u1 : ("1" : Str) = txt [49] := by decide +kernel
theorem Fm.part_len (f : Fm) (r : Nat × Nat) : (f.part r).length = r.1 + f.long := by
  unfold Fm.part
  rw [List.length_append, List.length_replicate, Fm.fr_len]; rfl
theorem Fm.part_bin (f : Fm) (r : Nat × Nat) : Bin (f.part r) := fun c hc => by
  rcases List.mem_append.mp hc with h | h
  · exact .inr (List.mem_replicate.mp h).2
  · exact f.fr_bin _ c h
theorem Fm.sent_bin (f : Fm) (rs : List (Nat × Nat)) (rest : Nat) : Bin (f.sentL rs rest) := fun c hc => by
  rcases List.mem_append.mp hc with h | h
  · obtain ⟨r, _, h⟩ := List.mem_flatMap.mp h
    exact f.part_bin r c h
  · exact .inr (List.mem_replicate.mp h).2
theorem Fm.parts_le {f : Fm} (hf : f.Ok) : ∀ {rs : List (Nat × Nat)}, (∀ r ∈ rs, r.1 ≤ 200) → (rs.map (List.length ∘ f.part)).sum ≤ rs.length * 260
  | [], _ => by simp
  | r :: rs, h => by
    have ih := Fm.parts_le hf (rs := rs) fun x hx => h x (List.mem_cons_of_mem _ hx)
    have h1 := h r List.mem_cons_self
    have h2 := Fm.long_le hf
    simp only [List.map_cons, List.sum_cons, Function.comp, Fm.part_len, List.length_cons]
    have e : (rs.map (List.length ∘ f.part)).sum = (rs.map fun x => x.1 + f.long).sum := congrArg List.sum (List.map_congr_left fun x _ => f.part_len x)
    have e2 : (List.map (fun x => (f.part x).length) rs).sum = (rs.map fun x => x.1 + f.long).sum := e
    rw [e] at ih
    omega
theorem join_parts {f : Fm} (hf : f.Ok) {rs : List (Nat × Nat)} (hl : rs.length ≤ 100) (h : ∀ r ∈ rs, r.1 ≤ 200) : joinD (.str "") [.list (rs.map fun r => .str (txt (f.part r)))] = some (.str (txt (rs.flatMap f.part))) := by
  have := joinD_txt (ls := rs.map f.part) (by
    rw [List.map_map]
    have h1 := Fm.parts_le hf h
    have h2 : rs.length * 260 ≤ 100 * 260 := Nat.mul_le_mul_right _ hl
    show _ ≤ 1000000
    omega)
  rw [List.map_map] at this
  rw [show (.str "" : D) = .str (txt []) by rw [show ("" : Str) = txt [] by decide +kernel]]
  rw [show rs.flatMap f.part = (rs.map f.part).flatten from rfl]
  exact this
theorem parts_len_le {f : Fm} (hf : f.Ok) {rs : List (Nat × Nat)} (hl : rs.length ≤ 100) (h : ∀ r ∈ rs, r.1 ≤ 200) : (rs.flatMap f.part).length ≤ 26000 := by
  have h1 := Fm.parts_le hf h
  have h2 : rs.length * 260 ≤ 100 * 260 := Nat.mul_le_mul_right _ hl
  have e : (rs.flatMap f.part).length = (rs.map (List.length ∘ f.part)).sum := by
    rw [List.length_flatMap]; rfl
  omega
/-- gap and frame in one text -/
theorem part_eq {f : Fm} (hf : f.Ok) {r : Nat × Nat} (h : r.1 ≤ 200) : (seq (lift (mulD (.str "1") (.int r.1))) fun a => lift (addD a (.str (txt (f.fr r.2))))) = Sim.ret (.str (txt (f.part r))) := by
  have hL := Fm.long_le hf
  rw [u1, mul_bit (by omega), lift_s, seq_r, addD_txt (by rw [List.length_replicate, Fm.fr_len]; show r.1 + f.long ≤ 1000000; omega)]
  rfl
/-! ### reading: the plain side -/
def optD : Option Nat → D
  | some w => .int w
  | none => .none
def Fm.wordL (f : Fm) (part : List Nat) : Option Nat := (List.range (2 ^ f.b)).find? fun w => decide (f.fr w = part)
theorem Fm.wordL_some {f : Fm} (hf : f.Ok) {part : List Nat} {w : Nat} : f.wordL part = some w ↔ w < 2 ^ f.b ∧ part = f.fr w := by
  constructor
  · intro h
    have h1 := List.find?_some h
    have h2 := List.mem_of_find?_eq_some h
    exact ⟨List.mem_range.mp h2, (of_decide_eq_true h1).symm⟩
  · rintro ⟨h1, rfl⟩
    cases e : f.wordL (f.fr w) with
    | none =>
      have := List.find?_eq_none.mp e w (List.mem_range.mpr h1)
      simp at this
    | some v =>
      unfold Fm.wordL at e
      have h2 := List.find?_some (p := fun x => decide (f.fr x = f.fr w)) e
      have h2 := of_decide_eq_true h2
      have h3 := List.mem_range.mp (List.mem_of_find?_eq_some e)
      rw [Fm.fr_inj hf h3 h1 h2]
theorem Fm.wordL_none {f : Fm} (hf : f.Ok) {part : List Nat} (h : ∀ w, w < 2 ^ f.b → part ≠ f.fr w) : f.wordL part = none := by
  cases e : f.wordL part with
  | none => rfl
  | some w =>
    have := (Fm.wordL_some hf).mp e
    exact absurd this.2 (h w this.1)
theorem Fm.fr_head (f : Fm) (hf : f.Ok) (w : Nat) : ∃ t, f.fr w = 48 :: t := by
  obtain ⟨q, hq⟩ : ∃ q, f.p = q + 1 := ⟨f.p - 1, by have := hf.p1; omega⟩
  unfold Fm.fr Fm.row
  simp only [List.append_assoc, List.singleton_append, List.flatMap_cons, hq, List.replicate_succ, List.cons_append]
  exact ⟨_, rfl⟩
def Fm.parse (f : Fm) : Nat → List Nat → Nat → Option (List (Nat × Nat) × Nat)
  | 0, _, _ => none
  | _ + 1, [], gap => some ([], gap)
  | k + 1, c :: t, gap => if c = 49 then f.parse k t (gap + 1) else match f.wordL ((c :: t).take f.long) with
    | none => none
    | some w => (f.parse k ((c :: t).drop f.long) 0).map fun x => ((gap, w) :: x.1, x.2)
theorem sentL_cons (f : Fm) (r : Nat × Nat) (rs : List (Nat × Nat)) (rest : Nat) : f.sentL (r :: rs) rest = List.replicate r.1 49 ++ (f.fr r.2 ++ f.sentL rs rest) := by
  simp [Fm.sentL, Fm.part, List.flatMap_cons]
theorem reps_split {c a b : Nat} {x y : List Nat} (hc : c ≠ 49) : List.replicate a 49 ++ c :: x = List.replicate b 49 ++ 48 :: y → a = b ∧ c :: x = 48 :: y := by
  induction a generalizing b with
  | zero =>
    cases b with
    | zero => exact fun h => ⟨rfl, h⟩
    | succ b =>
      intro h
      rw [List.replicate_succ] at h
      exact absurd (List.cons.inj h).1 hc
  | succ a ih =>
    cases b with
    | zero =>
      intro h
      rw [List.replicate_succ] at h
      exact absurd (List.cons.inj h).1 (by decide)
    | succ b =>
      intro h
      rw [List.replicate_succ, List.replicate_succ] at h
      have := ih (List.cons.inj h).2
      exact ⟨by omega, this.2⟩
theorem Fm.parse_iff {f : Fm} (hf : f.Ok) : ∀ (k : Nat) (l : List Nat) (gap : Nat) (rs : List (Nat × Nat)) (rest : Nat), l.length < k →
    (f.parse k l gap = some (rs, rest) ↔ (∀ r ∈ rs, r.2 < 2 ^ f.b) ∧ List.replicate gap 49 ++ l = f.sentL rs rest)
  | 0, l, gap, rs, rest, h => by omega
  | k + 1, [], gap, rs, rest, h => by
    simp only [Fm.parse, List.append_nil]
    constructor
    · intro e
      cases e
      exact ⟨(fun _ h => by cases h), rfl⟩
    · rintro ⟨_, e⟩
      cases rs with
      | nil =>
        have : gap = rest := by
          have := congrArg List.length e
          simpa [Fm.sentL] using this
        rw [this]
      | cons r rs =>
        obtain ⟨t, ht⟩ := f.fr_head hf r.2
        have hm : 48 ∈ List.replicate gap 49 := by
          rw [e, sentL_cons, ht]; simp
        exact absurd (List.mem_replicate.mp hm).2 (by decide)
  | k + 1, c :: t, gap, rs, rest, h => by
    have hL := Fm.long_le hf
    simp only [List.length_cons] at h
    by_cases hc : c = 49
    · subst hc
      simp only [Fm.parse, if_true]
      rw [Fm.parse_iff hf k t (gap + 1) rs rest (by omega)]
      have : List.replicate gap 49 ++ 49 :: t = List.replicate (gap + 1) 49 ++ t := by
        rw [List.replicate_succ', List.append_assoc]; rfl
      rw [this]
    · simp only [Fm.parse, if_neg hc]
      constructor
      · intro e
        cases hw : f.wordL ((c :: t).take f.long) with
        | none => rw [hw] at e; cases e
        | some w =>
          rw [hw] at e
          simp only [Option.map_eq_some_iff] at e
          obtain ⟨⟨rs', rest'⟩, e1, e2⟩ := e
          cases e2
          have hw := (Fm.wordL_some hf).mp hw
          have ih := (Fm.parse_iff hf k ((c :: t).drop f.long) 0 rs' rest' (by rw [List.length_drop, List.length_cons]; omega)).mp e1
          refine ⟨fun r hr => ?_, ?_⟩
          · rcases List.mem_cons.mp hr with rfl | hr
            · exact hw.1
            · exact ih.1 r hr
          · rw [sentL_cons, ← hw.2, ← ih.2]
            simp
      · rintro ⟨hr, e⟩
        cases rs with
        | nil =>
          have hm : c ∈ f.sentL [] rest := by rw [← e]; simp
          have hm2 : c ∈ List.replicate rest 49 := hm
          exact absurd (List.mem_replicate.mp hm2).2 hc
        | cons r rs =>
          obtain ⟨u, hu⟩ := f.fr_head hf r.2
          rw [sentL_cons, hu, List.cons_append] at e
          obtain ⟨e1, e2⟩ := reps_split hc e
          rw [← List.cons_append, ← hu] at e2
          have hlen : (f.fr r.2).length = f.long := f.fr_len r.2
          have ht : (c :: t).take f.long = f.fr r.2 := by rw [e2, ← hlen, List.take_left]
          have hd : (c :: t).drop f.long = f.sentL rs rest := by rw [e2, ← hlen, List.drop_left]
          rw [ht, (Fm.wordL_some hf).mpr ⟨hr r List.mem_cons_self, rfl⟩, hd]
          have ih := (Fm.parse_iff hf k ((c :: t).drop f.long) 0 rs rest (by rw [List.length_drop, List.length_cons]; omega)).mpr ⟨fun x hx => hr x (List.mem_cons_of_mem _ hx), by rw [hd]; rfl⟩
          rw [hd] at ih
          simp only [ih, Option.map_some, e1]
def Fm.readL (f : Fm) (l : List Nat) : Option (List (Nat × Nat) × Nat) := (f.parse 1000 l 0).bind fun x => if x.1 = [] then none else some x
theorem Fm.readL_iff {f : Fm} (hf : f.Ok) {l : List Nat} (hl : l.length < 1000) {rs : List (Nat × Nat)} {rest : Nat} : f.readL l = some (rs, rest) ↔ rs ≠ [] ∧ (∀ r ∈ rs, r.2 < 2 ^ f.b) ∧ l = f.sentL rs rest := by
  have h := Fm.parse_iff hf 1000 l 0 rs rest hl
  simp only [List.replicate_zero, List.nil_append] at h
  rw [← h]
  unfold Fm.readL
  constructor
  · intro e
    obtain ⟨x, h1, h2⟩ := Option.bind_eq_some_iff.mp e
    split at h2
    · cases h2
    · cases h2
      rename_i hn
      exact ⟨hn, h1⟩
  · rintro ⟨h1, h2⟩
    rw [h2, Option.bind_some, if_neg h1]
theorem Fm.readL_sent {f : Fm} (hf : f.Ok) {rs : List (Nat × Nat)} {rest : Nat} (h1 : rs ≠ []) (h2 : ∀ r ∈ rs, r.2 < 2 ^ f.b) (hl : (f.sentL rs rest).length < 1000) : f.readL (f.sentL rs rest) = some (rs, rest) := (Fm.readL_iff hf hl).mpr ⟨h1, h2, rfl⟩
def readD : Option (List (Nat × Nat) × Nat) → D
  | some (rs, rest) => .tuple [rowsD rs, .int rest]
  | none => .none
/-! ### bits of samples -/
theorem valL_lt : ∀ {l : List Nat}, (∀ x ∈ l, x ≤ 1) → valL l < 2 ^ l.length
  | [], _ => by simp [valL]
  | x :: l, h => by
    have ih := valL_lt (l := l) fun y hy => h y (List.mem_cons_of_mem _ hy)
    have := h x List.mem_cons_self
    simp only [valL, List.length_cons, Nat.pow_succ]
    omega
theorem bits_val : ∀ {l : List Nat}, (∀ x ∈ l, x ≤ 1) → bitsL l.length (valL l) = l
  | [], _ => rfl
  | x :: l, h => by
    have ih := bits_val (l := l) fun y hy => h y (List.mem_cons_of_mem _ hy)
    have hx := h x List.mem_cons_self
    rw [List.length_cons, bits_succ, valL]
    rw [show (x + 2 * valL l) % 2 = x by omega, show (x + 2 * valL l) / 2 = valL l by omega, ih]
def chunk (p : Nat) (part : List Nat) (i : Nat) : List Nat := (part.drop (i * p)).take p
theorem chunks_flat {p : Nat} (g : Nat → Nat) : ∀ (c : Nat) (part : List Nat), part.length = c * p → (∀ i, i < c → chunk p part i = List.replicate p (g i)) → part = (List.range c).flatMap fun i => List.replicate p (g i)
  | 0, part, hl, _ => by
    have : part = [] := by rw [Nat.zero_mul] at hl; exact List.length_eq_zero_iff.mp hl
    subst this; rfl
  | c + 1, part, hl, h => by
    have hlc : part.length = c * p + p := by rw [hl, Nat.succ_mul]
    have ih := chunks_flat (p := p) g c (part.take (c * p)) (by rw [List.length_take, Nat.min_eq_left (by omega)]) fun i hi => by
      have := h i (by omega)
      have hip : i * p + p ≤ c * p := by rw [← Nat.succ_mul]; exact Nat.mul_le_mul_right _ hi
      unfold chunk at this ⊢
      rw [List.drop_take, List.take_take, Nat.min_eq_left (by omega)]
      exact this
    have hlast := h c (by omega)
    unfold chunk at hlast
    rw [List.take_of_length_le (by rw [List.length_drop]; omega)] at hlast
    rw [List.range_succ, List.flatMap_append, ← ih]
    simp only [List.flatMap_cons, List.flatMap_nil, List.append_nil]
    rw [← hlast, List.take_append_drop]
theorem chunk_flat {p : Nat} : ∀ (r : List Nat) (i : Nat) (x : Nat), r[i]? = some x → chunk p (r.flatMap fun x => List.replicate p (48 + x)) i = List.replicate p (48 + x)
  | [], i, x, h => by simp at h
  | y :: r, 0, x, h => by
    simp only [List.getElem?_cons_zero, Option.some.injEq] at h
    subst h
    simp [chunk, List.flatMap_cons, List.take_append_of_le_length]
  | y :: r, i + 1, x, h => by
    have ih := chunk_flat (p := p) r i x (by simpa using h)
    unfold chunk at ih ⊢
    rw [List.flatMap_cons, Nat.succ_mul, Nat.add_comm (i * p) p, ← List.drop_drop, List.drop_left' (by simp)]
    exact ih
def bitL (c : List Nat) : Option Nat := if c = List.replicate c.length (c.headD 0) ∧ c ≠ [] then some (c.headD 0 - 48) else none
theorem bitL_rep {p x : Nat} (hp : 1 ≤ p) : bitL (List.replicate p (48 + x)) = some x := by
  obtain ⟨q, rfl⟩ : ∃ q, p = q + 1 := ⟨p - 1, by omega⟩
  unfold bitL
  rw [if_pos ⟨by simp [List.replicate_succ], by simp [List.replicate_succ]⟩]
  simp [List.replicate_succ]
theorem bitL_some {c : List Nat} {x : Nat} (hb : Bin c) (h : bitL c = some x) : c = List.replicate c.length (48 + x) ∧ x ≤ 1 := by
  unfold bitL at h
  split at h
  · rename_i hc
    cases h
    obtain ⟨h1, h2⟩ := hc
    cases c with
    | nil => exact absurd rfl h2
    | cons a t =>
      simp only [List.headD_cons] at h1 ⊢
      have ha := hb a List.mem_cons_self
      have e : 48 + (a - 48) = a := by omega
      rw [e]
      exact ⟨h1, by omega⟩
  · cases h
theorem v0 : ("" : Str) = txt [] := by decide +kernel
theorem int_sign {a : Nat} (h : a = 48 ∨ a = 49) : intD [.str (txt [a])] = some (.int (a - 48 : Nat)) := by
  rcases h with rfl | rfl
  · show (if (txt [48]).length ≤ 640 then (PySem.intText? (txt [48])).map PyData.int else none) = _
    rw [txt_len, if_pos (by decide), show PySem.intText? (txt [48]) = some 0 by decide +kernel]; rfl
  · show (if (txt [49]).length ≤ 640 then (PySem.intText? (txt [49])).map PyData.int else none) = _
    rw [txt_len, if_pos (by decide), show PySem.intText? (txt [49]) = some 1 by decide +kernel]; rfl
theorem fold_val : ∀ l : List Nat, l.foldr (fun x a => 2 * a + x) 0 = valL l
  | [] => rfl
  | x :: l => by rw [List.foldr_cons, fold_val l, valL]; omega
theorem word_loop (x y : Option SV) : ∀ (l : List Nat) (w : Nat) (z : Option SV), ∃ z', forF (bndN 3) (setS 2 (opE addD (opE mulD (cE (.int 2)) (varE 2)) (varE 3))) (l.map intD') [x, y, some (.d (.int w)), z] = Sim.ret (.next [x, y, some (.d (.int (l.foldl (fun a b => 2 * a + b) w : Nat))), z'])
  | [], w, z => ⟨z, rfl⟩
  | b :: l, w, z => by
    obtain ⟨z', e⟩ := word_loop x y l (2 * w + b) (some (.d (.int b)))
    refine ⟨z', ?_⟩
    simp only [List.map_cons, forF, intD']
    walk_at "sem"
    rw [mulD_ii (.inl (by decide))]
    walk_at "sem"
    rw [show (2 : Int) * (w : Int) + (b : Int) = ((2 * w + b : Nat) : Int) by omega]
    exact e
theorem word_of_eq {f : Fm} (r : List Nat) : F_word_of [.d f.d, .d (.list (r.map intD'))] = Sim.ret (.int (valL (if f.lo then r else r.reverse) : Nat)) := by
  show seq (g_word_of [some (.d f.d), some (.d (.list (r.map intD'))), none, none]) finM = _
  unfold g_word_of Fm.d
  walk_at "sem"
  rw [ord_low]
  walk_at "sem"
  obtain ⟨z', e⟩ := word_loop (some (.d (PyData.tuple [PyData.int f.p, PyData.int f.b, PyData.str (ordT f.lo), PyData.str (parT f.q), PyData.int f.s]))) (some (.d (.list (r.map intD')))) (if f.lo then r.reverse else r) 0 none
  cases hlo : f.lo with
  | true =>
    rw [hlo] at e
    simp only [if_true, ← List.map_reverse] at e ⊢
    walk_at "sem"
    rw [show (0 : Int) = ((0 : Nat) : Int) from rfl, e]
    walk_at "sem"
    rw [List.foldl_reverse, fold_val]
  | false =>
    rw [hlo] at e
    simp only [Bool.false_eq_true, if_false] at e ⊢
    walk_at "sem"
    rw [show (0 : Int) = ((0 : Nat) : Int) from rfl, e]
    walk_at "sem"
    rw [← fold_val, List.foldr_reverse]
theorem rng3_def (i j c : Int) : rng3M [.int i, .int j, .int c] = if c ≠ 0 ∧ c.natAbs < 1073741824 ∧ Builtin.Range.small i j c = true ∧ 0 ≤ Builtin.Range.rangeSize i j c then Sim.ret (Sim.intsFrom i (Builtin.Range.rangeSize i j c).toNat c) else fault := rfl
theorem rng3_nat {p c : Nat} (h1 : 1 ≤ p) (h2 : p ≤ 6) (h4 : c ≤ 10) : rng3M [.int 0, .int ((p * c : Nat) : Int), .int (p : Int)] = Sim.ret ((List.range c).map fun i => intD' (i * p)) := by
  have key : ∀ p, p < 7 → ∀ c, c < 11 → 1 ≤ p → Builtin.Range.small 0 ((p * c : Nat) : Int) (p : Int) = true ∧ Builtin.Range.rangeSize 0 ((p * c : Nat) : Int) (p : Int) = (c : Int) := by decide +kernel
  obtain ⟨k1, k2⟩ := key p (by omega) c (by omega) h1
  have hc : (p : Int) ≠ 0 ∧ (p : Int).natAbs < 1073741824 ∧ Builtin.Range.small 0 ((p * c : Nat) : Int) (p : Int) = true ∧ 0 ≤ Builtin.Range.rangeSize 0 ((p * c : Nat) : Int) (p : Int) := ⟨by omega, by omega, k1, by rw [k2]; omega⟩
  rw [rng3_def, if_pos hc, k2, Int.toNat_natCast]
  refine congrArg Sim.ret ?_
  unfold Sim.intsFrom
  refine List.map_congr_left fun i _ => ?_
  refine congrArg PyData.int ?_
  rw [Int.natCast_mul, Int.zero_add]
theorem in_none (os : List (Option Nat)) : inD .none (.list (os.map optD)) = some (.bool (os.any Option.isNone)) := by
  have : inB .none (.list (os.map optD)) = some (os.any Option.isNone) := by
    show (if min (PyData.depthAll (os.map optD)) (PyData.none).depth ≤ 60 then some ((os.map optD).any fun y => PyData.eqv y .none) else none) = _
    rw [if_pos (Nat.le_trans (Nat.min_le_right _ _) (by simp [PyData.depth])), List.any_map]
    congr 1
    congr 1
    funext o
    cases o <;> simp [optD, PyData.eqv]
  rw [inD, this]; rfl
theorem eqv_nats : ∀ A B : List Nat, PyData.eqvAll (A.map intD') (B.map intD') = decide (A = B)
  | [], [] => rfl
  | [], b :: B => by simp [PyData.eqvAll]
  | a :: A, [] => by simp [PyData.eqvAll]
  | a :: A, b :: B => by
    have e : PyData.eqv (intD' a) (intD' b) = decide (a = b) := by
      show PyData.eqv (.int a) (.int b) = _
      rw [PyData.eqv]
      by_cases h : a = b
      · subst h; simp
      · rw [decide_eq_false h]; exact beq_eq_false_iff_ne.mpr fun z => h (by omega)
    rw [List.map_cons, List.map_cons, PyData.eqvAll, eqv_nats A B, e]
    by_cases h1 : a = b <;> by_cases h2 : A = B <;> simp [h1, h2]
theorem depth_nats (A : List Nat) : PyData.depthAll (A.map intD') = 0 := by
  induction A with
  | nil => rfl
  | cons a A ih => rw [List.map_cons, PyData.depthAll, ih]; rfl
theorem ne_nats (A B : List Nat) : neD (.list (A.map intD')) (.list (B.map intD')) = some (.bool (!decide (A = B))) := by
  unfold neD
  rw [if_pos (by rw [PyData.depth, depth_nats]; exact Nat.le_trans (Nat.min_le_left _ _) (by decide)), PyData.eqv, eqv_nats]
theorem eq_nats (A B : List Nat) : eqD (.list (A.map intD')) (.list (B.map intD')) = some (.bool (decide (A = B))) := by
  unfold eqD
  rw [if_pos (by rw [PyData.depth, depth_nats]; exact Nat.le_trans (Nat.min_le_left _ _) (by decide)), PyData.eqv, eqv_nats]
def Fm.cnt (f : Fm) : Nat := 1 + f.b + (if f.q = 0 then 0 else 1) + f.s
theorem Fm.cnt_le {f : Fm} (hf : f.Ok) : 6 ≤ f.cnt ∧ f.cnt ≤ 10 := by
  obtain ⟨p1, p2, b1, b2, q2, s1, s2⟩ := hf
  unfold Fm.cnt
  split <;> omega
def Fm.parL (f : Fm) (bits : List Nat) : List Nat := if f.q = 0 then [] else if f.q = 1 then [bits.sum % 2] else [1 - bits.sum % 2]
def Fm.wordB (f : Fm) (bits : List Nat) : Nat := valL (if f.lo then bits else bits.reverse)
theorem Fm.row_wordB {f : Fm} {bits : List Nat} (hl : bits.length = f.b) (hb : ∀ x ∈ bits, x ≤ 1) : f.row (f.wordB bits) = [0] ++ bits ++ f.parL bits ++ List.replicate f.s 1 := by
  have e : bitsL f.b (f.wordB bits) = if f.lo then bits else bits.reverse := by
    unfold Fm.wordB
    split
    · rw [← hl, bits_val hb]
    · rw [← hl, ← List.length_reverse, bits_val (fun x hx => hb x (List.mem_reverse.mp hx))]
  have e2 : (if f.lo then bitsL f.b (f.wordB bits) else (bitsL f.b (f.wordB bits)).reverse) = bits := by
    rw [e]
    cases f.lo <;> simp
  have e3 : (bitsL f.b (f.wordB bits)).sum = bits.sum := by
    rw [e]
    cases f.lo <;> simp
  unfold Fm.row Fm.parL
  simp only [e2, e3]
theorem Fm.wordB_lt {f : Fm} {bits : List Nat} (hl : bits.length = f.b) (hb : ∀ x ∈ bits, x ≤ 1) : f.wordB bits < 2 ^ f.b := by
  unfold Fm.wordB
  split
  · rw [← hl]; exact valL_lt hb
  · rw [← hl, ← List.length_reverse]; exact valL_lt fun x hx => hb x (List.mem_reverse.mp hx)
/-- a row of bits is a word's row, or none -/
theorem Fm.row_cut (f : Fm) (w : Nat) : ∃ bits, bits.length = f.b ∧ f.row w = 0 :: (bits ++ (f.parL bits ++ List.replicate f.s 1)) := by
  refine ⟨if f.lo then bitsL f.b w else (bitsL f.b w).reverse, by split <;> simp [bits_len], ?_⟩
  have e3 : (if f.lo then bitsL f.b w else (bitsL f.b w).reverse).sum = (bitsL f.b w).sum := by cases f.lo <;> simp
  unfold Fm.row Fm.parL
  simp only [e3, List.append_assoc, List.singleton_append, List.cons_append, List.nil_append]
theorem Fm.wordL_row {f : Fm} (hf : f.Ok) {r' : List Nat} (hr : ∀ x ∈ r', x ≤ 1) (r0 : Nat) (hl : r'.length + 1 = f.cnt) :
    f.wordL ((r0 :: r').flatMap fun x => List.replicate f.p (48 + x)) = if r0 = 0 ∧ r'.drop f.b = f.parL (r'.take f.b) ++ List.replicate f.s 1 then some (f.wordB (r'.take f.b)) else none := by
  have hb : (r'.take f.b).length = f.b := by
    rw [List.length_take]
    unfold Fm.cnt at hl
    omega
  split
  · rename_i h
    obtain ⟨rfl, h2⟩ := h
    refine (Fm.wordL_some hf).mpr ⟨Fm.wordB_lt hb fun x hx => hr x (List.mem_of_mem_take hx), ?_⟩
    unfold Fm.fr
    rw [Fm.row_wordB hb fun x hx => hr x (List.mem_of_mem_take hx)]
    congr 1
    rw [List.append_assoc, List.append_assoc, ← h2, List.take_append_drop]; rfl
  · rename_i h
    refine Fm.wordL_none hf fun w hw e => h ?_
    have e := reps_inj hf.p1 (by rw [List.length_cons, hl, Fm.row_len]; rfl) e
    obtain ⟨bits, hbl, hrow⟩ := f.row_cut w
    rw [hrow] at e
    have e1 := (List.cons.inj e).1
    have e2 := (List.cons.inj e).2
    refine ⟨e1, ?_⟩
    rw [e2, List.drop_left' hbl, List.take_left' hbl]
/-! ### the rows that samples are sent of -/
theorem whileF_k (gc : Sim.Env → M Bool) (gb : Sim.Env → M Fl) (k : Nat) (env : Sim.Env) : whileF gc gb (k + 1) env = seq (gc env) fun c => if c = true then seq (gb env) (loopM (whileF gc gb k)) else Sim.ret (.next env) := rfl
abbrev rowsC : Sim.Env → M Bool := testE (opE ltD (varE 3) (callB lenD (consE (varE 1) (nilE))))
theorem w1 : ("1" : Str) = txt [49] := by decide +kernel
theorem eqv_rows_nil (rs : List (Nat × Nat)) : neD (rowsD rs) (.tuple []) = some (.bool (!decide (rs = []))) := by
  unfold neD rowsD
  rw [if_pos (Nat.le_trans (Nat.min_le_right _ _) (by simp [PyData.depth, PyData.depthAll])), PyData.eqv]
  cases rs with
  | nil => rfl
  | cons r rs => simp [PyData.eqvAll]
/-! ### the laws' samples -/
structure Smp (f : Fm) (most : Nat) (rs : List (Nat × Nat)) : Prop where
  n1 : 1 ≤ rs.length
  n4 : rs.length ≤ 4
  g : ∀ r ∈ rs, r.1 ≤ 11
  w : ∀ r ∈ rs, r.2 < 2 ^ f.b
  len : (rs.flatMap f.part).length ≤ most
def SampJ (ns : List Int) (f : Fm) (most : Nat) (pre : List D) (env : Sim.Env) : Prop := ∃ (rs : List (Nat × Nat)) (a b c d : Option SV), rs.length ≤ pre.length ∧ (∀ r ∈ rs, r.1 ≤ 11) ∧ (∀ r ∈ rs, r.2 < 2 ^ f.b) ∧ (rs.flatMap f.part).length ≤ most ∧
  env = [some (.scr ns), some .town, some (.d f.d), some (.d (.int most)), some (.d (.str (txt (rs.flatMap f.part)))), some (.d (rowsD rs)), a, b, c, d, none]
theorem eq_rows_nil (rs : List (Nat × Nat)) : eqD (rowsD rs) (.tuple []) = some (.bool (decide (rs = []))) := by
  unfold eqD rowsD
  rw [if_pos (Nat.le_trans (Nat.min_le_right _ _) (by simp [PyData.depth, PyData.depthAll])), PyData.eqv]
  cases rs with
  | nil => rfl
  | cons r rs => simp [PyData.eqvAll]
theorem rows_le_len {f : Fm} (hL : 1 ≤ f.long) : ∀ rs : List (Nat × Nat), rs.length ≤ (rs.flatMap f.part).length
  | [] => Nat.le_refl _
  | r :: rs => by
    have ih := rows_le_len hL rs
    rw [List.flatMap_cons, List.length_append, Fm.part_len, List.length_cons]
    omega
theorem x0 : ("" : Str) = txt [] := by decide +kernel
theorem x1 : ("1" : Str) = txt [49] := by decide +kernel
theorem samples_ok (ns : List Int) {f : Fm} (hf : f.Ok) {most : Nat} (hm : 60 ≤ most) (hm2 : most ≤ 900) : Ok 14 (F__law_samples [.scr ns, .town, .d f.d, .d (.int most)]) fun d => ∃ (rs : List (Nat × Nat)) (rest : Nat), Smp f most rs ∧ rest ≤ 8 ∧ d = .tuple [.str (txt (f.sentL rs rest)), rowsD rs, .int rest] := by
  have hL := Fm.long_le hf
  have hp : 2 ^ f.b ≤ 2 ^ 6 := Nat.pow_le_pow_right (by decide) hf.b2
  have hp2 : 2 ^ 4 ≤ 2 ^ f.b := Nat.pow_le_pow_right (by decide) hf.b1
  have e1 : ixD f.d (.int 1) = some (.int f.b) := by unfold Fm.d; rw [ixD_t, atI_1]
  show Ok 14 (seq (g__law_samples [some (.scr ns), some .town, some (.d f.d), some (.d (.int most)), none, none, none, none, none, none, none]) finM) _
  unfold g__law_samples
  walk_at "sem"
  refine Ok.step (draw_ok ns 4 (by decide)) (by decide) fun d hd => ?_
  obtain ⟨v, rfl, v0, v1⟩ := hd
  obtain ⟨m, rfl⟩ : ∃ w : Nat, v = w := ⟨v.toNat, by omega⟩
  try walk_at "sem"
  rw [show (1 : Int) + (m : Int) = ((1 + m : Nat) : Int) by omega, rng1_nat (by omega)]
  walk_at "sem"
  refine Ok.step (for_ok (k := 3) (SampJ ns f most) ((List.range (1 + m)).map intD') [] _ ⟨[], none, none, none, none, Nat.le_refl _, (fun _ h => by cases h), (fun _ h => by cases h), Nat.zero_le _, by rw [x0]; rfl⟩ ?_) (by simp only [List.length_map, List.length_range]; omega) fun fl hfl => ?_
  · rintro pre d post env ⟨rs, a, b, c, e, hrl, hg, hw, hlen, rfl⟩ _
    refine ⟨_, rfl, ?_⟩
    walk_at "sem"
    refine Ok.step (pick_ok ns _ (by simp)) (by decide) fun x hx => ?_
    obtain ⟨k, hk1, hk2, rfl⟩ : ∃ k : Nat, 1 ≤ k ∧ k ≤ 12 ∧ x = .int k := by
      simp only [List.mem_cons, List.not_mem_nil, or_false] at hx
      rcases hx with rfl | rfl | rfl
      · exact ⟨1, by decide, by decide, rfl⟩
      · exact ⟨4, by decide, by decide, rfl⟩
      · exact ⟨12, by decide, by decide, rfl⟩
    try walk_at "sem"
    refine Ok.step (draw_ok ns k (by omega)) (by decide) fun x hx => ?_
    obtain ⟨v, rfl, v0, v1⟩ := hx
    obtain ⟨g, rfl⟩ : ∃ w : Nat, v = w := ⟨v.toNat, by omega⟩
    try walk_at "sem"
    rw [e1]
    walk_at "sem"
    rw [top_at hf.b1 hf.b2]
    walk_at "sem"
    refine Ok.step (draw_ok ns _ (by omega)) (by decide) fun x hx => ?_
    obtain ⟨v, rfl, v0, v1⟩ := hx
    obtain ⟨w, rfl⟩ : ∃ w : Nat, v = w := ⟨v.toNat, by omega⟩
    try walk_at "sem"
    rw [law_frame_eq hf]
    walk_at "sem"
    rw [x1, mul_bit (by omega)]
    walk_at "sem"
    rw [addD_txt (by rw [List.length_replicate, Fm.fr_len]; show g + f.long ≤ 1000000; omega)]
    rw [show List.replicate g 49 ++ f.fr w = f.part (g, w) from rfl]
    walk_at "sem"
    have hpl := f.part_len (g, w)
    rw [addD_txt (by rw [hpl]; show _ + (g + f.long) ≤ 1000000; omega)]
    walk_at "sem"
    have hfl : rs.flatMap f.part ++ f.part (g, w) = (rs ++ [(g, w)]).flatMap f.part := by simp
    rw [hfl]
    have hlen2 : ((rs ++ [(g, w)]).flatMap f.part).length = (rs.flatMap f.part).length + (g + f.long) := by rw [← hfl, List.length_append, hpl]
    rw [lenD_txt (show _ ≤ 1000000 by omega)]
    walk_at "sem"
    by_cases hfit : ((rs ++ [(g, w)]).flatMap f.part).length ≤ most
    · rw [decide_eq_true (show ((((rs ++ [(g, w)]).flatMap f.part).length : Nat) : Int) ≤ (most : Int) by omega)]
      walk_at "sem"
      rw [show addD (rowsD rs) (.tuple [.tuple [.int g, .int w]]) = some (rowsD (rs ++ [(g, w)])) by
        unfold rowsD
        rw [addD_tt (by rw [List.length_map]; show rs.length + 1 ≤ 1000000; have := rows_le_len hL.1 rs; omega), List.map_append]; rfl]
      try rw [addD_txt (by rw [hpl]; show _ + (g + f.long) ≤ 1000000; omega), hfl]
      walk_at "sem"
      refine Ok.ret ⟨_, rfl, rs ++ [(g, w)], _, _, _, _, ?_, ?_, ?_, hfit, rfl⟩
      · rw [List.length_append, List.length_append]; simp; omega
      · intro r hr
        rcases List.mem_append.mp hr with h | h
        · exact hg r h
        · rw [List.mem_singleton.mp h]; show g ≤ 11; omega
      · intro r hr
        rcases List.mem_append.mp hr with h | h
        · exact hw r h
        · rw [List.mem_singleton.mp h]; show w < 2 ^ f.b; omega
    · rw [decide_eq_false (show ¬ ((((rs ++ [(g, w)]).flatMap f.part).length : Nat) : Int) ≤ (most : Int) by omega)]
      walk_at "sem"
      refine Ok.ret ⟨_, rfl, rs, _, _, _, _, ?_, hg, hw, hlen, rfl⟩
      rw [List.length_append]; omega
  · obtain ⟨env', rfl, rs, a, b, c, e, hrl, hg, hw, hlen, rfl⟩ := hfl
    simp only [List.nil_append, List.length_map, List.length_range] at hrl
    walk_at "sem"
    rw [eq_rows_nil]
    walk_at "sem"
    have fin : ∀ (a b c e : Option SV) (rs : List (Nat × Nat)), Smp f most rs → Ok 1 (seq (F__law_draw [.scr ns, .town, .d (.int 9)]) fun x => seq (lift (mulD (.str "1") x)) fun y => seq (lift (addD (.str (txt (rs.flatMap f.part))) y)) fun z => Sim.ret (PyData.tuple [z, rowsD rs, x])) fun d => ∃ (rs : List (Nat × Nat)) (rest : Nat), Smp f most rs ∧ rest ≤ 8 ∧ d = .tuple [.str (txt (f.sentL rs rest)), rowsD rs, .int rest] := by
      intro a b c e rs hs
      have hlen := hs.len
      refine Ok.step (draw_ok ns 9 (by decide)) (by decide) fun x hx => ?_
      obtain ⟨v, rfl, v0, v1⟩ := hx
      obtain ⟨rest, rfl⟩ : ∃ w : Nat, v = w := ⟨v.toNat, by omega⟩
      rw [x1, mul_bit (by omega)]
      walk_at "sem"
      rw [addD_txt (by rw [List.length_replicate]; show _ ≤ 1000000; omega)]
      walk_at "sem"
      exact Ok.ret ⟨rs, rest, hs, by omega, rfl⟩
    by_cases h0 : rs = []
    · rw [decide_eq_true h0]
      walk_at "sem"
      rw [show F__law_frame [.d f.d, .d (.int 1)] = _ from law_frame_eq hf 1]
      walk_at "sem"
      have hfl : f.fr 1 = ([(0, 1)] : List (Nat × Nat)).flatMap f.part := by simp [Fm.part]
      rw [hfl]
      refine (fin none none none none [(0, 1)] ⟨Nat.le_refl _, (by decide), (fun r hr => by rw [List.mem_singleton.mp hr]; exact Nat.zero_le _), (fun r hr => by rw [List.mem_singleton.mp hr]; show 1 < 2 ^ f.b; omega), by rw [← hfl, Fm.fr_len]; show f.long ≤ most; omega⟩).mono (by omega) fun _ h => h
    · rw [decide_eq_false h0]
      walk_at "sem"
      exact (fin none none none none rs ⟨List.length_pos_iff.mpr h0, by omega, hg, hw, hlen⟩).mono (by omega) fun _ h => h
theorem Smp.sent_len {f : Fm} {most : Nat} {rs : List (Nat × Nat)} (h : Smp f most rs) {rest : Nat} : (f.sentL rs rest).length ≤ most + rest := by
  unfold Fm.sentL
  rw [List.length_append, List.length_replicate]
  have := h.len
  omega
theorem Smp.sent_pos {f : Fm} (hf : f.Ok) {most : Nat} {rs : List (Nat × Nat)} (h : Smp f most rs) {rest : Nat} : 6 ≤ (f.sentL rs rest).length := by
  unfold Fm.sentL
  rw [List.length_append]
  cases rs with
  | nil => have := h.n1; simp at this
  | cons r rs =>
    rw [List.flatMap_cons, List.length_append, Fm.part_len]
    have : 1 * 6 ≤ f.long := Nat.mul_le_mul hf.p1 (by have := hf.b1; have := hf.s1; split <;> omega)
    omega
theorem Smp.ne {f : Fm} {most : Nat} {rs : List (Nat × Nat)} (h : Smp f most rs) : rs ≠ [] := fun e => by have := h.n1; rw [e] at this; simp at this

/-! ### a loop over a list of things, by a word over what was done -/
theorem for_okq {γ : Type} {bnd : D → Sim.Env → Option Sim.Env} {gb : Sim.Env → M Fl} {k : Nat} (i : γ → D) (cs : List γ) (J : List γ → Sim.Env → Prop)
    (h : ∀ pre c post env, cs = pre ++ c :: post → J pre env → ∃ e1, bnd (i c) env = some e1 ∧ Ok k (gb e1) fun f => ∃ env', f = .next env' ∧ J (pre ++ [c]) env') : ∀ (post pre : List γ) (env : Sim.Env), cs = pre ++ post → J pre env →
    Ok (post.length * k) (forF bnd gb (post.map i) env) fun f => ∃ env', f = .next env' ∧ J cs env'
  | [], pre, env, e, j => Ok.ret ⟨env, rfl, by rw [e, List.append_nil]; exact j⟩
  | c :: post, pre, env, e, j => by
    obtain ⟨e1, h1, h2⟩ := h pre c post env e j
    simp only [List.map_cons, forF, h1, lift_s, seq_r]
    have ek : (c :: post).length * k = k + post.length * k := by simp only [List.length_cons]; rw [Nat.add_mul, Nat.one_mul, Nat.add_comm]
    rw [ek]
    refine Ok.seq h2 fun f hf => ?_
    obtain ⟨env', rfl, j'⟩ := hf
    exact for_okq i cs J h post (pre ++ [c]) env' (by rw [e, List.append_assoc]; rfl) j'
theorem for_okm {γ : Type} {bnd : D → Sim.Env → Option Sim.Env} {gb : Sim.Env → M Fl} {k : Nat} {env : Sim.Env} (i : γ → D) (cs : List γ) (J : List γ → Sim.Env → Prop) (h0 : J [] env)
    (h : ∀ pre c post env, cs = pre ++ c :: post → J pre env → ∃ e1, bnd (i c) env = some e1 ∧ Ok k (gb e1) fun f => ∃ env', f = .next env' ∧ J (pre ++ [c]) env') :
    Ok (cs.length * k) (forF bnd gb (cs.map i) env) fun f => ∃ env', f = .next env' ∧ J cs env' := for_okq i cs J h cs [] env rfl h0

/-! ### a listener's state -/
def upS (s : Sta) (k : Nat) (l : LS) : Sta := { s with ls := s.ls.set k l }
theorem upS_self {s : Sta} {k : Nat} {l : LS} (h : s.ls[k]? = some l) : upS s k l = s := by
  obtain ⟨n, ls⟩ := s
  have h : ls[k]? = some l := h
  show (⟨n, ls.set k l⟩ : Sta) = ⟨n, ls⟩
  congr 1
  apply List.ext_getElem?
  intro i
  by_cases e : k = i
  · subst e
    rw [List.getElem?_set_self (List.getElem?_eq_some_iff.mp h).1, h]
  · rw [List.getElem?_set_ne e]
theorem upS_up (s : Sta) (k : Nat) (l l' : LS) : upS (upS s k l) k l' = upS s k l' := by simp [upS, List.set_set]
theorem up_get {s : Sta} {k : Nat} (l : LS) (hk : k < s.ls.length) : (upS s k l).ls[k]? = some l := by simp [upS, hk]
section
variable {s : Sta} {k : Nat} (hk : k < s.ls.length) {β : Type}
include hk
theorem lisK_up {α : Type} (h : Nat → LS → M α) (l : LS) : lisK h (some (some (.lis k))) (upS s k l) = h k l (upS s k l) := by
  simp only [lisK, up_get l hk]
theorem fld_up (f : Fd) (env : Sim.Env) (g : D → M β) (l : LS) : seq (fldE 0 f (some (.lis k) :: env)) g (upS s k l) = g (l.get f) (upS s k l) := by
  simp only [seq, fldE, List.getElem?_cons_zero, lisK_up hk, Sim.ret]
theorem put_up (f : Fd) (d : D) (env : Sim.Env) (g : Fl → M β) (l : LS) (hd : noList d = true) : seq (putM f d env (some (some (.lis k)))) g (upS s k l) = g (.next env) (upS s k (l.put f d)) := by
  simp only [seq, putM, lisK_up hk, if_pos hd]
  exact congrArg (g (.next env)) (upS_up s k l _)
theorem past_up (fa : Sim.Env → M D) (env : Sim.Env) (g : Fl → M β) (l : LS) : seq (pastS 0 fa (some (.lis k) :: env)) g (upS s k l) = seq (fa (some (.lis k) :: env)) (fun d => seq (pastM d (some (.lis k) :: env) (some (some (.lis k)))) g) (upS s k l) := by
  rw [← Sim.seq_assoc]
  simp only [seq, pastS, List.getElem?_cons_zero, lisK_up hk]
theorem past_put (d : D) (env : Sim.Env) (g : Fl → M β) (l : LS) (hd : noList d = true) (hl : l.past.length < 1000000) : seq (pastM d env (some (some (.lis k)))) g (upS s k l) = g (.next env) (upS s k { l with past := l.past ++ [d] }) := by
  have e : (noList d = true ∧ l.past.length < big) = True := eq_true ⟨hd, hl⟩
  simp only [seq, pastM, lisK_up hk, e, if_true]
  exact congrArg (g (.next env)) (upS_up s k l _)
theorem meth_up (np : Nat) (F : List SV → M D) (fs : Sim.Env → M (List SV)) (env : Sim.Env) (g : D → M β) (l : LS) : seq (methL 0 np F fs (some (.lis k) :: env)) g (upS s k l) = seq (seq (fs (some (.lis k) :: env)) fun as => if as.length + 1 = np then F (.lis k :: as) else fault) g (upS s k l) := by
  simp only [seq, methL, List.getElem?_cons_zero, lisK_up hk]
end
theorem setF_0 (f : Fd) (fa : Sim.Env → M D) (x : Option SV) (env : Sim.Env) : setF 0 f fa (x :: env) = seq (fa (x :: env)) fun d => putM f d (x :: env) (some x) := rfl

/-! ### what a listener tells, in plain words -/
structure Li where
  t : Option Nat
  bs : List Nat
  td : List (Option Nat)
def Li.ls (f : Fm) (x : Li) (past : List D) : LS := ⟨f.d, optD x.t, .tuple (x.bs.map intD'), .tuple (x.td.map optD), past⟩
def Li.row (x : Li) (c : Nat) : D := .tuple [optD x.t, .tuple (x.bs.map intD'), .tuple (x.td.map optD), .str (txt [c])]
def Fm.tell (f : Fm) (bs : List Nat) : Option Nat := if bs.headD 1 = 0 ∧ bs.drop (1 + f.b) = f.parL ((bs.drop 1).take f.b) ++ List.replicate f.s 1 then some (f.wordB ((bs.drop 1).take f.b)) else none
def ansD : Option (Option Nat) → D
  | none => .none
  | some (some w) => .tuple [.str "word", .int w]
  | some none => .tuple [.str "fault"]
theorem noL_nats : ∀ l : List Nat, noLists (l.map intD') = true
  | [] => rfl
  | _ :: l => by rw [List.map_cons, noLists, noL_nats l]; rfl
theorem noL_opts : ∀ l : List (Option Nat), noLists (l.map optD) = true
  | [] => rfl
  | o :: l => by rw [List.map_cons, noLists, noL_opts l]; cases o <;> rfl
theorem noL_tn (l : List Nat) : noList (.tuple (l.map intD')) = true := by rw [noList]; exact noL_nats l
theorem noL_to (l : List (Option Nat)) : noList (.tuple (l.map optD)) = true := by rw [noList]; exact noL_opts l
theorem noL_o (o : Option Nat) : noList (optD o) = true := by cases o <;> rfl
theorem noL_row (x : Li) (c : Nat) : noList (x.row c) = true := by
  unfold Li.row
  rw [noList, noLists, noLists, noLists, noLists, noL_o, noL_tn, noL_to]; rfl
theorem form_five (f : Fm) (env : Sim.Env) : bndT [1, 2, 3, 4, 5] f.d env = some (setAll [1, 2, 3, 4, 5] [.int f.p, .int f.b, .str (ordT f.lo), .str (parT f.q), .int f.s] env) := rfl
theorem listD_t (xs : List D) : listD [.tuple xs] = some (.list xs) := rfl
theorem ended_eq {f : Fm} (hf : f.Ok) {s : Sta} {k : Nat} (hk : k < s.ls.length) (tk : D) (bs : List Nat) (td : List (Option Nat)) (past : List D) (htd : td.length < 900000) :
    F_L_ended [.lis k] (upS s k ⟨f.d, tk, .tuple (bs.map intD'), .tuple (td.map optD), past⟩) = if bs.length < f.cnt then .ok .none (upS s k ⟨f.d, tk, .tuple (bs.map intD'), .tuple (td.map optD), past⟩) else .ok (ansD (some (f.tell bs))) (upS s k (Li.ls f ⟨none, [], td ++ [f.tell bs]⟩ past)) := by
  have hpar := fun r => parity_eq hf r
  have hwo := fun r => word_of_eq (f := f) r
  have hC := Fm.cnt_le hf
  obtain ⟨p1, p2, b1, b2, q2, s1, s2⟩ := hf
  show seq (g_L_ended [some (.lis k), none, none, none, none, none, none, none, none]) finM (upS s k _) = _
  unfold g_L_ended
  walk_at "sem"
  rw [fld_up hk]
  simp only [LS.get, form_five, setAll]
  walk_at "sem"
  rw [fld_up hk]
  simp only [LS.get, lenD_t]
  walk_at "sem"
  rw [par_none q2]
  walk_at "sem"
  rw [show intD [.bool (decide (f.q ≠ 0))] = some (.int (if f.q = 0 then 0 else 1)) by by_cases h : f.q = 0 <;> simp [intD, h]]
  walk_at "sem"
  have hc : (1 : Int) + (f.b : Int) + (if f.q = 0 then 0 else 1) + (f.s : Int) = (f.cnt : Int) := by unfold Fm.cnt; split <;> omega
  rw [hc]
  by_cases hlt : bs.length < f.cnt
  · rw [decide_eq_true (show (bs.length : Int) < (f.cnt : Int) by omega), if_pos hlt]
    walk_at "sem"
    rfl
  · rw [decide_eq_false (show ¬ (bs.length : Int) < (f.cnt : Int) by omega), if_neg hlt]
    walk_at "sem"
    rw [fld_up hk]
    simp only [LS.get]
    walk_at "sem"
    rw [show (1 : Int) + (f.b : Int) = ((1 + f.b : Nat) : Int) by omega, show (1 : Int) = ((1 : Nat) : Int) from rfl, cutL_mid, Nat.add_sub_cancel_left, ← List.map_drop, ← List.map_take, listD_t]
    walk_at "sem"
    rw [fld_up hk]
    simp only [LS.get]
    obtain ⟨b0, br, rfl⟩ : ∃ b0 br, bs = b0 :: br := by
      cases bs with
      | nil => simp at hlt; omega
      | cons a r => exact ⟨a, r, rfl⟩
    rw [List.map_cons, show intD' b0 = PyData.int b0 from rfl]
    walk_at "sem"
    have fin : ∀ (gd : Bool) (x6 : Option SV) (w : Option Nat), (gd = true → ∃ n, w = some n) → (gd = false → w = none) →
      seq (setF 0 Fd.told (opE addD (fldE 0 Fd.told) (tupE (consE (varE 8) nilE))) [some (SV.lis k), some (SV.d (PyData.int f.p)), some (SV.d (PyData.int f.b)), some (SV.d (PyData.str (ordT f.lo))), some (SV.d (PyData.str (parT f.q))), some (SV.d (PyData.int f.s)), x6, some (SV.d (.bool gd)), some (SV.d (optD w))])
        (fun a => seq (thenM (thenS (setF 0 Fd.tick (cE PyData.none)) (thenS (setF 0 Fd.bits (tupE nilE)) (retS (ifE (testE (varE 7)) (tupE (consE (cE (PyData.str "word")) (consE (varE 8) nilE))) (tupE (consE (cE (PyData.str "fault")) nilE)))))) a) finM)
        (upS s k { form := f.d, tick := tk, bits := PyData.tuple (PyData.int b0 :: List.map intD' br), told := PyData.tuple (List.map optD td), past := past }) = R.ok (ansD (some w)) (upS s k (Li.ls f ⟨none, [], td ++ [w]⟩ past)) := by
      intro gd x6 w h1 h2
      rw [setF_0]
      walk_at "sem"
      rw [fld_up hk]
      simp only [LS.get]
      rw [addD_tt (by simp only [List.length_map, List.length_cons, List.length_nil, big]; omega)]
      walk_at "sem"
      rw [show td.map optD ++ [optD w] = (td ++ [w]).map optD by simp, put_up hk _ _ _ _ _ (noL_to _)]
      simp only [LS.put]
      walk_at "sem"
      rw [setF_0]
      walk_at "sem"
      rw [put_up hk _ _ _ _ _ rfl]
      simp only [LS.put]
      walk_at "sem"
      rw [setF_0]
      walk_at "sem"
      rw [put_up hk _ _ _ _ _ rfl]
      simp only [LS.put]
      walk_at "sem"
      cases gd with
      | true =>
        obtain ⟨m, rfl⟩ := h1 rfl
        walk_at "sem"
        rfl
      | false =>
        rw [h2 rfl]
        walk_at "sem"
        rfl
    have hh : ((b0 :: br).headD 1 = 0) = (b0 = 0) := rfl
    by_cases h0 : b0 = 0
    · subst h0
      walk_at "sem"
      rw [fld_up hk]
      simp only [LS.get]
      walk_at "sem"
      rw [cutL_from, Nat.add_comm 1 f.b, List.drop_succ_cons, ← List.map_drop, listD_t]
      walk_at "sem"
      rw [fld_up hk]
      simp only [LS.get]
      rw [hpar]
      walk_at "sem"
      rw [mul_ones (by omega)]
      walk_at "sem"
      rw [addD_ll (by
        simp only [List.length_map, List.length_replicate]
        split
        · simp [big]; omega
        · split <;> (simp [big]; omega))]
      walk_at "sem"
      rw [← List.map_append, eq_nats]
      rw [show (if f.q = 0 then [] else if f.q = 1 then [(List.take f.b (List.drop 1 (0 :: br))).sum % 2] else [1 - (List.take f.b (List.drop 1 (0 :: br))).sum % 2]) = f.parL (List.take f.b (List.drop 1 (0 :: br))) from rfl]
      walk_at "sem"
      by_cases h2 : List.drop f.b br = f.parL (List.take f.b (List.drop 1 (0 :: br))) ++ List.replicate f.s 1
      · rw [decide_eq_true h2]
        walk_at "sem"
        rw [fld_up hk]
        simp only [LS.get]
        rw [hwo]
        walk_at "sem"
        have e := fin true (some (SV.d (PyData.list (List.map intD' (List.take f.b (List.drop 1 (0 :: br))))))) (some (f.wordB (List.take f.b (List.drop 1 (0 :: br))))) (fun _ => ⟨_, rfl⟩) (fun z => by cases z)
        have et : f.tell (0 :: br) = some (f.wordB (List.take f.b (List.drop 1 (0 :: br)))) := by
          unfold Fm.tell
          rw [Nat.add_comm 1 f.b, List.drop_succ_cons, if_pos ⟨rfl, h2⟩]
        rw [et]
        exact e
      · rw [decide_eq_false h2]
        walk_at "sem"
        have e := fin false (some (SV.d (PyData.list (List.map intD' (List.take f.b (List.drop 1 (0 :: br))))))) none (fun z => by cases z) (fun _ => rfl)
        have et : f.tell (0 :: br) = none := by
          unfold Fm.tell
          rw [Nat.add_comm 1 f.b, List.drop_succ_cons, if_neg fun z => h2 z.2]
        rw [et]
        exact e
    · rw [decide_eq_false (show ¬ ((b0 : Int) = 0) by omega)]
      walk_at "sem"
      have e := fin false (some (SV.d (PyData.list (List.map intD' (List.take f.b (List.drop 1 (b0 :: br))))))) none (fun z => by cases z) (fun _ => rfl)
      have et : f.tell (b0 :: br) = none := by
        unfold Fm.tell
        rw [if_neg fun z => h0 z.1]
      rw [et]
      exact e
/-- a sample is heard -/
def Fm.hearL (f : Fm) (x : Li) (c : Nat) : Option (Option Nat) × Li :=
  if x.t = none ∧ c = 49 then (none, x) else
    if (if x.t.getD 0 % f.p = f.p / 2 then x.bs ++ [c - 48] else x.bs).length < f.cnt then (none, ⟨some (x.t.getD 0 + 1), if x.t.getD 0 % f.p = f.p / 2 then x.bs ++ [c - 48] else x.bs, x.td⟩)
    else (some (f.tell (if x.t.getD 0 % f.p = f.p / 2 then x.bs ++ [c - 48] else x.bs)), ⟨none, [], x.td ++ [f.tell (if x.t.getD 0 % f.p = f.p / 2 then x.bs ++ [c - 48] else x.bs)]⟩)
theorem notin_01 {c : Nat} (h : c = 48 ∨ c = 49) : notInD (.str (txt [c])) (.tuple [.str "0", .str "1"]) = some (.bool false) := by
  rcases h with rfl | rfl <;> rfl
theorem eq_one {c : Nat} (h : c = 48 ∨ c = 49) : eqD (.str (txt [c])) (.str "1") = some (.bool (decide (c = 49))) := by
  rcases h with rfl | rfl <;> rfl
theorem isN_opt (o : Option Nat) : isNoneD (optD o) = decide (o = none) := by cases o <;> rfl
/-- the rest of hear, from a tick on -/
theorem hear_tail {f : Fm} (hf : f.Ok) {s : Sta} {k : Nat} (hk : k < s.ls.length) (t : Nat) (bs : List Nat) (td : List (Option Nat)) (past : List D) {c : Nat} (hc : c = 48 ∨ c = 49) (h1 : bs.length ≤ 900000) (h2 : td.length < 900000) (z : Option SV) :
    seq (thenS (setS 2 (opE ixD (fldE 0 Fd.form) (cE (PyData.int 0)))) (thenS (ifS (testE (opE eqD (opE modD (fldE 0 Fd.tick) (varE 2)) (opE fdivD (varE 2) (cE (PyData.int 2))))) (setF 0 Fd.bits (opE addD (fldE 0 Fd.bits) (tupE (consE (callB intD (consE (varE 1) nilE)) nilE)))) nextS)
      (thenS (setF 0 Fd.tick (opE addD (fldE 0 Fd.tick) (cE (PyData.int 1)))) (retS (methL 0 1 F_L_ended nilE)))) [some (SV.lis k), some (SV.d (PyData.str (txt [c]))), z]) finM
      (upS s k ⟨f.d, .int t, .tuple (bs.map intD'), .tuple (td.map optD), past⟩) =
    if (if t % f.p = f.p / 2 then bs ++ [c - 48] else bs).length < f.cnt then .ok .none (upS s k (Li.ls f ⟨some (t + 1), if t % f.p = f.p / 2 then bs ++ [c - 48] else bs, td⟩ past))
    else .ok (ansD (some (f.tell (if t % f.p = f.p / 2 then bs ++ [c - 48] else bs)))) (upS s k (Li.ls f ⟨none, [], td ++ [f.tell (if t % f.p = f.p / 2 then bs ++ [c - 48] else bs)]⟩ past)) := by
  have hee := ended_eq hf hk
  have hfp : ixD f.d (.int 0) = some (.int f.p) := by unfold Fm.d; rw [ixD_t, atI_0]
  obtain ⟨p1, p2, b1, b2, q2, s1, s2⟩ := hf
  walk_at "sem"
  rw [fld_up hk]
  simp only [LS.get, hfp]
  walk_at "sem"
  rw [fld_up hk]
  simp only [LS.get]
  rw [modD_ii (by omega)]
  walk_at "sem"
  rw [fdivD_ii (by decide)]
  walk_at "sem"
  have e1 : ((t : Int) % (f.p : Int) = (f.p : Int) / 2) = (t % f.p = f.p / 2) := by
    apply propext
    have a1 : (t : Int) % (f.p : Int) = ((t % f.p : Nat) : Int) := by simp
    have a2 : (f.p : Int) / 2 = ((f.p / 2 : Nat) : Int) := by simp
    rw [a1, a2]; exact Int.ofNat_inj
  simp only [e1]
  have fin : ∀ (bs' : List Nat) (z' : Option SV), seq (setF 0 Fd.tick (opE addD (fldE 0 Fd.tick) (cE (PyData.int 1))) [some (SV.lis k), some (SV.d (PyData.str (txt [c]))), z']) (fun a => seq (thenM (retS (methL 0 1 F_L_ended nilE)) a) finM) (upS s k ⟨f.d, .int t, .tuple (bs'.map intD'), .tuple (td.map optD), past⟩) =
      if bs'.length < f.cnt then .ok .none (upS s k (Li.ls f ⟨some (t + 1), bs', td⟩ past)) else .ok (ansD (some (f.tell bs'))) (upS s k (Li.ls f ⟨none, [], td ++ [f.tell bs']⟩ past)) := by
    intro bs' z'
    rw [setF_0]
    walk_at "sem"
    rw [fld_up hk]
    simp only [LS.get]
    walk_at "sem"
    rw [put_up hk _ _ _ _ _ rfl]
    simp only [LS.put]
    walk_at "sem"
    rw [meth_up hk]
    walk_at "sem"
    have h := hee (.int ((t : Int) + 1)) bs' td past h2
    by_cases hl : bs'.length < f.cnt
    · rw [if_pos hl] at h ⊢
      simp only [seq, h]
      rfl
    · rw [if_neg hl] at h ⊢
      simp only [seq, h]
      rfl
  by_cases hm : t % f.p = f.p / 2
  · simp only [hm, decide_true, if_true]
    try walk_at "sem"
    rw [setF_0]
    walk_at "sem"
    rw [fld_up hk]
    simp only [LS.get]
    rw [int_sign hc]
    simp only [lift_s, seq_r]
    rw [addD_tt (by simp only [List.length_map, List.length_cons, List.length_nil, big]; omega)]
    walk_at "sem"
    rw [show bs.map intD' ++ [PyData.int ((c - 48 : Nat) : Int)] = (bs ++ [c - 48]).map intD' by simp [intD'], put_up hk _ _ _ _ _ (noL_tn _)]
    simp only [LS.put]
    walk_at "sem"
    exact fin (bs ++ [c - 48]) _
  · simp only [hm, decide_false, if_false, Bool.false_eq_true]
    try walk_at "sem"
    exact fin bs _
theorem hear_same (f : Fm) (x : Li) (c t : Nat) (past : List D) (s : Sta) (k : Nat) (ht : x.t.getD 0 = t) (hn : ¬ (x.t = none ∧ c = 49)) :
    (if (if t % f.p = f.p / 2 then x.bs ++ [c - 48] else x.bs).length < f.cnt then R.ok PyData.none (upS s k (Li.ls f ⟨some (t + 1), if t % f.p = f.p / 2 then x.bs ++ [c - 48] else x.bs, x.td⟩ past))
    else .ok (ansD (some (f.tell (if t % f.p = f.p / 2 then x.bs ++ [c - 48] else x.bs)))) (upS s k (Li.ls f ⟨none, [], x.td ++ [f.tell (if t % f.p = f.p / 2 then x.bs ++ [c - 48] else x.bs)]⟩ past))) = .ok (ansD (f.hearL x c).1) (upS s k ((f.hearL x c).2.ls f past)) := by
  subst ht
  unfold Fm.hearL
  rw [if_neg hn]
  generalize (if x.t.getD 0 % f.p = f.p / 2 then x.bs ++ [c - 48] else x.bs) = B
  by_cases h : B.length < f.cnt
  · rw [if_pos h, if_pos h]; rfl
  · rw [if_neg h, if_neg h]
theorem hear_eq {f : Fm} (hf : f.Ok) {s : Sta} {k : Nat} (hk : k < s.ls.length) (x : Li) (past : List D) {c : Nat} (hc : c = 48 ∨ c = 49) (h1 : x.bs.length ≤ 900000) (h2 : x.td.length < 900000) (h3 : past.length < 900000) :
    F_L_hear [.lis k, .d (.str (txt [c]))] (upS s k (x.ls f past)) = .ok (ansD (f.hearL x c).1) (upS s k ((f.hearL x c).2.ls f (past ++ [x.row c]))) := by
  have htl := fun (t : Nat) (z : Option SV) => hear_tail hf hk t x.bs x.td (past ++ [x.row c]) hc h1 h2 z
  rcases x with ⟨_ | t, bs, td⟩
  · show seq (g_L_hear [some (.lis k), some (.d (.str (txt [c]))), none]) finM (upS s k _) = _
    unfold g_L_hear
    walk_at "sem"
    rw [notin_01 hc]
    walk_at "sem"
    rw [past_up hk]
    walk_at "sem"
    rw [fld_up hk, fld_up hk, fld_up hk]
    simp only [LS.get, Li.ls, optD]
    rw [show PyData.tuple [.none, .tuple (bs.map intD'), .tuple (td.map optD), .str (txt [c])] = Li.row ⟨none, bs, td⟩ c from rfl]
    rw [past_put hk _ _ _ _ (noL_row _ c) (by show past.length < 1000000; omega)]
    walk_at "sem"
    rw [fld_up hk]
    simp only [LS.get]
    walk_at "sem"
    rw [eq_one hc]
    walk_at "sem"
    by_cases h49 : c = 49
    · rw [decide_eq_true h49]
      walk_at "sem"
      have e : f.hearL ⟨none, bs, td⟩ c = (none, ⟨none, bs, td⟩) := by unfold Fm.hearL; rw [if_pos ⟨rfl, h49⟩]
      rw [e]
      rfl
    · rw [decide_eq_false h49]
      walk_at "sem"
      rw [fld_up hk]
      simp only [LS.get]
      walk_at "sem"
      rw [setF_0]
      walk_at "sem"
      rw [put_up hk _ _ _ _ _ rfl]
      simp only [LS.put]
      rw [thenM_n]
      refine (htl 0 none).trans ?_
      exact hear_same f ⟨none, bs, td⟩ c 0 (past ++ [Li.row ⟨none, bs, td⟩ c]) s k rfl (fun z => h49 z.2)
  · show seq (g_L_hear [some (.lis k), some (.d (.str (txt [c]))), none]) finM (upS s k _) = _
    unfold g_L_hear
    walk_at "sem"
    rw [notin_01 hc]
    walk_at "sem"
    rw [past_up hk]
    walk_at "sem"
    rw [fld_up hk, fld_up hk, fld_up hk]
    simp only [LS.get, Li.ls, optD]
    rw [show PyData.tuple [.int (t : Int), .tuple (bs.map intD'), .tuple (td.map optD), .str (txt [c])] = Li.row ⟨some t, bs, td⟩ c from rfl]
    rw [past_put hk _ _ _ _ (noL_row _ c) (by show past.length < 1000000; omega)]
    walk_at "sem"
    rw [fld_up hk]
    simp only [LS.get]
    walk_at "sem"
    rw [fld_up hk]
    simp only [LS.get, isNoneD, Bool.false_eq_true, if_false]
    rw [seq_r, thenM_n]
    refine (htl t none).trans ?_
    exact hear_same f ⟨some t, bs, td⟩ c t (past ++ [Li.row ⟨some t, bs, td⟩ c]) s k rfl (fun z => by cases z.1)
/-! ### what a listener tells of samples -/
def Fm.lisL (f : Fm) : Nat → Li → List Nat → List (Nat × Option Nat)
  | _, _, [] => []
  | i, x, c :: l => (match (f.hearL x c).1 with | none => [] | some w => [(i, w)]) ++ f.lisL (i + 1) (f.hearL x c).2 l
def hrow (r : Nat × Option Nat) : D := .tuple [.int r.1, optD r.2]
def Fm.heard (f : Fm) (l : List Nat) : List (Nat × Option Nat) := f.lisL 0 ⟨none, [], []⟩ l
def enumF : Nat → List Nat → List D
  | _, [] => []
  | i, c :: l => .tuple [.int i, .str (txt [c])] :: enumF (i + 1) l
theorem enumF_len : ∀ (i : Nat) (l : List Nat), (enumF i l).length = l.length
  | _, [] => rfl
  | i, _ :: l => congrArg (· + 1) (enumF_len (i + 1) l)
theorem enumF_get : ∀ (l : List Nat) (i j : Nat), (enumF i l)[j]? = (l[j]?).map fun c => .tuple [.int ((i + j : Nat) : Int), .str (txt [c])]
  | [], _, _ => by simp [enumF]
  | c :: l, i, 0 => by simp [enumF]
  | c :: l, i, j + 1 => by
    rw [enumF, List.getElem?_cons_succ, enumF_get l (i + 1) j, List.getElem?_cons_succ, show i + 1 + j = i + (j + 1) by omega]
theorem enum_txt (l : List Nat) : enumD (signsOf (txt l)) = enumF 0 l := by
  apply List.ext_getElem?
  intro j
  rw [enumF_get, signs_txt]
  unfold enumD
  by_cases h : j < l.length
  · rw [List.getElem?_map, List.getElem?_range (by simpa using h), List.getElem?_eq_getElem h]
    simp [h]
  · rw [List.getElem?_eq_none (by simpa using h), List.getElem?_eq_none (by omega)]
    rfl
theorem hear_bs (f : Fm) (x : Li) (c : Nat) : (f.hearL x c).2.bs.length ≤ x.bs.length + 1 ∧ (f.hearL x c).2.td.length ≤ x.td.length + 1 := by
  unfold Fm.hearL
  by_cases h : x.t = none ∧ c = 49
  · rw [if_pos h]; exact ⟨by simp, by simp⟩
  · rw [if_neg h]
    have e : (if x.t.getD 0 % f.p = f.p / 2 then x.bs ++ [c - 48] else x.bs).length ≤ x.bs.length + 1 := by split <;> simp
    generalize (if x.t.getD 0 % f.p = f.p / 2 then x.bs ++ [c - 48] else x.bs) = B at e
    split
    · exact ⟨e, by simp⟩
    · exact ⟨by simp, by simp⟩
theorem enumSM_txt {l : List Nat} (h : l.length ≤ 1000000) : enumSM [.str (txt l)] = Sim.ret (enumF 0 l) := by
  show (if (txt l).length ≤ big then ret (enumD (signsOf (txt l))) else fault) = _
  rw [txt_len, if_pos (show l.length ≤ big from h), enum_txt]
theorem ans_isN (o : Option (Option Nat)) : isNoneD (ansD o) = o.isNone := by
  rcases o with _ | _ | _ <;> rfl
theorem heard_loop {f : Fm} (hf : f.Ok) {s : Sta} {k : Nat} (hk : k < s.ls.length) (a b : Option SV) : ∀ (l : List Nat) (i : Nat) (x : Li) (past : List D) (acc : List (Nat × Option Nat)) (z4 z5 z6 : Option SV), Bin l → x.bs.length + l.length ≤ 900000 → x.td.length + l.length < 900000 → past.length + l.length < 900000 → acc.length + l.length < 900000 →
    ∃ (y4 y5 y6 : Option SV) (x' : Li) (past' : List D), forF (bndT [4, 5]) (thenS (setS 6 (methL 2 2 F_L_hear (consA (varE 5) (nilE)))) (ifS (testE (notNE (varE 6))) (appS 3 (tupE (consE (varE 4) (consE (ifE (testE (opE eqD (opE ixD (varE 6) (cE (.int 0))) (cE (.str "word")))) (opE ixD (varE 6) (cE (.int 1))) (cE .none)) (nilE))))) (nextS))) (enumF i l)
      [a, b, some (.lis k), some (.own (acc.map hrow)), z4, z5, z6] (upS s k (x.ls f past)) = .ok (.next [a, b, some (.lis k), some (.own ((acc ++ f.lisL i x l).map hrow)), y4, y5, y6]) (upS s k (x'.ls f past'))
  | [], i, x, past, acc, z4, z5, z6, _, _, _, _, _ => ⟨z4, z5, z6, x, past, by simp [enumF, forF, Fm.lisL, Sim.ret]⟩
  | c :: l, i, x, past, acc, z4, z5, z6, hb, h1, h2, h3, h4 => by
    have hc := hb c List.mem_cons_self
    simp only [List.length_cons] at h1 h2 h3 h4
    have hh := hear_eq hf hk x past hc (by omega) (by omega) (by omega)
    have hbs := hear_bs f x c
    have ih := fun (acc' : List (Nat × Option Nat)) (z4 z5 z6 : Option SV) (h : acc'.length ≤ acc.length + 1) => heard_loop hf hk a b l (i + 1) (f.hearL x c).2 (past ++ [x.row c]) acc' z4 z5 z6 (fun y hy => hb y (List.mem_cons_of_mem _ hy)) (by omega) (by omega) (by simp; omega) (by omega)
    have step : ∀ g : D → M Fl, seq (methL 2 2 F_L_hear (consA (varE 5) nilE) [a, b, some (.lis k), some (.own (acc.map hrow)), some (.d (.int i)), some (.d (.str (txt [c]))), z6]) g (upS s k (x.ls f past)) = g (ansD (f.hearL x c).1) (upS s k ((f.hearL x c).2.ls f (past ++ [x.row c]))) := by
      intro g
      simp only [seq, methL, List.getElem?_cons_succ, List.getElem?_cons_zero, lisK_up hk, consA, varE, varM, nilE, Sim.ret, List.length_cons, List.length_nil, if_true, hh]
    rw [enumF, forF]
    rcases hr : (f.hearL x c).1 with _ | w
    · obtain ⟨y4, y5, y6, x', past', e⟩ := ih acc (some (.d (.int i))) (some (.d (.str (txt [c])))) (some (.d .none)) (by omega)
      refine ⟨y4, y5, y6, x', past', ?_⟩
      walk_at "sem"
      rw [step, hr]
      simp only [ansD]
      walk_at "sem"
      rw [e]
      simp only [Fm.lisL, hr, List.nil_append]
    · obtain ⟨y4, y5, y6, x', past', e⟩ := ih (acc ++ [(i, w)]) (some (.d (.int i))) (some (.d (.str (txt [c])))) (some (.d (ansD (some w)))) (by simp)
      refine ⟨y4, y5, y6, x', past', ?_⟩
      walk_at "sem"
      rw [step, hr]
      rcases w with _ | w
      · simp only [ansD]
        walk_at "sem"
        rw [show eqD (.str "fault") (.str "word") = some (.bool false) from rfl]
        walk_at "sem"
        rw [ite_lt_big (by omega)]
        walk_at "sem"
        rw [show acc.map hrow ++ [PyData.tuple [.int i, .none]] = (acc ++ [(i, none)]).map hrow by simp [hrow, optD]]
        simp only [ansD] at e
        rw [e]
        simp only [Fm.lisL, hr, List.append_assoc]
      · simp only [ansD]
        walk_at "sem"
        rw [show eqD (.str "word") (.str "word") = some (.bool true) from rfl]
        walk_at "sem"
        rw [ite_lt_big (by omega)]
        walk_at "sem"
        rw [show acc.map hrow ++ [PyData.tuple [.int i, .int w]] = (acc ++ [(i, some w)]).map hrow by simp [hrow, optD]]
        simp only [ansD] at e
        rw [e]
        simp only [Fm.lisL, hr, List.append_assoc]
theorem heard_of_eq {f : Fm} (hf : f.Ok) {l : List Nat} (hb : Bin l) (hl : l.length ≤ 800000) : F_heard_of [.d f.d, .d (.str (txt l))] = Sim.ret (.list ((f.heard l).map hrow)) := by
  funext s
  have hk : s.ls.length < (⟨s.n, s.ls ++ [newLS f.d]⟩ : Sta).ls.length := by simp
  have h0 : upS ⟨s.n, s.ls ++ [newLS f.d]⟩ s.ls.length (Li.ls f ⟨none, [], []⟩ []) = ⟨s.n, s.ls ++ [newLS f.d]⟩ := upS_self (by
    show (s.ls ++ [newLS f.d])[s.ls.length]? = _
    simp [newLS, Li.ls, optD])
  obtain ⟨y4, y5, y6, x', past', e⟩ := heard_loop hf hk (some (.d f.d)) (some (.d (.str (txt l)))) l 0 ⟨none, [], []⟩ [] [] none none none hb (by simp; omega) (by simp; omega) (by simp; omega) (by simp; omega)
  rw [h0] at e
  show seq (g_heard_of [some (.d f.d), some (.d (.str (txt l))), none, none, none, none, none]) finM s = _
  have key : (thenS (setN 3 (lstN (nilE))) (thenS (forS (rngE enumSM (consE (varE 1) (nilE))) (bndT [4, 5]) (thenS (setS 6 (methL 2 2 F_L_hear (consA (varE 5) (nilE)))) (ifS (testE (notNE (varE 6))) (appS 3 (tupE (consE (varE 4) (consE (ifE (testE (opE eqD (opE ixD (varE 6) (cE (.int 0))) (cE (.str "word")))) (opE ixD (varE 6) (cE (.int 1))) (cE .none)) (nilE))))) (nextS)))) (freezeS 3 (retS (varE 3)))))
      [some (.d f.d), some (.d (.str (txt l))), some (.lis s.ls.length), none, none, none, none] ⟨s.n, s.ls ++ [newLS f.d]⟩ = .ok (.ret (.list ((f.heard l).map hrow))) (upS ⟨s.n, s.ls ++ [newLS f.d]⟩ s.ls.length (x'.ls f past')) := by
    walk_at "sem"
    rw [enumSM_txt (by omega)]
    walk_at "sem"
    have e2 : seq (forF (bndT [4, 5]) (thenS (setS 6 (methL 2 2 F_L_hear (consA (varE 5) (nilE)))) (ifS (testE (notNE (varE 6))) (appS 3 (tupE (consE (varE 4) (consE (ifE (testE (opE eqD (opE ixD (varE 6) (cE (.int 0))) (cE (.str "word")))) (opE ixD (varE 6) (cE (.int 1))) (cE .none)) (nilE))))) (nextS))) (enumF 0 l)
      [some (.d f.d), some (.d (.str (txt l))), some (.lis s.ls.length), some (.own []), none, none, none]) (thenM (freezeS 3 (retS (varE 3)))) ⟨s.n, s.ls ++ [newLS f.d]⟩ = .ok (.ret (.list ((f.heard l).map hrow))) (upS ⟨s.n, s.ls ++ [newLS f.d]⟩ s.ls.length (x'.ls f past')) := by
      simp only [List.map_nil] at e
      simp only [seq, e]
      rw [thenM_n]
      walk_at "sem"
      rfl
    exact e2
  unfold g_heard_of newS
  simp only [varE, List.getElem?_cons_zero, varM, seq_r]
  unfold makeM
  rw [need_form_eq hf, seq_r, if_pos (show noList f.d = true from rfl)]
  simp only [seq, newL, List.set_cons_succ, List.set_cons_zero, key, isRet, if_true, finM, Sim.ret, upS]
  congr 1
  obtain ⟨n, ls⟩ := s
  simp

theorem heard_eq {f : Fm} (hf : f.Ok) {l : List Nat} (hb : Bin l) (h1 : 1 ≤ l.length) (hl : l.length ≤ 200) : F_heard [.d f.d, .d (.str (txt l))] = Sim.ret (.list ((f.heard l).map hrow)) := by
  show seq (g_heard [some (.d f.d), some (.d (.str (txt l)))]) finM = _
  unfold g_heard
  walk_at "sem"
  rw [need_form_eq hf]
  walk_at "sem"
  rw [need_samples_eq h1 hl hb]
  walk_at "sem"
  rw [heard_of_eq hf hb (by omega)]
  walk_at "sem"

/-! ### what is heard, frame by frame -/
def Fm.endT (f : Fm) : Nat := (f.cnt - 1) * f.p + f.p / 2
def Fm.mids (f : Fm) (l : List Nat) : List Nat := (List.range f.cnt).map fun k => l.getD (k * f.p + f.p / 2) 0 - 48
theorem lis_td (f : Fm) : ∀ (l : List Nat) (i : Nat) (t : Option Nat) (bs : List Nat) (td td' : List (Option Nat)), f.lisL i ⟨t, bs, td⟩ l = f.lisL i ⟨t, bs, td'⟩ l
  | [], _, _, _, _, _ => rfl
  | c :: l, i, t, bs, td, td' => by
    simp only [Fm.lisL, Fm.hearL]
    by_cases h : t = none ∧ c = 49
    · simp only [if_pos h]
      rw [lis_td f l (i + 1) t bs td td']
    · simp only [if_neg h]
      generalize (if t.getD 0 % f.p = f.p / 2 then bs ++ [c - 48] else bs) = B
      by_cases h2 : B.length < f.cnt
      · simp only [if_pos h2]
        rw [lis_td f l (i + 1) (some (t.getD 0 + 1)) B td td']
      · simp only [if_neg h2]
        rw [lis_td f l (i + 1) none [] (td ++ [f.tell B]) (td' ++ [f.tell B])]
def bitsU (f : Fm) (L : List Nat) (t : Nat) : List Nat := ((List.range t).filter fun j => decide (j % f.p = f.p / 2)).map fun j => L.getD j 0 - 48
theorem bitsU_succ (f : Fm) (L : List Nat) (t : Nat) : bitsU f L (t + 1) = if t % f.p = f.p / 2 then bitsU f L t ++ [L.getD t 0 - 48] else bitsU f L t := by
  unfold bitsU
  rw [List.range_succ, List.filter_append, List.map_append]
  by_cases h : t % f.p = f.p / 2
  · rw [if_pos h, List.filter_cons_of_pos (by simpa using h)]; rfl
  · rw [if_neg h, List.filter_cons_of_neg (by simpa using h)]; simp
theorem bitsU_len {f : Fm} (hf : f.Ok) (L : List Nat) : ∀ t, (bitsU f L t).length = (t + f.p - 1 - f.p / 2) / f.p
  | 0 => by
    have h1 := hf.p1; have h2 := hf.p2
    rw [Nat.div_eq_of_lt (by omega)]; rfl
  | t + 1 => by
    rw [bitsU_succ]
    have ih := bitsU_len hf L t
    have h1 := hf.p1; have h2 := hf.p2
    by_cases h : t % f.p = f.p / 2
    · rw [if_pos h, List.length_append, ih]
      simp only [List.length_cons, List.length_nil]
      generalize f.p = p at *
      match p, h1, h2 with
      | 1, _, _ => omega
      | 2, _, _ => omega
      | 3, _, _ => omega
      | 4, _, _ => omega
      | 5, _, _ => omega
      | 6, _, _ => omega
    · rw [if_neg h, ih]
      generalize f.p = p at *
      match p, h1, h2 with
      | 1, _, _ => omega
      | 2, _, _ => omega
      | 3, _, _ => omega
      | 4, _, _ => omega
      | 5, _, _ => omega
      | 6, _, _ => omega
theorem cnt_iff {f : Fm} (hf : f.Ok) (L : List Nat) (t : Nat) : (bitsU f L (t + 1)).length < f.cnt ↔ t < f.endT := by
  rw [bitsU_len hf, Nat.div_lt_iff_lt_mul hf.p1]
  have hc := Fm.cnt_le hf
  have h1 := hf.p1
  unfold Fm.endT
  have e : f.cnt * f.p = (f.cnt - 1) * f.p + f.p := by rw [← Nat.succ_mul]; congr 1; omega
  rw [e]
  omega
theorem bitsU_full {f : Fm} (hf : f.Ok) (L : List Nat) : bitsU f L (f.endT + 1) = f.mids L := by
  have h1 := hf.p1
  have hc := Fm.cnt_le hf
  have key : ∀ n, (List.range (n * f.p)).filter (fun j => decide (j % f.p = f.p / 2)) = (List.range n).map fun k => k * f.p + f.p / 2 := by
    intro n
    induction n with
    | zero => simp
    | succ n ih =>
      rw [Nat.succ_mul, List.range_add, List.filter_append, ih, List.range_succ, List.map_append]
      congr 1
      have e : ∀ j, j < f.p → (n * f.p + j) % f.p = j := fun j hj => by rw [Nat.mul_comm, Nat.mul_add_mod]; exact Nat.mod_eq_of_lt hj
      rw [List.filter_map]
      have e2 : (List.range f.p).filter ((fun j => decide (j % f.p = f.p / 2)) ∘ fun x => n * f.p + x) = (List.range f.p).filter (fun j => decide (j = f.p / 2)) := List.filter_congr fun j hj => by
        simp only [Function.comp]
        rw [e j (List.mem_range.mp hj)]
      rw [e2]
      have h2 := hf.p2
      generalize f.p = p at *
      match p, h1, h2 with
      | 1, _, _ => rfl
      | 2, _, _ => rfl
      | 3, _, _ => rfl
      | 4, _, _ => rfl
      | 5, _, _ => rfl
      | 6, _, _ => rfl
  unfold bitsU Fm.mids Fm.endT
  have hlast : (List.range ((f.cnt - 1) * f.p + f.p / 2 + 1)).filter (fun j => decide (j % f.p = f.p / 2)) = (List.range f.cnt).map fun k => k * f.p + f.p / 2 := by
    rw [Nat.add_assoc, List.range_add, List.filter_append, key]
    have e0 : List.range f.cnt = List.range (f.cnt - 1) ++ [f.cnt - 1] := by rw [← List.range_succ]; congr 1; omega
    rw [e0, List.map_append]
    congr 1
    have e : ∀ j, j < f.p → ((f.cnt - 1) * f.p + j) % f.p = j := fun j hj => by rw [Nat.mul_comm, Nat.mul_add_mod]; exact Nat.mod_eq_of_lt hj
    rw [List.filter_map]
    have hp2 : f.p / 2 + 1 ≤ f.p := by omega
    have e2 : (List.range (f.p / 2 + 1)).filter ((fun j => decide (j % f.p = f.p / 2)) ∘ fun x => (f.cnt - 1) * f.p + x) = (List.range (f.p / 2 + 1)).filter (fun j => decide (j = f.p / 2)) := List.filter_congr fun j hj => by
      simp only [Function.comp]
      rw [e j (by have := List.mem_range.mp hj; omega)]
    rw [e2]
    have h2 := hf.p2
    generalize f.p = p at *
    match p, h1, h2 with
    | 1, _, _ => rfl
    | 2, _, _ => rfl
    | 3, _, _ => rfl
    | 4, _, _ => rfl
    | 5, _, _ => rfl
    | 6, _, _ => rfl
  rw [hlast, List.map_map]
  rfl
/-- within a frame -/
theorem lis_in {f : Fm} (hf : f.Ok) (L : List Nat) (i : Nat) : ∀ (m t : Nat) (x : Option Nat), t + m = f.endT + 1 → 1 ≤ m → x.getD 0 = t → t ≤ L.length → (x = none → L.head? = some 48) →
    f.lisL (i + t) ⟨x, bitsU f L t, []⟩ (L.drop t) = if f.endT < L.length then (i + f.endT, f.tell (f.mids L)) :: f.lisL (i + f.endT + 1) ⟨none, [], []⟩ (L.drop (f.endT + 1)) else []
  | 0, t, x, h, h1, _, _, _ => absurd h1 (by decide)
  | m + 1, t, x, h, h1, hx, hl, hs => by
    by_cases hd : t < L.length
    · rw [List.drop_eq_getElem_cons hd]
      have hne : ¬ (x = none ∧ L[t] = 49) := by
        rintro ⟨rfl, e⟩
        have ht : t = 0 := hx.symm
        subst ht
        have := hs rfl
        rw [List.head?_eq_getElem?, List.getElem?_eq_getElem hd] at this
        have := Option.some.inj this
        omega
      simp only [Fm.lisL, Fm.hearL, if_neg hne, hx]
      have eb : (if t % f.p = f.p / 2 then bitsU f L t ++ [L[t] - 48] else bitsU f L t) = bitsU f L (t + 1) := by
        rw [bitsU_succ]
        have : L.getD t 0 = L[t] := by rw [List.getD_eq_getElem?_getD, List.getElem?_eq_getElem hd]; rfl
        rw [this]
      rw [eb]
      by_cases he : t < f.endT
      · rw [if_pos ((cnt_iff hf L t).mpr he)]
        simp only [List.nil_append]
        have ih := lis_in hf L i m (t + 1) (some (t + 1)) (by omega) (by omega) rfl (by omega) (fun z => by cases z)
        rw [show i + t + 1 = i + (t + 1) by omega]
        exact ih
      · have hte : t = f.endT := by omega
        rw [if_neg (fun z => he ((cnt_iff hf L t).mp z))]
        subst hte
        rw [if_pos hd, bitsU_full hf, lis_td f _ _ _ _ _ []]
        rfl
    · rw [List.drop_eq_nil_of_le (by omega), if_neg (by omega)]
      rfl
theorem lis_frame {f : Fm} (hf : f.Ok) (l : List Nat) (i : Nat) (td : List (Option Nat)) : f.lisL i ⟨none, [], td⟩ (48 :: l) = if f.endT < (48 :: l).length then (i + f.endT, f.tell (f.mids (48 :: l))) :: f.lisL (i + f.endT + 1) ⟨none, [], []⟩ ((48 :: l).drop (f.endT + 1)) else [] := by
  have h := lis_in hf (48 :: l) i (f.endT + 1) 0 none (by omega) (by omega) rfl (by omega) (fun _ => rfl)
  rw [lis_td f _ i none [] td []]
  exact h
theorem lis_one (f : Fm) (l : List Nat) (i : Nat) (td : List (Option Nat)) : f.lisL i ⟨none, [], td⟩ (49 :: l) = f.lisL (i + 1) ⟨none, [], []⟩ l := by
  have e : f.hearL ⟨none, [], td⟩ 49 = (none, ⟨none, [], td⟩) := by unfold Fm.hearL; rw [if_pos ⟨rfl, rfl⟩]
  rw [Fm.lisL, e]
  exact lis_td f l (i + 1) none [] td []
theorem lis_ones (f : Fm) (l : List Nat) : ∀ (k i : Nat) (td : List (Option Nat)), f.lisL i ⟨none, [], td⟩ (List.replicate k 49 ++ l) = f.lisL (i + k) ⟨none, [], []⟩ l
  | 0, i, td => lis_td f l i none [] td []
  | k + 1, i, td => by
    rw [List.replicate_succ, List.cons_append, lis_one, lis_ones f l k (i + 1) [], show i + 1 + k = i + (k + 1) by omega]
/-! ### of what is sent -/
theorem Fm.cnt_row (f : Fm) (w : Nat) : (f.row w).length = f.cnt := f.row_len w
theorem Fm.wordB_row {f : Fm} {w : Nat} (hw : w < 2 ^ f.b) : f.wordB (((f.row w).drop 1).take f.b) = w := by
  have e : ((f.row w).drop 1).take f.b = if f.lo then bitsL f.b w else (bitsL f.b w).reverse := by
    unfold Fm.row
    simp only [List.append_assoc, List.singleton_append, List.cons_append, List.nil_append, List.drop_succ_cons, List.drop_zero]
    exact List.take_left' (by split <;> simp [bits_len])
  rw [e]
  unfold Fm.wordB
  cases f.lo
  · simp [val_bits, Nat.mod_eq_of_lt hw]
  · simp [val_bits, Nat.mod_eq_of_lt hw]
theorem Fm.tell_row {f : Fm} {w : Nat} (hw : w < 2 ^ f.b) : f.tell (f.row w) = some w := by
  unfold Fm.tell
  obtain ⟨bits, hl, e⟩ := f.row_cut w
  have e1 : (f.row w).headD 1 = 0 := by rw [e]; rfl
  have e2 : ((f.row w).drop 1).take f.b = bits := by rw [e, List.drop_succ_cons, List.drop_zero, List.take_left' hl]
  have e3 : (f.row w).drop (1 + f.b) = f.parL bits ++ List.replicate f.s 1 := by
    rw [e, Nat.add_comm, List.drop_succ_cons, List.drop_left' hl]
  have hwb := Fm.wordB_row hw
  rw [e2] at hwb ⊢
  rw [if_pos ⟨e1, e3⟩, hwb]
theorem Fm.tell_some {f : Fm} (hf : f.Ok) {bs : List Nat} (hl : bs.length = f.cnt) (hb : ∀ x ∈ bs, x ≤ 1) {w : Nat} (h : f.tell bs = some w) : w < 2 ^ f.b ∧ f.row w = bs := by
  unfold Fm.tell at h
  split at h
  · rename_i hh
    have hw := (Option.some.inj h).symm
    have hc := Fm.cnt_le hf
    have hcb : f.b + 1 ≤ f.cnt := by unfold Fm.cnt; omega
    have hlen : ((bs.drop 1).take f.b).length = f.b := by rw [List.length_take, List.length_drop]; omega
    have hle : ∀ x ∈ (bs.drop 1).take f.b, x ≤ 1 := fun x hx => hb x (List.mem_of_mem_drop (List.mem_of_mem_take hx))
    refine ⟨by rw [hw]; exact Fm.wordB_lt hlen hle, ?_⟩
    rw [hw, Fm.row_wordB hlen hle, List.append_assoc, ← hh.2]
    cases bs with
    | nil => simp at hl; omega
    | cons a bs =>
      have ha : a = 0 := hh.1
      subst ha
      rw [List.drop_succ_cons, List.drop_zero, Nat.add_comm 1 f.b, List.drop_succ_cons, List.append_assoc, List.take_append_drop]
      rfl
  · cases h
theorem Fm.fr_get (f : Fm) (hf : f.Ok) {r : List Nat} (t : List Nat) {k j : Nat} (hk : k < r.length) (hj : j < f.p) : ((r.flatMap fun x => List.replicate f.p (48 + x)) ++ t).getD (k * f.p + j) 0 = 48 + r[k] := by
  induction r generalizing k with
  | nil => simp at hk
  | cons a r ih =>
    rw [List.flatMap_cons, List.append_assoc]
    cases k with
    | zero =>
      rw [List.getD_eq_getElem?_getD, List.getElem?_append_left (by simp; omega), List.getElem?_replicate, if_pos (by omega)]
      rfl
    | succ k =>
      have := ih (k := k) (by simpa using hk)
      rw [List.getD_eq_getElem?_getD, List.getElem?_append_right (by rw [List.length_replicate, Nat.succ_mul]; omega), List.length_replicate, show (k + 1) * f.p + j - f.p = k * f.p + j by rw [Nat.succ_mul]; omega, ← List.getD_eq_getElem?_getD, this]
      rfl
theorem Fm.mids_fr {f : Fm} (hf : f.Ok) (w : Nat) (t : List Nat) : f.mids (f.fr w ++ t) = f.row w := by
  have hl := f.cnt_row w
  have h1 := hf.p1
  unfold Fm.mids Fm.fr
  apply List.ext_getElem?
  intro k
  by_cases hk : k < f.cnt
  · rw [List.getElem?_map, List.getElem?_range hk]
    simp only [Option.map_some]
    rw [Fm.fr_get f hf t (by omega) (by omega), List.getElem?_eq_getElem (by omega)]
    simp
  · rw [List.getElem?_eq_none (by simp; omega), List.getElem?_eq_none (by omega)]
theorem Fm.end_lt {f : Fm} (hf : f.Ok) : f.endT < f.long := by
  have h1 := hf.p1
  have hc := Fm.cnt_le hf
  have e : f.long = (f.cnt - 1) * f.p + f.p := by
    show f.p * f.cnt = _
    rw [Nat.mul_comm, ← Nat.succ_mul]; congr 1; omega
  unfold Fm.endT
  rw [e]; omega
/-- behind the middle of the last stop a frame is rest -/
theorem Fm.fr_drop {f : Fm} (hf : f.Ok) (w : Nat) : (f.fr w).drop (f.endT + 1) = List.replicate (f.long - (f.endT + 1)) 49 := by
  have h1 := hf.p1
  have hs := hf.s1
  have hc := Fm.cnt_le hf
  have hend := Fm.end_lt hf
  have hlen : (f.fr w).length = f.long := f.fr_len w
  apply List.ext_getElem?
  intro j
  rw [List.getElem?_drop]
  by_cases hj : f.endT + 1 + j < f.long
  · rw [List.getElem?_replicate, if_pos (by omega), List.getElem?_eq_getElem (by omega)]
    congr 1
    have e : f.endT + 1 + j = (f.cnt - 1) * f.p + (f.p / 2 + 1 + j) := by unfold Fm.endT; omega
    have hlt : f.p / 2 + 1 + j < f.p := by
      have : f.long = (f.cnt - 1) * f.p + f.p := by
        show f.p * f.cnt = _
        rw [Nat.mul_comm, ← Nat.succ_mul]; congr 1; omega
      omega
    have hrl := f.cnt_row w
    have hg := Fm.fr_get f hf (r := f.row w) [] (k := f.cnt - 1) (j := f.p / 2 + 1 + j) (by omega) hlt
    rw [List.append_nil, ← e] at hg
    have hg' : (f.fr w).getD (f.endT + 1 + j) 0 = 48 + (f.row w)[f.cnt - 1]'(by omega) := hg
    rw [List.getD_eq_getElem?_getD, List.getElem?_eq_getElem (by omega)] at hg'
    simp only [Option.getD_some] at hg'
    rw [hg']
    have hlast : (f.row w)[f.cnt - 1]'(by omega) = 1 := by
      obtain ⟨bits, hl, er⟩ := f.row_cut w
      have e3 : f.row w = (0 :: (bits ++ f.parL bits)) ++ List.replicate f.s 1 := by rw [er]; simp
      have hl3 : (0 :: (bits ++ f.parL bits)).length = f.cnt - f.s := by
        have := congrArg List.length e3
        rw [List.length_append, List.length_replicate, hrl] at this
        omega
      have : (f.row w)[f.cnt - 1]? = some 1 := by
        rw [e3, List.getElem?_append_right (by omega), List.getElem?_replicate, if_pos (by have := congrArg List.length e3; rw [List.length_append, List.length_replicate, hrl] at this; omega)]
      rw [List.getElem?_eq_getElem (by omega)] at this
      exact Option.some.inj this
    rw [hlast]
  · rw [List.getElem?_eq_none (by omega), List.getElem?_eq_none (by rw [List.length_replicate]; omega)]
def Fm.tickS (f : Fm) : Nat → List (Nat × Nat) → List (Nat × Option Nat)
  | _, [] => []
  | i, r :: rs => (i + r.1 + f.endT, some r.2) :: f.tickS (i + r.1 + f.long) rs
theorem lis_rest (f : Fm) (k i : Nat) (td : List (Option Nat)) : f.lisL i ⟨none, [], td⟩ (List.replicate k 49) = [] := by
  have := lis_ones f [] k i td
  rw [List.append_nil] at this
  rw [this]; rfl
theorem lis_sent {f : Fm} (hf : f.Ok) (rest : Nat) : ∀ (rs : List (Nat × Nat)) (i : Nat), (∀ r ∈ rs, r.2 < 2 ^ f.b) → f.lisL i ⟨none, [], []⟩ (f.sentL rs rest) = f.tickS i rs
  | [], i, _ => by
    have : f.sentL [] rest = List.replicate rest 49 := by simp [Fm.sentL]
    rw [this, lis_rest]; rfl
  | r :: rs, i, h => by
    rw [sentL_cons, lis_ones]
    have hw := h r List.mem_cons_self
    obtain ⟨t, ht⟩ := Fm.fr_head f hf r.2
    have hend := Fm.end_lt hf
    have hlen : (f.fr r.2).length = f.long := f.fr_len r.2
    have e : f.fr r.2 ++ f.sentL rs rest = 48 :: (t ++ f.sentL rs rest) := by rw [ht]; rfl
    rw [e, lis_frame hf, ← e, if_pos (by rw [List.length_append, hlen]; omega), Fm.mids_fr hf, Fm.tell_row hw]
    rw [List.drop_append_of_le_length (by omega), Fm.fr_drop hf, lis_ones, show i + r.1 + f.endT + 1 + (f.long - (f.endT + 1)) = i + r.1 + f.long by omega, lis_sent hf rest rs (i + r.1 + f.long) fun q hq => h q (List.mem_cons_of_mem _ hq)]
    rfl

/-! ### ticks, later -/
theorem tickS_add (f : Fm) (a : Nat) : ∀ (rs : List (Nat × Nat)) (i : Nat), f.tickS (i + a) rs = (f.tickS i rs).map fun r => (r.1 + a, r.2)
  | [], _ => rfl
  | r :: rs, i => by
    have := tickS_add f a rs (i + r.1 + f.long)
    rw [Fm.tickS, Fm.tickS, List.map_cons, show i + a + r.1 + f.long = i + r.1 + f.long + a by omega, this]
    congr 2
    omega
theorem tickS_len (f : Fm) : ∀ (rs : List (Nat × Nat)) (i : Nat), (f.tickS i rs).length = rs.length
  | [], _ => rfl
  | _ :: rs, i => congrArg (· + 1) (tickS_len f rs _)
theorem tickS_words (f : Fm) : ∀ (rs : List (Nat × Nat)) (i : Nat), (f.tickS i rs).map (·.2) = rs.map fun r => some r.2
  | [], _ => rfl
  | r :: rs, i => by rw [Fm.tickS, List.map_cons, List.map_cons, tickS_words f rs]
theorem pl_hrows (rs : List (Nat × Option Nat)) : Pl 2 (.list (rs.map hrow)) := pl_list fun x hx => by
  obtain ⟨r, _, rfl⟩ := List.mem_map.mp hx
  refine pl_tuple fun y hy => ?_
  simp only [List.mem_cons, List.not_mem_nil, or_false] at hy
  rcases hy with rfl | rfl
  · exact pl_int _ _
  · rcases r.2 with _ | _
    · exact pl_none _
    · exact pl_int _ _
theorem pl_opts (rs : List (Option Nat)) : Pl 1 (.list (rs.map optD)) := pl_list fun x hx => by
  obtain ⟨r, _, rfl⟩ := List.mem_map.mp hx
  rcases r with _ | _
  · exact pl_none _
  · exact pl_int _ _

/-! ### drawn samples -/
theorem z0 : ("0" : Str) = txt [48] := by decide +kernel
theorem z1 : ("1" : Str) = txt [49] := by decide +kernel
theorem sign_of {x : D} (h : x ∈ [PyData.str "0", .str "1"]) : ∃ c, (c = 48 ∨ c = 49) ∧ x = .str (txt [c]) := by
  simp only [List.mem_cons, List.not_mem_nil, or_false] at h
  rcases h with rfl | rfl
  · exact ⟨48, .inl rfl, by rw [z0]⟩
  · exact ⟨49, .inr rfl, by rw [z1]⟩
theorem signs_of : ∀ {ds : List D}, (∀ x ∈ ds, ∃ c, (c = 48 ∨ c = 49) ∧ x = .str (txt [c])) → ∃ l : List Nat, Bin l ∧ l.length = ds.length ∧ ds = l.map fun c => .str (txt [c])
  | [], _ => ⟨[], (fun _ h => by cases h), rfl, rfl⟩
  | x :: ds, h => by
    obtain ⟨c, hc, rfl⟩ := h x List.mem_cons_self
    obtain ⟨l, hb, hl, rfl⟩ := signs_of (ds := ds) fun y hy => h y (List.mem_cons_of_mem _ hy)
    refine ⟨c :: l, fun a ha => ?_, by simp, rfl⟩
    rcases List.mem_cons.mp ha with rfl | ha
    · exact hc
    · exact hb a ha
theorem flat_single (l : List Nat) : (l.map fun c => [c]).flatten = l := by
  induction l with
  | nil => rfl
  | cons a l ih => rw [List.map_cons, List.flatten_cons, ih]; rfl
theorem join_signs {l : List Nat} (h : l.length ≤ 1000) : joinD (.str "") [.list (l.map fun c => .str (txt [c]))] = some (.str (txt l)) := by
  have := joinD_txt (ls := l.map fun c => [c]) (by
    rw [List.map_map]
    have : (List.map (List.length ∘ fun c : Nat => [c]) l).sum = l.length := by
      clear h
      induction l with
      | nil => rfl
      | cons a l ih => simp only [List.map_cons, List.sum_cons, ih, List.length_cons, Function.comp, List.length_singleton, List.length_nil]; omega
    rw [this]; show _ ≤ 1000000; omega)
  rw [List.map_map] at this
  rw [show ("" : Str) = txt [] by decide +kernel]
  rw [flat_single] at this
  exact this

theorem turn_bin {l : List Nat} (hb : Bin l) {c : Nat} (hc : c = 48 ∨ c = 49) (j : Nat) : Bin (l.take j ++ [c] ++ l.drop (j + 1)) := fun x hx => by
  rcases List.mem_append.mp hx with h | h
  · rcases List.mem_append.mp h with h | h
    · exact hb x (List.mem_of_mem_take h)
    · rw [List.mem_singleton.mp h]; exact hc
  · exact hb x (List.mem_of_mem_drop h)
theorem turn_len {l : List Nat} {c j : Nat} (h : j < l.length) : (l.take j ++ [c] ++ l.drop (j + 1)).length = l.length := by
  simp only [List.length_append, List.length_take, List.length_drop, List.length_singleton]; omega
theorem noisy_ok (ns : List Int) {f : Fm} (hf : f.Ok) : Ok 200 (F__law_noisy [.scr ns, .town, .d f.d]) fun d => ∃ l : List Nat, Bin l ∧ 1 ≤ l.length ∧ l.length ≤ 198 ∧ d = .str (txt l) := by
  show Ok 200 (seq (g__law_noisy [some (.scr ns), some .town, some (.d f.d), none, none, none, none]) finM) _
  unfold g__law_noisy
  walk_at "sem"
  refine Ok.step (draw_ok ns 6 (by decide)) (by decide) fun x hx => ?_
  obtain ⟨v, rfl, v0, v1⟩ := hx
  obtain ⟨m, rfl⟩ : ∃ w : Nat, v = w := ⟨v.toNat, by omega⟩
  try walk_at "sem"
  refine Ok.step (samples_ok ns hf (most := 190) (by decide) (by decide)) (by decide) fun d hd => ?_
  obtain ⟨rs, rest, hs, hrest, rfl⟩ := hd
  have hlen := hs.sent_len (rest := rest)
  have hpos := hs.sent_pos hf (rest := rest)
  have hbin := f.sent_bin rs rest
  try walk_at "sem"
  rw [rng1_nat (by omega)]
  walk_at "sem"
  refine Ok.step (for_ok (k := 2) (fun _ env => ∃ (l : List Nat) (a b : Option SV), Bin l ∧ 1 ≤ l.length ∧ l.length ≤ 198 ∧ env = [some (.scr ns), some .town, some (.d f.d), some (.d (.int m)), some (.d (.str (txt l))), a, b]) ((List.range m).map intD') [] _ ⟨f.sentL rs rest, none, none, hbin, by omega, by omega, rfl⟩ ?_) (by simp only [List.length_map, List.length_range]; omega) fun fl hfl => ?_
  · rintro pre d post env ⟨l, a, b, hb, h1, h2, rfl⟩ _
    refine ⟨_, rfl, ?_⟩
    walk_at "sem"
    rw [lenD_txt (show l.length ≤ 1000000 by omega)]
    walk_at "sem"
    refine Ok.step (draw_ok ns l.length (by omega)) (by decide) fun x hx => ?_
    obtain ⟨v, rfl, w0, w1'⟩ := hx
    obtain ⟨j, rfl⟩ : ∃ w : Nat, v = w := ⟨v.toNat, by omega⟩
    try walk_at "sem"
    rw [sliceD_txt (show l.length ≤ 1000000 by omega), cutL_to]
    try walk_at "sem"
    refine Ok.step (pick_ok ns _ (by simp)) (by decide) fun x hx => ?_
    obtain ⟨c, hc, rfl⟩ := sign_of hx
    try walk_at "sem"
    rw [addD_txt (by rw [List.length_take]; show min j l.length + [c].length ≤ 1000000; simp; omega)]
    try walk_at "sem"
    rw [show (j : Int) + 1 = ((j + 1 : Nat) : Int) by omega, sliceD_txt (show l.length ≤ 1000000 by omega), cutL_from]
    try walk_at "sem"
    rw [addD_txt (by have := turn_len (l := l) (c := c) (j := j) (by omega); rw [List.length_append] at this; rw [this]; show l.length ≤ 1000000; omega)]
    try walk_at "sem"
    exact Ok.ret ⟨_, rfl, _, _, _, turn_bin hb hc j, by rw [turn_len (by omega)]; exact h1, by rw [turn_len (by omega)]; exact h2, rfl⟩
  · obtain ⟨env', rfl, l, a, b, hb, h1, h2, rfl⟩ := hfl
    walk_at "sem"
    by_cases hm : (m : Int) = 5
    · rw [decide_eq_true hm]
      walk_at "sem"
      refine Ok.mono (k1 := 170) (P := fun d => ∃ l : List Nat, Bin l ∧ 1 ≤ l.length ∧ l.length ≤ 198 ∧ d = .str (txt l)) ?_ (by omega) fun _ h => h
      refine Ok.step (draw_ok ns 80 (by decide)) (by decide) fun x hx => ?_
      obtain ⟨v, rfl, w0, w1'⟩ := hx
      obtain ⟨j, rfl⟩ : ∃ w : Nat, v = w := ⟨v.toNat, by omega⟩
      try walk_at "sem"
      rw [show (1 : Int) + (j : Int) = ((1 + j : Nat) : Int) by omega, rng1_nat (by omega)]
      walk_at "sem"
      rw [ite_big (by omega)]
      refine Ok.step (lc_ok (k := 1) _ (fun x => x ∈ [PyData.str "0", .str "1"]) ((List.range (1 + j)).map intD') (fun d _ => rfl) (fun d _ => ?_)) (by simp only [List.length_map, List.length_range]; omega) fun r hr => ?_
      · walk_at "sem"
        exact pick_ok ns [PyData.str "0", .str "1"] (by simp)
      · obtain ⟨l', hb', hl', rfl⟩ := signs_of (ds := r) fun x hx => sign_of (hr.2 x hx)
        have hrl := hr.1
        simp only [List.length_map, List.length_range] at hrl
        try walk_at "sem"
        rw [join_signs (by omega)]
        try walk_at "sem"
        exact Ok.ret ⟨l', hb', by omega, by omega, rfl⟩
    · rw [decide_eq_false hm]
      walk_at "sem"
      exact Ok.ret ⟨l, hb, h1, h2, rfl⟩

/-! ### k28: texts cut, stripped, figures -/
abbrev cutA (c : Nat) (l : List Nat) : List (List Nat) := TL.spl [c] 0 [] l
theorem splitD_txt {l : List Nat} {c : Nat} (hc : c < 256) (hl : l.length ≤ 1000000) : splitD (.str (txt l)) [.str (txt [c])] = some (.list ((cutA c l).map fun w => .str (txt w))) := by
  show (if ((txt [c]).length == 0) = false ∧ (txt l).length ≤ big then some (PyData.list ((Txt.split (txt l) (txt [c])).map PyData.str)) else none) = _
  rw [txt_len, txt_len, if_pos ⟨rfl, hl⟩]
  have e : Txt.split (txt l) (txt [c]) = (cutA c l).map txt := by
    refine TL.map_tl_inj ?_
    have hk : (txt [c]).cps.all (· < 256) = true := by
      rw [← Array.all_toList]
      show ([c].all fun x => decide (x < 256)) = true
      simp [hc]
    have h := TL.split_spl (txt l) (txt [c]) (by rw [TL.tl, txt_cps]; exact List.cons_ne_nil _ _) (TL.kind_ok hk)
    rw [h, List.map_map]
    rw [show TL.tl (txt [c]) = [c] from txt_cps _, show TL.tl (txt l) = l from txt_cps _]
    rw [show (TL.tl ∘ txt) = (fun x => x) from funext fun x => txt_cps x, List.map_id']
  rw [e, List.map_map]
  rfl
theorem cut_len (c : Nat) : ∀ (l acc : List Nat), (TL.spl [c] 0 acc l).length = l.count c + 1
  | [], acc => by rw [TL.spl_nil]; rfl
  | x :: r, acc => by
    by_cases h : x = c
    · subst h
      rw [TL.spl_hit (show TL.pre [x] (x :: r) = true by simp [TL.pre])]
      show (TL.spl [x] 0 [] r).length + 1 = _
      rw [cut_len x r, List.count_cons_self]
    · rw [TL.spl_miss (show TL.pre [c] (x :: r) = false by simp [TL.pre, h]), cut_len c r, List.count_cons_of_ne h]
theorem cut_small (c : Nat) : ∀ (l acc : List Nat), ∀ w ∈ TL.spl [c] 0 acc l, w.length ≤ acc.length + l.length
  | [], acc => by rw [TL.spl_nil]; simp
  | x :: r, acc => by
    by_cases h : x = c
    · subst h
      rw [TL.spl_hit (show TL.pre [x] (x :: r) = true by simp [TL.pre])]
      intro w hw
      rcases List.mem_cons.mp hw with rfl | hw
      · simp
      · have := cut_small x r [] w hw
        simp only [List.length_nil, List.length_cons] at this ⊢
        omega
    · rw [TL.spl_miss (show TL.pre [c] (x :: r) = false by simp [TL.pre, h])]
      intro w hw
      have := cut_small c r (acc ++ [x]) w hw
      simp only [List.length_append, List.length_cons, List.length_nil] at this ⊢
      omega
theorem cut_join {c : Nat} {ps : List (List Nat)} (hne : ps ≠ []) (h : ∀ p ∈ ps, c ∉ p) : cutA c (TL.joinL [c] ps) = ps := TL.spl_join hne h
theorem strs_txt (ls : List (List Nat)) : strsOf (ls.map fun l => PyData.str (txt l)) = some (ls.map txt) := by
  induction ls with
  | nil => rfl
  | cons l ls ih => simp [strsOf, ih]
theorem joinD_10 {ls : List (List Nat)} (h : (ls.map List.length).sum + ls.length ≤ 1000000) : joinD (.str (txt [10])) [.list (ls.map fun l => .str (txt l))] = some (.str (txt (TL.joinL [10] ls))) := by
  have hl : ((ls.map txt).map (·.length)).sum = (ls.map List.length).sum := by
    rw [List.map_map]; exact congrArg List.sum (List.map_congr_left fun l _ => txt_len l)
  show (strsOf (ls.map fun l => PyData.str (txt l))).bind _ = _
  rw [strs_txt]
  show (if ((ls.map txt).map (·.length)).sum + (ls.map txt).length * (txt [10]).length ≤ big then some (PyData.str (Txt.join (txt [10]) (ls.map txt))) else none) = _
  rw [hl, txt_len, List.length_map, List.length_singleton, Nat.mul_one, if_pos (show _ ≤ big from h)]
  congr 2
  rw [TL.join_eq]
  refine TL.ext_tl ?_
  rw [TL.tl_join, List.map_map, show (TL.tl ∘ txt) = (fun x => x) from funext fun x => txt_cps x, List.map_id', show TL.tl (txt [10]) = [10] from txt_cps _]
  exact (txt_cps _).symm
theorem join_len : ∀ ls : List (List Nat), (TL.joinL [10] ls).length ≤ (ls.map List.length).sum + ls.length
  | [] => Nat.zero_le _
  | [p] => by simp [TL.joinL]
  | p :: q :: r => by
    have := join_len (q :: r)
    simp only [TL.joinL, List.length_append, List.map_cons, List.sum_cons, List.length_cons, List.length_nil] at this ⊢
    omega
theorem join_count (c : Nat) : ∀ ls : List (List Nat), ls ≠ [] → (∀ p ∈ ls, c ∉ p) → (TL.joinL [c] ls).count c + 1 = ls.length
  | ls, hne, h => by
    have e := congrArg List.length (cut_join hne h)
    rw [cut_len] at e
    exact e
/-! figures -/
def figB (c : Nat) : Bool := decide (48 ≤ c) && decide (c ≤ 57)
theorem figs_cps : ("0123456789" : Str) = txt [48, 49, 50, 51, 52, 53, 54, 55, 56, 57] := by decide +kernel
theorem figs_has (c : Nat) : (txt [48, 49, 50, 51, 52, 53, 54, 55, 56, 57]).cps.contains c = figB c := by
  have e : (txt [48, 49, 50, 51, 52, 53, 54, 55, 56, 57]).cps.contains c = [48, 49, 50, 51, 52, 53, 54, 55, 56, 57].contains c := by simp [txt]
  rw [e]
  by_cases h : 48 ≤ c ∧ c ≤ 57
  · have : c = 48 ∨ c = 49 ∨ c = 50 ∨ c = 51 ∨ c = 52 ∨ c = 53 ∨ c = 54 ∨ c = 55 ∨ c = 56 ∨ c = 57 := by omega
    rcases this with rfl | rfl | rfl | rfl | rfl | rfl | rfl | rfl | rfl | rfl <;> rfl
  · have hf : figB c = false := by
      unfold figB
      rw [Bool.and_eq_false_iff, decide_eq_false_iff_not, decide_eq_false_iff_not]
      omega
    rw [hf]
    rw [Bool.eq_false_iff]
    intro z
    simp only [List.contains_iff_mem, List.mem_cons, List.not_mem_nil, or_false] at z
    omega
theorem take_while_lt {p : Nat → Bool} : ∀ {l : List Nat}, (∃ x ∈ l, p x = false) → (l.takeWhile p).length < l.length
  | [], h => by obtain ⟨x, hx, _⟩ := h; cases hx
  | y :: l, h => by
    rw [List.takeWhile_cons]
    by_cases q : p y = true
    · rw [if_pos q]
      have h2 : ∃ x ∈ l, p x = false := by
        obtain ⟨x, hx, e⟩ := h
        rcases List.mem_cons.mp hx with rfl | hx
        · rw [q] at e; cases e
        · exact ⟨x, hx, e⟩
      have := take_while_lt h2
      simp only [List.length_cons]; omega
    · rw [if_neg q]; simp
theorem drop_while_bad {p : Nat → Bool} : ∀ {l : List Nat}, (∃ x ∈ l, p x = false) → ∃ x ∈ l.drop (l.takeWhile p).length, p x = false
  | [], h => by obtain ⟨x, hx, _⟩ := h; cases hx
  | y :: l, h => by
    rw [List.takeWhile_cons]
    by_cases q : p y = true
    · rw [if_pos q]
      have h2 : ∃ x ∈ l, p x = false := by
        obtain ⟨x, hx, e⟩ := h
        rcases List.mem_cons.mp hx with rfl | hx
        · rw [q] at e; cases e
        · exact ⟨x, hx, e⟩
      exact drop_while_bad h2
    · rw [if_neg q]; exact h
theorem tw_self {p : Nat → Bool} : ∀ {l : List Nat}, (∀ x ∈ l, p x = true) → l.takeWhile p = l
  | [], _ => rfl
  | y :: l, h => by
    rw [List.takeWhile_cons, if_pos (h y List.mem_cons_self), tw_self fun x hx => h x (List.mem_cons_of_mem _ hx)]
theorem strip_figs (w : List Nat) : decide (Txt.stripChars (txt w) (txt [48, 49, 50, 51, 52, 53, 54, 55, 56, 57]) = txt []) = w.all figB := by
  unfold Txt.stripChars
  rw [show (txt [48, 49, 50, 51, 52, 53, 54, 55, 56, 57]).cps.contains = figB from funext figs_has, PyProof.Rows.stripBy_eq]
  have hlo : stripLo figB true (txt w) = (w.takeWhile figB).length := by unfold stripLo; rw [txt_cps]; rfl
  have hhi : stripHi figB true (txt w) (w.takeWhile figB).length = w.length - ((w.drop (w.takeWhile figB).length).reverse.takeWhile figB).length := by unfold stripHi; rw [txt_cps, txt_len]; rfl
  rw [hlo, hhi]
  have hlen : ∀ i j, j ≤ w.length → (Builtin.Str.strSub (txt w) i j).length = j - i := fun i j h => by
    show ((txt w).cps.extract i j).size = _
    rw [Array.size_extract, show (txt w).cps.size = w.length from txt_len w, Nat.min_eq_left h]
  by_cases hb : ∃ x ∈ w, figB x = false
  · have h1 : w.all figB = false := by
      obtain ⟨x, hx, e⟩ := hb
      rw [List.all_eq_false]
      exact ⟨x, hx, by rw [e]; exact Bool.false_ne_true⟩
    rw [h1]
    refine decide_eq_false fun z => ?_
    have hl := congrArg Str.length z
    rw [hlen _ _ (Nat.sub_le _ _), txt_len] at hl
    have h2 := take_while_lt hb
    obtain ⟨x, hx, e⟩ := drop_while_bad hb
    have h3 : ((w.drop (w.takeWhile figB).length).reverse.takeWhile figB).length < (w.drop (w.takeWhile figB).length).reverse.length := take_while_lt ⟨x, List.mem_reverse.mpr hx, e⟩
    rw [List.length_reverse, List.length_drop] at h3
    simp only [List.length_nil] at hl
    omega
  · have h1 : w.all figB = true := by
      rw [List.all_eq_true]
      intro x hx
      cases q : figB x with
      | true => rfl
      | false => exact absurd ⟨x, hx, q⟩ hb
    rw [h1]
    refine decide_eq_true ?_
    have h2 : w.takeWhile figB = w := tw_self (List.all_eq_true.mp h1)
    have hl := hlen (w.takeWhile figB).length (w.length - ((w.drop (w.takeWhile figB).length).reverse.takeWhile figB).length) (Nat.sub_le _ _)
    rw [h2, Nat.sub_eq_zero_of_le (Nat.sub_le _ _)] at hl
    rw [h2]
    refine TL.ext_tl ?_
    rw [show TL.tl (txt []) = [] from txt_cps []]
    refine List.length_eq_zero_iff.mp ?_
    rw [← TL.len_tl]; exact hl
theorem stripD_txt {w : List Nat} (h : w.length ≤ 1000000) : ∃ z, stripD (.str (txt w)) [.str "0123456789"] = some (.str z) ∧ decide (z = txt []) = w.all figB := by
  refine ⟨_, ?_, strip_figs w⟩
  rw [figs_cps]
  show (if (txt w).length ≤ big then _ else _) = _
  rw [txt_len, if_pos (show _ ≤ big from h)]
def decL (n : Nat) : List Nat := if n < 10 then [48 + n] else if n < 100 then [48 + n / 10, 48 + n % 10] else [48 + n / 100, 48 + n / 10 % 10, 48 + n % 10]
theorem int_decL : ∀ n : Nat, n < 1000 → PySem.intText? (txt (decL n)) = some (n : Int) := by decide +kernel
theorem str_decL : ∀ n : Nat, n < 200 → (toString (n : Int) : Str) = txt (decL n) := by decide +kernel
theorem decL_fig {n : Nat} (h : n < 1000) : (decL n).all figB = true ∧ 1 ≤ (decL n).length ∧ (decL n).length ≤ 3 ∧ (1 < (decL n).length → (decL n).head? ≠ some 48) := by
  unfold decL
  have e : ∀ k, k < 10 → figB (48 + k) = true := fun k hk => by unfold figB; rw [Bool.and_eq_true, decide_eq_true_eq, decide_eq_true_eq]; omega
  split
  · exact ⟨by simp [e n (by omega)], by simp, by simp, by simp⟩
  · split
    · exact ⟨by simp [e (n / 10) (by omega), e (n % 10) (by omega)], by simp, by simp, fun _ => by simp; omega⟩
    · exact ⟨by simp [e (n / 100) (by omega), e (n / 10 % 10) (by omega), e (n % 10) (by omega)], by simp, by simp, fun _ => by simp; omega⟩
theorem fig_decL {w : List Nat} (h1 : w.all figB = true) (h2 : 1 ≤ w.length) (h3 : w.length ≤ 3) (h4 : 1 < w.length → w.head? ≠ some 48) : ∃ n < 1000, w = decL n := by
  have hf : ∀ c ∈ w, 48 ≤ c ∧ c ≤ 57 := fun c hc => by
    have := List.all_eq_true.mp h1 c hc
    unfold figB at this
    rw [Bool.and_eq_true, decide_eq_true_eq, decide_eq_true_eq] at this
    exact this
  match w, h2, h3, h4, hf with
  | [a], _, _, _, hf =>
    have ha := hf a (by simp)
    refine ⟨a - 48, by omega, ?_⟩
    unfold decL
    rw [if_pos (by omega)]
    congr 1; omega
  | [a, b], _, _, h4, hf =>
    have ha := hf a (by simp)
    have hb := hf b (by simp)
    have h4 := h4 (by simp)
    have h4 : a ≠ 48 := fun z => h4 (by rw [z]; rfl)
    refine ⟨(a - 48) * 10 + (b - 48), by omega, ?_⟩
    unfold decL
    rw [if_neg (by omega), if_pos (by omega)]
    congr 1
    · omega
    · congr 1; omega
  | [a, b, c], _, _, h4, hf =>
    have ha := hf a (by simp)
    have hb := hf b (by simp)
    have hc := hf c (by simp)
    have h4 := h4 (by simp)
    have h4 : a ≠ 48 := fun z => h4 (by rw [z]; rfl)
    refine ⟨(a - 48) * 100 + (b - 48) * 10 + (c - 48), by omega, ?_⟩
    unfold decL
    rw [if_neg (by omega), if_neg (by omega)]
    congr 1
    · omega
    · congr 1
      · omega
      · congr 1; omega
theorem decL_inj {m n : Nat} (hm : m < 1000) (hn : n < 1000) (h : decL m = decL n) : m = n := by
  have h1 := int_decL m hm
  rw [h, int_decL n hn] at h1
  have := Option.some.inj h1
  omega
def wordT : Option Nat → List Nat
  | none => [102, 97, 117, 108, 116]
  | some n => decL n
theorem decL_no {n c : Nat} (h : n < 1000) (hc : figB c = false) : c ∉ decL n := fun z => by
  have := List.all_eq_true.mp (decL_fig h).1 c z
  rw [hc] at this; cases this
theorem decL_fault {n : Nat} (h : n < 1000) : decL n ≠ [102, 97, 117, 108, 116] := fun z => by
  have := (decL_fig h).2.2.1
  rw [z] at this
  simp at this

/-! ### k28: a number, a row -/
theorem str_em : ("" : Str) = txt [] := by decide +kernel
theorem str_sp : (" " : Str) = txt [32] := by decide +kernel
theorem str_nl : ("\n" : Str) = txt [10] := by decide +kernel
theorem str_zero : ("0" : Str) = txt [48] := by decide +kernel
theorem str_fault : ("fault" : Str) = txt [102, 97, 117, 108, 116] := by decide +kernel
theorem number_bad {w : List Nat} {most : Nat} (hm : most < 1000) (hw : w.length ≤ 1000000) (h : ∀ n, n ≤ most → w ≠ decL n) : F_number_of [.d (.str (txt w)), .d (.int (most : Int))] = raiseM 7 := by
  show seq (g_number_of [some (.d (.str (txt w))), some (.d (.int (most : Int)))]) finM = _
  unfold g_number_of
  walk_at "sem"
  rw [lenD_txt (show _ ≤ big from hw)]
  walk_at "sem"
  by_cases h1 : 1 ≤ w.length
  · rw [decide_eq_true (show (1 : Int) ≤ (w.length : Int) by omega)]
    walk_at "sem"
    by_cases h2 : w.length ≤ 3
    · rw [decide_eq_true (show (w.length : Int) ≤ 3 by omega)]
      walk_at "sem"
      obtain ⟨z, hz, ez⟩ := stripD_txt hw
      rw [hz]
      walk_at "sem"
      rw [neD_ss, str_em, ez]
      walk_at "sem"
      by_cases h3 : w.all figB = true
      · rw [h3]
        walk_at "sem"
        by_cases h4 : 1 < w.length → w.head? ≠ some 48
        · obtain ⟨n, hn, rfl⟩ := fig_decL h3 h1 h2 h4
          have hnm : most < n := by
            refine Nat.lt_of_not_le fun z => h n z rfl
          have hi : intD [.str (txt (decL n))] = some (.int n) := by
            show (if (txt (decL n)).length ≤ 640 then (PySem.intText? (txt (decL n))).map PyData.int else none) = _
            rw [if_pos (by rw [txt_len]; omega), int_decL n hn]; rfl
          by_cases h5 : 1 < (decL n).length
          · rw [decide_eq_true (show (1 : Int) < ((decL n).length : Int) by omega)]
            walk_at "sem"
            obtain ⟨c, r, e⟩ : ∃ c r, decL n = c :: r := by
              cases q : decL n with
              | nil => rw [q] at h1; simp at h1
              | cons c r => exact ⟨c, r, rfl⟩
            have e0 : ixD (.str (txt (decL n))) (.int 0) = some (.str (txt [c])) := by
              rw [ixD_txt (show _ ≤ big from hw), e, atI_0]; rfl
            have hc : c ≠ 48 := fun z => h4 h5 (by rw [e, z]; rfl)
            rw [e0]
            walk_at "sem"
            rw [str_zero, eqD_txt, decide_eq_false (fun z => hc (List.cons.inj z).1)]
            walk_at "sem"
            rw [hi]
            walk_at "sem"
            rw [decide_eq_true (show (most : Int) < (n : Int) by omega)]
            walk_at "sem"
          · rw [decide_eq_false (show ¬ (1 : Int) < ((decL n).length : Int) by omega)]
            walk_at "sem"
            rw [hi]
            walk_at "sem"
            rw [decide_eq_true (show (most : Int) < (n : Int) by omega)]
            walk_at "sem"
        · have h5 : 1 < w.length := Nat.lt_of_not_le fun z => h4 fun y => by omega
          have h6 : w.head? = some 48 := by
            by_cases q : w.head? = some 48
            · exact q
            · exact absurd (fun _ => q) h4
          rw [decide_eq_true (show (1 : Int) < (w.length : Int) by omega)]
          walk_at "sem"
          have e0 : ixD (.str (txt w)) (.int 0) = some (.str (txt [48])) := by
            rw [ixD_txt (show _ ≤ big from hw)]
            cases w with
            | nil => cases h6
            | cons c r => cases h6; rw [atI_0]; rfl
          rw [e0]
          walk_at "sem"
          rw [str_zero, eqD_txt, decide_eq_true rfl]
          walk_at "sem"
      · rw [Bool.not_eq_true] at h3
        rw [h3]
        walk_at "sem"
    · rw [decide_eq_false (show ¬ (w.length : Int) ≤ 3 by omega)]
      walk_at "sem"
  · rw [decide_eq_false (show ¬ (1 : Int) ≤ (w.length : Int) by omega)]
    walk_at "sem"
theorem int_txt {n : Nat} (hn : n < 1000) : intD [.str (txt (decL n))] = some (.int n) := by
  have h2 := (decL_fig hn).2.2.1
  show (if (txt (decL n)).length ≤ 640 then (PySem.intText? (txt (decL n))).map PyData.int else none) = _
  rw [if_pos (by rw [txt_len]; omega), int_decL n hn]; rfl
theorem number_ok {n most : Nat} (hm : most < 1000) (h : n ≤ most) : F_number_of [.d (.str (txt (decL n))), .d (.int (most : Int))] = Sim.ret (.int n) := by
  obtain ⟨h3, h1, h2, h4⟩ := decL_fig (show n < 1000 by omega)
  have hi := int_txt (show n < 1000 by omega)
  show seq (g_number_of [some (.d (.str (txt (decL n)))), some (.d (.int (most : Int)))]) finM = _
  unfold g_number_of
  walk_at "sem"
  rw [lenD_txt (show _ ≤ 1000000 by omega)]
  walk_at "sem"
  rw [decide_eq_true (show (1 : Int) ≤ ((decL n).length : Int) by omega)]
  walk_at "sem"
  rw [decide_eq_true (show ((decL n).length : Int) ≤ 3 by omega)]
  walk_at "sem"
  obtain ⟨z, hz, ez⟩ := stripD_txt (w := decL n) (by omega)
  rw [hz]
  walk_at "sem"
  rw [neD_ss, str_em, ez, h3]
  walk_at "sem"
  by_cases h5 : 1 < (decL n).length
  · rw [decide_eq_true (show (1 : Int) < ((decL n).length : Int) by omega)]
    walk_at "sem"
    obtain ⟨c, r, e⟩ : ∃ c r, decL n = c :: r := by
      cases q : decL n with
      | nil => rw [q] at h1; simp at h1
      | cons c r => exact ⟨c, r, rfl⟩
    have e0 : ixD (.str (txt (decL n))) (.int 0) = some (.str (txt [c])) := by
      rw [ixD_txt (show _ ≤ 1000000 by omega), e, atI_0]; rfl
    have hc : c ≠ 48 := fun z => h4 h5 (by rw [e, z]; rfl)
    rw [e0]
    walk_at "sem"
    rw [str_zero, eqD_txt, decide_eq_false (fun z => hc (List.cons.inj z).1)]
    walk_at "sem"
    rw [hi]
    walk_at "sem"
    rw [decide_eq_false (show ¬ (most : Int) < (n : Int) by omega)]
    walk_at "sem"
    rw [hi]
    walk_at "sem"
  · rw [decide_eq_false (show ¬ (1 : Int) < ((decL n).length : Int) by omega)]
    walk_at "sem"
    rw [hi]
    walk_at "sem"
    rw [decide_eq_false (show ¬ (most : Int) < (n : Int) by omega)]
    walk_at "sem"
    rw [hi]
    walk_at "sem"
/-! a row -/
def OkW : Option Nat → Prop
  | none => True
  | some n => n < 64
def Rd (line : List Nat) (r : Nat × Option Nat) : Prop := r.1 < 200 ∧ OkW r.2 ∧ cutA 32 line = [decL r.1, wordT r.2]
theorem row_ok {line : List Nat} {r : Nat × Option Nat} (hl : line.length ≤ 1000000) (h : Rd line r) : F_read_row [.d (.str (txt line))] = Sim.ret (hrow r) := by
  obtain ⟨t, o⟩ := r
  obtain ⟨h1, h2, h3⟩ := h
  simp only at h1 h2 h3
  show seq (g_read_row [some (.d (.str (txt line))), none]) finM = _
  unfold g_read_row
  walk_at "sem"
  rw [str_sp, splitD_txt (by decide) hl, h3]
  walk_at "sem"
  simp only [List.map_cons, List.map_nil]
  walk_at "sem"
  rw [show (PyData.int 199) = .int ((199 : Nat) : Int) from rfl, number_ok (by decide) (by omega)]
  walk_at "sem"
  rw [str_fault, eqD_txt]
  cases o with
  | none =>
    rw [decide_eq_true (show wordT none = [102, 97, 117, 108, 116] from rfl)]
    walk_at "sem"
    rfl
  | some n =>
    have hn : n < 64 := h2
    rw [decide_eq_false (show wordT (some n) ≠ [102, 97, 117, 108, 116] from decL_fault (by omega))]
    walk_at "sem"
    rw [show (PyData.int 63) = .int ((63 : Nat) : Int) from rfl, show wordT (some n) = decL n from rfl, number_ok (by decide) (by omega)]
    walk_at "sem"
    rfl
theorem row_bad {line : List Nat} (hl : line.length ≤ 1000000) (h : ∀ r, ¬ Rd line r) : F_read_row [.d (.str (txt line))] = raiseM 7 := by
  show seq (g_read_row [some (.d (.str (txt line))), none]) finM = _
  unfold g_read_row
  walk_at "sem"
  rw [str_sp, splitD_txt (by decide) hl]
  walk_at "sem"
  have hs : ∀ w ∈ cutA 32 line, w.length ≤ 1000000 := fun w hw => by
    have := cut_small 32 line [] w hw
    simp only [List.length_nil] at this
    omega
  by_cases h2 : (cutA 32 line).length = 2
  · obtain ⟨a, b, e⟩ : ∃ a b, cutA 32 line = [a, b] := by
      match q : cutA 32 line, h2 with
      | [a, b], _ => exact ⟨a, b, rfl⟩
    have ha := hs a (by rw [e]; simp)
    have hb := hs b (by rw [e]; simp)
    rw [e]
    simp only [List.map_cons, List.map_nil]
    walk_at "sem"
    by_cases h3 : ∃ n, n ≤ 199 ∧ a = decL n
    · obtain ⟨n, hn, rfl⟩ := h3
      rw [show (PyData.int 199) = .int ((199 : Nat) : Int) from rfl, number_ok (by decide) hn]
      walk_at "sem"
      rw [str_fault, eqD_txt, decide_eq_false (fun z => h (n, none) ⟨by omega, trivial, by rw [e, z]; rfl⟩)]
      walk_at "sem"
      rw [show (PyData.int 63) = .int ((63 : Nat) : Int) from rfl, number_bad (by decide) hb (fun k hk z => h (n, some k) ⟨by omega, show k < 64 by omega, by rw [e, z]; rfl⟩)]
      walk_at "sem"
    · rw [show (PyData.int 199) = .int ((199 : Nat) : Int) from rfl, number_bad (by decide) ha (fun k hk z => h3 ⟨k, hk, z⟩)]
      walk_at "sem"
  · rw [decide_eq_false (show ¬ (((cutA 32 line).length : Nat) : Int) = 2 by omega)]
    walk_at "sem"

/-! ### k28: rows read and due, side by side -/
theorem lcX_c {bnd : D → Sim.Env → Option Sim.Env} {fe : Sim.Env → M D} {env e1 : Sim.Env} {d y : D} {ds : List D} (h1 : bnd d env = some e1) (h2 : fe e1 = Sim.ret y) : lcXF bnd fe env (d :: ds) = seq (lcXF bnd fe env ds) fun r => Sim.ret (y :: r) := by
  show (seq (lift (bnd d env)) fun env1 => seq (fe env1) fun y => seq (lcXF bnd fe env ds) fun r => Sim.ret (y :: r)) = _
  rw [h1, lift_s, seq_r, h2, seq_r]
theorem lcX_x {bnd : D → Sim.Env → Option Sim.Env} {fe : Sim.Env → M D} {env e1 : Sim.Env} {d : D} {c : Nat} {ds : List D} (h1 : bnd d env = some e1) (h2 : fe e1 = raiseM c) : lcXF bnd fe env (d :: ds) = raiseM c := by
  show (seq (lift (bnd d env)) fun env1 => seq (fe env1) fun y => seq (lcXF bnd fe env ds) fun r => Sim.ret (y :: r)) = _
  rw [h1, lift_s, seq_r, h2, seq_x]
theorem for_c {bnd : D → Sim.Env → Option Sim.Env} {gb : Sim.Env → M Fl} {d : D} {ds : List D} {env e1 e2 : Sim.Env} (h1 : bnd d env = some e1) (g1 : gb e1 = Sim.ret (.next e2)) : forF bnd gb (d :: ds) env = forF bnd gb ds e2 := by
  simp only [forF, h1, lift_s, seq_r, g1, loopM_n]
theorem for_r {bnd : D → Sim.Env → Option Sim.Env} {gb : Sim.Env → M Fl} {d x : D} {ds : List D} {env e1 : Sim.Env} (h1 : bnd d env = some e1) (g1 : gb e1 = Sim.ret (.ret x)) : forF bnd gb (d :: ds) env = Sim.ret (.ret x) := by
  simp only [forF, h1, lift_s, seq_r, g1, loopM_r]
abbrev strT (w : List Nat) : D := .str (txt w)
theorem any_txts (w : List Nat) : ∀ ls : List (List Nat), ((ls.map strT).any fun y => PyData.eqv y (strT w)) = decide (w ∈ ls)
  | [] => rfl
  | l :: ls => by
    rw [List.map_cons, List.any_cons, any_txts w ls, eqv_str]
    by_cases h1 : l = w
    · subst h1; simp
    · have h1' : ¬ w = l := fun z => h1 z.symm
      simp [h1, h1']
theorem notin_txts (w : List Nat) (ls : List (List Nat)) : notInD (.str (txt w)) (.list (ls.map strT)) = some (.bool (!decide (w ∈ ls))) := by
  have : inB (strT w) (.list (ls.map strT)) = some (decide (w ∈ ls)) := by
    show (if min (PyData.depthAll (ls.map strT)) (strT w).depth ≤ 60 then some ((ls.map strT).any fun y => PyData.eqv y (strT w)) else none) = _
    rw [if_pos (Nat.le_trans (Nat.min_le_right _ _) (by simp [PyData.depth])), any_txts]
  rw [notInD, this]; rfl
abbrev numsL (k : Nat) : List (List Nat) := (List.range k).map decL
theorem nums_take : cutL ((numsL 200).map strT) none (some 64) = (numsL 64).map strT := by
  rw [show cutL ((numsL 200).map strT) none (some 64) = ((numsL 200).map strT).take 64 from cutL_to _ 64, ← List.map_take, ← List.map_take]
  rfl
abbrev dueB : Sim.Env → M Fl := (thenS (setS 4 (methE isStrD splitD (varE 3) (consE (cE (.str " ")) (nilE)))) (thenS (ifS (orT (testE (opE neD (callB lenD (consE (varE 4) (nilE))) (cE (.int 2)))) (orT (testE (opE notInD (opE ixD (varE 4) (cE (.int 0))) (varE 2))) (testE (opE notInD (opE ixD (varE 4) (cE (.int 1))) (opE addD (sliceE (varE 2) noneO (someO (cE (.int 64)))) (listE (lstN (consE (cE (.str "fault")) (nilE))))))))) (retS (cE .none)) (nextS)) (appS 1 (tupE (consE (callB intD (consE (opE ixD (varE 4) (cE (.int 0))) (nilE))) (consE (ifE (testE (opE eqD (opE ixD (varE 4) (cE (.int 1))) (cE (.str "fault")))) (cE .none) (callB intD (consE (opE ixD (varE 4) (cE (.int 1))) (nilE)))) (nilE)))))))
abbrev dueEnv (x : Option SV) (acc : List D) (z3 z4 : Option SV) : Sim.Env := [x, some (.own acc), some (.d (.list ((numsL 200).map strT))), z3, z4, none, none, none]
theorem add_fault : addD (.list ((numsL 64).map strT)) (.list [.str "fault"]) = some (.list ((numsL 64 ++ [wordT none]).map strT)) := by
  rw [addD_ll (by show _ ≤ 1000000; simp), List.map_append, str_fault]
  rfl
theorem due_ok {line : List Nat} {r : Nat × Option Nat} (hl : line.length ≤ 1000000) (h : Rd line r) (x z4 : Option SV) (acc : List D) (ha : acc.length < 1000000) :
    ∃ z, dueB (dueEnv x acc (some (.d (strT line))) z4) = Sim.ret (.next (dueEnv x (acc ++ [hrow r]) (some (.d (strT line))) z)) := by
  obtain ⟨t, o⟩ := r
  obtain ⟨h1, h2, h3⟩ := h
  simp only at h1 h2 h3
  refine ⟨some (.d (.list ([decL t, wordT o].map strT))), ?_⟩
  walk_at "sem"
  rw [str_sp, splitD_txt (by decide) hl, h3]
  walk_at "sem"
  simp only [List.map_cons, List.map_nil]
  walk_at "sem"
  rw [notin_txts, decide_eq_true (show decL t ∈ numsL 200 from List.mem_map.mpr ⟨t, List.mem_range.mpr h1, rfl⟩)]
  walk_at "sem"
  rw [nums_take, add_fault]
  walk_at "sem"
  rw [notin_txts, decide_eq_true (show wordT o ∈ numsL 64 ++ [wordT none] by
    cases o with
    | none => exact List.mem_append.mpr (.inr (List.mem_singleton.mpr rfl))
    | some n => exact List.mem_append.mpr (.inl (List.mem_map.mpr ⟨n, List.mem_range.mpr h2, rfl⟩)))]
  walk_at "sem"
  rw [int_txt (by omega)]
  walk_at "sem"
  rw [str_fault, eqD_txt]
  cases o with
  | none =>
    rw [decide_eq_true (show wordT none = [102, 97, 117, 108, 116] from rfl)]
    walk_at "sem"
    rw [ite_lt_big ha]
    rfl
  | some n =>
    have hn : n < 64 := h2
    rw [decide_eq_false (show wordT (some n) ≠ [102, 97, 117, 108, 116] from decL_fault (by omega))]
    walk_at "sem"
    rw [show wordT (some n) = decL n from rfl, int_txt (by omega)]
    walk_at "sem"
    rw [ite_lt_big ha]
    rfl
theorem due_bad {line : List Nat} (hl : line.length ≤ 1000000) (h : ∀ r, ¬ Rd line r) (x z4 : Option SV) (acc : List D) : dueB (dueEnv x acc (some (.d (strT line))) z4) = Sim.ret (.ret .none) := by
  walk_at "sem"
  rw [str_sp, splitD_txt (by decide) hl]
  walk_at "sem"
  by_cases h2 : (cutA 32 line).length = 2
  · obtain ⟨a, b, e⟩ : ∃ a b, cutA 32 line = [a, b] := by
      match q : cutA 32 line, h2 with
      | [a, b], _ => exact ⟨a, b, rfl⟩
    rw [e]
    simp only [List.map_cons, List.map_nil]
    walk_at "sem"
    by_cases h3 : a ∈ numsL 200
    · obtain ⟨n, hn, rfl⟩ := List.mem_map.mp h3
      rw [notin_txts, decide_eq_true h3]
      walk_at "sem"
      rw [nums_take, add_fault]
      walk_at "sem"
      rw [notin_txts, decide_eq_false (show ¬ b ∈ numsL 64 ++ [wordT none] from fun z => by
        rcases List.mem_append.mp z with z | z
        · obtain ⟨k, hk, rfl⟩ := List.mem_map.mp z
          exact h (n, some k) ⟨List.mem_range.mp hn, List.mem_range.mp hk, e⟩
        · cases List.mem_singleton.mp z
          exact h (n, none) ⟨List.mem_range.mp hn, trivial, e⟩)]
      walk_at "sem"
    · rw [notin_txts, decide_eq_false h3]
      walk_at "sem"
  · rw [decide_eq_false (show ¬ (((cutA 32 line).length : Nat) : Int) = 2 by omega)]
    walk_at "sem"
abbrev rdE : Sim.Env → M D := callF 1 F_read_row (consA (varE 2) (nilE))
theorem rows_both (x y : Option SV) : ∀ ls : List (List Nat), (∀ l ∈ ls, l.length ≤ 1000000) →
    (∃ rs : List (Nat × Option Nat), rs.length = ls.length ∧ lcXF (bndN 2) rdE [x, none, none, none, none] (ls.map strT) = Sim.ret (rs.map hrow) ∧
      ∀ (acc : List D) (z3 z4 : Option SV), acc.length + ls.length ≤ 1000000 → ∃ z3' z4', forF (bndN 3) dueB (ls.map strT) (dueEnv y acc z3 z4) = Sim.ret (.next (dueEnv y (acc ++ rs.map hrow) z3' z4'))) ∨
    (lcXF (bndN 2) rdE [x, none, none, none, none] (ls.map strT) = raiseM 7 ∧ ∀ (acc : List D) (z3 z4 : Option SV), acc.length + ls.length ≤ 1000000 → forF (bndN 3) dueB (ls.map strT) (dueEnv y acc z3 z4) = Sim.ret (.ret .none))
  | [], _ => .inl ⟨[], rfl, rfl, fun acc z3 z4 _ => ⟨z3, z4, by rw [List.map_nil, List.map_nil, List.append_nil]; rfl⟩⟩
  | l :: ls, h => by
    have hl := h l List.mem_cons_self
    have b1 : bndN 2 (strT l) [x, none, none, none, none] = some [x, none, some (.d (strT l)), none, none] := rfl
    have b2 : ∀ acc z3 z4, bndN 3 (strT l) (dueEnv y acc z3 z4) = some (dueEnv y acc (some (.d (strT l))) z4) := fun _ _ _ => rfl
    have c1 : rdE [x, none, some (.d (strT l)), none, none] = F_read_row [.d (strT l)] := by
      walk_at "sem"
    by_cases hr : ∃ r, Rd l r
    · obtain ⟨r, hr⟩ := hr
      have r1 := c1.trans (row_ok hl hr)
      rw [List.map_cons, lcX_c b1 r1]
      rcases rows_both x y ls (fun m hm => h m (List.mem_cons_of_mem _ hm)) with ⟨rs, h1, h2, h3⟩ | ⟨h2, h3⟩
      · refine .inl ⟨r :: rs, by rw [List.length_cons, List.length_cons, h1], by rw [h2, seq_r]; rfl, fun acc z3 z4 ha => ?_⟩
        rw [List.length_cons] at ha
        obtain ⟨z, e⟩ := due_ok hl hr y z4 acc (by omega)
        rw [for_c (b2 acc z3 z4) e]
        obtain ⟨z3', z4', e2⟩ := h3 (acc ++ [hrow r]) (some (.d (strT l))) z (by rw [List.length_append, List.length_singleton]; omega)
        refine ⟨z3', z4', ?_⟩
        rw [e2, List.append_assoc]
        rfl
      · refine .inr ⟨by rw [h2, seq_x], fun acc z3 z4 ha => ?_⟩
        rw [List.length_cons] at ha
        obtain ⟨z, e⟩ := due_ok hl hr y z4 acc (by omega)
        rw [for_c (b2 acc z3 z4) e]
        exact h3 (acc ++ [hrow r]) (some (.d (strT l))) z (by rw [List.length_append, List.length_singleton]; omega)
    · have hr : ∀ r, ¬ Rd l r := fun r z => hr ⟨r, z⟩
      have r1 := c1.trans (row_bad hl hr)
      refine .inr ⟨by rw [List.map_cons, lcX_x b1 r1], fun acc z3 z4 ha => ?_⟩
      rw [List.map_cons, for_r (b2 acc z3 z4) (due_bad hl hr y z4 acc)]

/-! ### k28: texts read, and due -/
theorem zipD_zip (xs ys : List D) : zipD xs ys = (xs.zip ys).map fun p => .tuple [p.1, p.2] := by
  unfold zipD
  apply List.ext_getElem?
  intro i
  rw [List.getElem?_map, List.getElem?_map]
  by_cases h : i < min xs.length ys.length
  · rw [List.getElem?_range h]
    have h1 : i < xs.length := by omega
    have h2 : i < ys.length := by omega
    rw [List.getElem?_eq_getElem (show i < (xs.zip ys).length by rw [List.length_zip]; exact h), List.getElem_zip]
    simp [h1, h2]
  · rw [List.getElem?_eq_none (by rw [List.length_range]; omega), List.getElem?_eq_none (by rw [List.length_zip]; omega)]
    rfl
abbrev pairH (p : (Nat × Option Nat) × (Nat × Option Nat)) : D := .tuple [hrow p.1, hrow p.2]
theorem zip_hrows (R : List (Nat × Option Nat)) : zipM [.list (R.map hrow), .list (cutL (R.map hrow) (some 1) none)] = Sim.ret ((R.zip (R.drop 1)).map pairH) := by
  show Sim.ret (zipD _ _) = _
  rw [show cutL (R.map hrow) (some 1) none = (R.map hrow).drop 1 from cutL_from (R.map hrow) 1, zipD_zip, ← List.map_drop, List.zip_map, List.map_map]
  rfl
theorem rise_zip : ∀ R : List (Nat × Option Nat), ((R.zip (R.drop 1)).map fun p => decide ((p.1.1 : Int) < (p.2.1 : Int))).all id = decide ((R.map (·.1)).Pairwise (· < ·))
  | [] => rfl
  | [a] => by simp
  | a :: b :: r => by
    have ih := rise_zip (b :: r)
    rw [List.drop_succ_cons, List.drop_zero] at ih ⊢
    rw [List.zip_cons_cons, List.map_cons, List.all_cons, ih, id]
    rw [show ((a :: b :: r).map (·.1)) = a.1 :: ((b :: r).map (·.1)) from rfl, Bool.eq_iff_iff, Bool.and_eq_true, decide_eq_true_eq, decide_eq_true_eq, decide_eq_true_eq, List.pairwise_cons]
    constructor
    · rintro ⟨h1, h2⟩
      have h1 : (a.1 : Int) < (b.1 : Int) := h1
      refine ⟨fun x hx => ?_, h2⟩
      rw [List.map_cons] at h2 hx
      rcases List.mem_cons.mp hx with rfl | hx
      · omega
      · have := (List.pairwise_cons.mp h2).1 x hx
        omega
    · rintro ⟨h1, h2⟩
      have := h1 b.1 (by simp)
      exact ⟨show (a.1 : Int) < (b.1 : Int) by omega, h2⟩
theorem ix_h0 (r : Nat × Option Nat) : ixD (hrow r) (.int 0) = some (.int r.1) := by
  show atI _ 0 = _
  rw [atI_0]
theorem ix_h1 (r : Nat × Option Nat) : ixD (hrow r) (.int 1) = some (optD r.2) := by
  show atI _ 1 = _
  rw [atI_1]
theorem read_non {d : D} (h : d.isStr = false) : F_read_heard [.d d] = raiseM 7 := by
  show seq (g_read_heard [some (.d d), none, none, none, none]) finM = _
  cases d with
  | str z => cases h
  | _ =>
    unfold g_read_heard
    walk_at "sem"
theorem read_nil : F_read_heard [.d (.str (txt []))] = Sim.ret (.list []) := by
  show seq (g_read_heard [some (.d (.str (txt []))), none, none, none, none]) finM = _
  unfold g_read_heard
  walk_at "sem"
  rw [str_em, neD_txt]
  walk_at "sem"
  rw [show zipM [.list [], .list (cutL ([] : List D) (some 1) none)] = Sim.ret [] from rfl]
  walk_at "sem"
  rfl
theorem read_x {t : List Nat} (hl : t.length ≤ 900000) (hne : t ≠ []) (h : lcXF (bndN 2) rdE [some (.d (strT t)), none, none, none, none] ((cutA 10 t).map strT) = raiseM 7) : F_read_heard [.d (.str (txt t))] = raiseM 7 := by
  show seq (g_read_heard [some (.d (.str (txt t))), none, none, none, none]) finM = _
  unfold g_read_heard
  walk_at "sem"
  rw [str_em, neD_txt, decide_eq_false hne]
  walk_at "sem"
  rw [str_nl, splitD_txt (by decide) (by omega)]
  walk_at "sem"
  have hc : (cutA 10 t).length ≤ 1000000 := by
    rw [cut_len]
    have := List.count_le_length (a := 10) (l := t)
    omega
  rw [ite_big hc]
  rw [show lcXF (bndN 2) _ _ _ = raiseM 7 from h]
  walk_at "sem"
theorem read_r {t : List Nat} (hl : t.length ≤ 900000) (hne : t ≠ []) {rs : List (Nat × Option Nat)} (hn : rs.length ≤ 900000) (h : lcXF (bndN 2) rdE [some (.d (strT t)), none, none, none, none] ((cutA 10 t).map strT) = Sim.ret (rs.map hrow)) :
    F_read_heard [.d (.str (txt t))] = if (rs.map (·.1)).Pairwise (· < ·) then Sim.ret (.list (rs.map hrow)) else raiseM 7 := by
  show seq (g_read_heard [some (.d (.str (txt t))), none, none, none, none]) finM = _
  unfold g_read_heard
  walk_at "sem"
  rw [str_em, neD_txt, decide_eq_false hne]
  walk_at "sem"
  rw [str_nl, splitD_txt (by decide) (by omega)]
  walk_at "sem"
  have hc : (cutA 10 t).length ≤ 1000000 := by
    rw [cut_len]
    have := List.count_le_length (a := 10) (l := t)
    omega
  rw [ite_big hc]
  rw [show lcXF (bndN 2) _ _ _ = Sim.ret (rs.map hrow) from h]
  walk_at "sem"
  rw [zip_hrows]
  walk_at "sem"
  rw [ite_big (by rw [List.length_zip, List.length_drop]; omega)]
  rw [lc_mapf pairH _ (fun p => .bool (decide ((p.1.1 : Int) < (p.2.1 : Int)))) (rs.zip (rs.drop 1)) (fun c _ => rfl) (fun p _ => by
    simp only [setAll]
    walk_at "sem"
    rw [ix_h0, ix_h0]
    walk_at "sem")]
  walk_at "sem"
  rw [show (rs.zip (rs.drop 1)).map (fun p => PyData.bool (decide ((p.1.1 : Int) < (p.2.1 : Int)))) = ((rs.zip (rs.drop 1)).map fun p => decide ((p.1.1 : Int) < (p.2.1 : Int))).map PyData.bool by rw [List.map_map]; rfl, allD_map, rise_zip]
  walk_at "sem"
  by_cases hp : (rs.map (·.1)).Pairwise (· < ·)
  · rw [decide_eq_true hp, if_pos hp]
    walk_at "sem"
  · rw [decide_eq_false hp, if_neg hp]
    walk_at "sem"
theorem sort_nats {A : List Nat} (h : A.length < 64) : ∃ S : List Nat, sortSetM (.list (A.map intD')) = Sim.ret (.list (S.map intD')) ∧ (A = S ↔ A.Pairwise (· < ·)) := by
  have e : A.map intD' = (A.map fun n : Nat => (n : Int)).map PyData.int := by rw [List.map_map]; rfl
  have hs : (setSortL (A.map fun n : Nat => (n : Int))) = ((setSortL (A.map fun n : Nat => (n : Int))).map Int.toNat).map fun n : Nat => (n : Int) := by
    rw [List.map_map]
    have := List.map_congr_left (l := setSortL (A.map fun n : Nat => (n : Int))) (f := fun x => x) (g := (fun n : Nat => (n : Int)) ∘ Int.toNat) (fun x hx => by
      obtain ⟨n, _, rfl⟩ := List.mem_map.mp (mem_setSort.mp hx)
      simp)
    rw [← this, List.map_id']
  have hcast : ∀ l : List Nat, (l.map fun n : Nat => (n : Int)).Pairwise (· < ·) ↔ l.Pairwise (· < ·) := fun l => by
    rw [List.pairwise_map]
    constructor
    · exact fun h => h.imp fun h => by omega
    · exact fun h => h.imp fun h => by omega
  have hlen : ∀ ns : List Int, (setSortL ns).length ≤ ns.length := by
    have hi : ∀ (x : Int) (l : List Int), (insU x l).length ≤ l.length + 1 := by
      intro x l
      induction l with
      | nil => simp [insU]
      | cons y l ih =>
        unfold insU
        split
        · simp
        · split
          · simp
          · simp only [List.length_cons]; omega
    intro ns
    induction ns with
    | nil => exact Nat.le_refl _
    | cons n ns ih =>
      have := hi n (setSortL ns)
      show (insU n (setSortL ns)).length ≤ _
      simp only [List.length_cons]; omega
  refine ⟨(setSortL (A.map fun n : Nat => (n : Int))).map Int.toNat, ?_, ?_⟩
  · rw [e]
    simp only [sortSetM, intsOf_map]
    rw [if_pos ⟨by rw [List.length_map]; omega, Nat.lt_of_le_of_lt (hlen _) (by rw [List.length_map]; exact h)⟩]
    congr 2
    conv => lhs; rw [hs]
    rw [List.map_map]
    rfl
  · constructor
    · intro q
      rw [← hcast A]
      have q2 := congrArg (List.map fun n : Nat => (n : Int)) q
      rw [← hs] at q2
      rw [q2]
      exact pw_setSort _
    · intro q
      have q2 := rising_one ((hcast A).mpr q) (pw_setSort (A.map fun n : Nat => (n : Int))) fun z => mem_setSort.symm
      have q3 := congrArg (List.map Int.toNat) q2
      rw [List.map_map] at q3
      rw [← q3]
      have : (Int.toNat ∘ fun n : Nat => (n : Int)) = fun x => x := funext fun n => by simp
      rw [this, List.map_id']
theorem due_start {t : List Nat} (hl : t.length ≤ 900000) {f : Fl} {x : M D} (h : forF (bndN 3) dueB (if t = [] then [] else (cutA 10 t).map strT) (dueEnv (some (.d (strT t))) [] none none) = Sim.ret f)
    (h2 : seq (thenM (freezeS 1 (thenS (setS 5 (listE (lcE (itemsE (varE 1)) [7] (bndN 7) (yesT) (opE ixD (varE 7) (cE (.int 0)))))) (freezeS 1 (retS (ifE (testE (opE eqD (varE 5) (sortSetE (varE 5)))) (varE 1) (cE .none)))))) f) finM = x) : F__law_due [.d (.str (txt t))] = x := by
  rw [← h2]
  show seq (g__law_due [some (.d (.str (txt t))), none, none, none, none, none, none, none]) finM = _
  unfold g__law_due
  walk_at "sem"
  rw [show rng1M [.int 200] = Sim.ret ((List.range 200).map intD') from rng1_nat (k := 200) (by decide)]
  walk_at "sem"
  rw [lc_mapf intD' _ (fun n => strT (decL n)) (List.range 200) (fun c _ => rfl) (fun n hn => by
    walk_at "sem"
    have hn : n < 200 := List.mem_range.mp hn
    show lift (if ((n : Nat) : Int).natAbs < 1000000 then some (PyData.str (toString (n : Int))) else none) = _
    rw [if_pos (by omega), str_decL n hn]
    rfl)]
  walk_at "sem"
  rw [show (List.range 200).map (fun n => strT (decL n)) = (numsL 200).map strT by rw [List.map_map]; rfl]
  rw [str_em, neD_txt]
  by_cases ht : t = []
  · rw [if_pos ht] at h
    rw [decide_eq_true ht]
    walk_at "sem"
    have h : forF (bndN 3) dueB [] (dueEnv (some (.d (strT t))) [] none none) = Sim.ret f := h
    skip
    rw [h]
    rfl
  · rw [if_neg ht] at h
    rw [decide_eq_false ht]
    walk_at "sem"
    rw [str_nl, splitD_txt (by decide) (by omega)]
    walk_at "sem"
    rw [show forF (bndN 3) _ ((cutA 10 t).map fun w => PyData.str (txt w)) _ = _ from h]
    rfl
theorem due_none {t : List Nat} (hl : t.length ≤ 900000) (h : forF (bndN 3) dueB (if t = [] then [] else (cutA 10 t).map strT) (dueEnv (some (.d (strT t))) [] none none) = Sim.ret (.ret .none)) : F__law_due [.d (.str (txt t))] = Sim.ret .none :=
  due_start hl h rfl
theorem due_rows {t : List Nat} (hl : t.length ≤ 900000) {rs : List (Nat × Option Nat)} {z3 z4 : Option SV} (hn : rs.length < 64) (h : forF (bndN 3) dueB (if t = [] then [] else (cutA 10 t).map strT) (dueEnv (some (.d (strT t))) [] none none) = Sim.ret (.next (dueEnv (some (.d (strT t))) (rs.map hrow) z3 z4))) :
    F__law_due [.d (.str (txt t))] = Sim.ret (if (rs.map (·.1)).Pairwise (· < ·) then .list (rs.map hrow) else .none) := by
  refine due_start hl h ?_
  walk_at "sem"
  rw [ite_big (by omega)]
  rw [lc_mapf hrow _ (fun r => intD' r.1) rs (fun c _ => rfl) (fun r _ => by
    walk_at "sem"
    rw [ix_h0]
    rfl)]
  walk_at "sem"
  obtain ⟨S, e1, e2⟩ := sort_nats (A := rs.map (·.1)) (by rw [List.length_map]; exact hn)
  rw [show rs.map (fun r => intD' r.1) = (rs.map (·.1)).map intD' by rw [List.map_map]; rfl, e1]
  walk_at "sem"
  rw [eq_nats]
  walk_at "sem"
  by_cases hp : (rs.map (·.1)).Pairwise (· < ·)
  · rw [decide_eq_true (e2.mpr hp), if_pos hp]
    walk_at "sem"
  · rw [decide_eq_false (fun z => hp (e2.mp z)), if_neg hp]
    walk_at "sem"
theorem ask_x {d : D} {c : Nat} (hc : c < 12) (h : F_read_heard [.d d] = raiseM c) : F__law_ask [.d d] = Sim.ret (refused c) := by
  show seq (g__law_ask [some (.d d), none]) finM = _
  unfold g__law_ask
  rw [try_x (c := c) (by walk_at "sem"; rw [h]; walk_at "sem") hc]
  walk_at "sem"
theorem ask_r {d x : D} (h : F_read_heard [.d d] = Sim.ret x) : F__law_ask [.d d] = Sim.ret x := by
  show seq (g__law_ask [some (.d d), none]) finM = _
  unfold g__law_ask
  rw [try_r (f := .ret x) (by walk_at "sem"; rw [h]; walk_at "sem")]
  walk_at "sem"
theorem ask_due {t : List Nat} (hl : t.length ≤ 900000) (hc : t.count 10 < 60) : (F__law_due [.d (.str (txt t))] = Sim.ret .none ∧ F__law_ask [.d (.str (txt t))] = Sim.ret (refused 7)) ∨
    (∃ rs : List (Nat × Option Nat), F__law_due [.d (.str (txt t))] = Sim.ret (.list (rs.map hrow)) ∧ F__law_ask [.d (.str (txt t))] = Sim.ret (.list (rs.map hrow))) := by
  by_cases ht : t = []
  · subst ht
    refine .inr ⟨[], ?_, ask_r read_nil⟩
    have := due_rows (t := []) (rs := []) (z3 := none) (z4 := none) (by simp) (by simp) rfl
    rw [this]
    rfl
  · have hlen : (cutA 10 t).length < 64 := by rw [cut_len]; omega
    rcases rows_both (some (.d (strT t))) (some (.d (strT t))) (cutA 10 t) (fun w hw => by
      have := cut_small 10 t [] w hw
      simp only [List.length_nil] at this
      omega) with ⟨rs, h1, h2, h3⟩ | ⟨h2, h3⟩
    · obtain ⟨z3, z4, e⟩ := h3 [] none none (by simp only [List.length_nil]; omega)
      have hd := due_rows (t := t) (rs := rs) (z3 := z3) (z4 := z4) hl (by omega) (by rw [if_neg ht]; exact e)
      have hr := read_r hl ht (by omega) h2
      by_cases hp : (rs.map (·.1)).Pairwise (· < ·)
      · rw [if_pos hp] at hd hr
        exact .inr ⟨rs, hd, ask_r hr⟩
      · rw [if_neg hp] at hd hr
        exact .inl ⟨hd, ask_x (by decide) hr⟩
    · exact .inl ⟨due_none hl (by rw [if_neg ht]; exact h3 [] none none (by simp only [List.length_nil]; omega)), ask_x (by decide) (read_x hl ht h2)⟩

/-! ### k28: what is heard, as a text -/
theorem lis_facts {f : Fm} (hf : f.Ok) : ∀ (m : Nat) (l : List Nat) (i : Nat) (td : List (Option Nat)), l.length ≤ m → Bin l →
    (f.lisL i ⟨none, [], td⟩ l).length * 6 ≤ l.length ∧ (∀ r ∈ f.lisL i ⟨none, [], td⟩ l, i ≤ r.1 ∧ r.1 < i + l.length ∧ OkW r.2) ∧ ((f.lisL i ⟨none, [], td⟩ l).map (·.1)).Pairwise (· < ·)
  | _, [], i, td, _, _ => ⟨Nat.le_refl _, (fun r hr => by cases hr), List.Pairwise.nil⟩
  | 0, c :: l, _, _, h, _ => absurd h (by simp)
  | m + 1, c :: l, i, td, h, hb => by
    have hl : l.length ≤ m := by simp only [List.length_cons] at h; omega
    have hbl : Bin l := fun x hx => hb x (List.mem_cons_of_mem _ hx)
    have e5 : 5 ≤ f.endT := by
      have h1 := (Fm.cnt_le hf).1
      have h2 : 1 ≤ f.p := hf.1
      unfold Fm.endT
      have := Nat.mul_le_mul (show 5 ≤ f.cnt - 1 by omega) h2
      omega
    rcases hb c List.mem_cons_self with rfl | rfl
    · rw [lis_frame hf]
      split
      · rename_i hlt
        have hd : ((48 :: l).drop (f.endT + 1)).length = l.length + 1 - (f.endT + 1) := by rw [List.length_drop]; rfl
        obtain ⟨k1, k2, k3⟩ := lis_facts hf m ((48 :: l).drop (f.endT + 1)) (i + f.endT + 1) [] (by omega) (fun x hx => hb x (List.mem_of_mem_drop hx))
        rw [hd] at k1 k2
        simp only [List.length_cons] at hlt
        refine ⟨by simp only [List.length_cons]; omega, fun r hr => ?_, ?_⟩
        · rcases List.mem_cons.mp hr with rfl | hr
          · refine ⟨by simp only; omega, by simp only [List.length_cons]; omega, ?_⟩
            show OkW (f.tell (f.mids (48 :: l)))
            cases q : f.tell (f.mids (48 :: l)) with
            | none => trivial
            | some w =>
              have hm : (f.mids (48 :: l)).length = f.cnt := by unfold Fm.mids; rw [List.length_map, List.length_range]
              have h1 := (Fm.tell_some hf hm (fun x hx => by
                obtain ⟨k, _, rfl⟩ := List.mem_map.mp hx
                by_cases hk : k * f.p + f.p / 2 < (48 :: l).length
                · rw [List.getD_eq_getElem?_getD, List.getElem?_eq_getElem hk, Option.getD_some]
                  rcases hb _ (List.getElem_mem hk) with z | z <;> rw [z] <;> decide
                · rw [List.getD_eq_getElem?_getD, List.getElem?_eq_none (by omega)]; decide) q).1
              have h2 : 2 ^ f.b ≤ 2 ^ 6 := Nat.pow_le_pow_right (by decide) hf.b2
              show w < 64
              omega
          · obtain ⟨a1, a2, a3⟩ := k2 r hr
            exact ⟨by omega, by simp only [List.length_cons]; omega, a3⟩
        · rw [List.map_cons]
          refine List.pairwise_cons.mpr ⟨fun x hx => ?_, k3⟩
          obtain ⟨r, hr, rfl⟩ := List.mem_map.mp hx
          have := (k2 r hr).1
          simp only
          omega
      · exact ⟨by simp, (fun r hr => by cases hr), List.Pairwise.nil⟩
    · rw [lis_one]
      obtain ⟨k1, k2, k3⟩ := lis_facts hf m l (i + 1) [] hl hbl
      refine ⟨by simp only [List.length_cons]; omega, fun r hr => ?_, k3⟩
      obtain ⟨a1, a2, a3⟩ := k2 r hr
      exact ⟨by omega, by simp only [List.length_cons]; omega, a3⟩
def lineT (r : Nat × Option Nat) : List Nat := decL r.1 ++ ([32] ++ wordT r.2)
def GoodR (r : Nat × Option Nat) : Prop := r.1 < 200 ∧ OkW r.2
theorem wordT_len {o : Option Nat} (h : OkW o) : (wordT o).length ≤ 5 := by
  cases o with
  | none => decide
  | some n =>
    have h : n < 64 := h
    have := (decL_fig (show n < 1000 by omega)).2.2.1
    show (decL n).length ≤ 5
    omega
theorem wordT_no {o : Option Nat} (h : OkW o) {c : Nat} (hc : figB c = false) (hc2 : c ∉ wordT none) : c ∉ wordT o := by
  cases o with
  | none => exact hc2
  | some n =>
    have h : n < 64 := h
    exact decL_no (show n < 1000 by omega) hc
theorem line_len {r : Nat × Option Nat} (h : GoodR r) : (lineT r).length ≤ 9 ∧ 1 ≤ (lineT r).length := by
  have h1 := wordT_len h.2
  have h2 := (decL_fig (show r.1 < 1000 by have := h.1; omega)).2.2.1
  unfold lineT
  simp only [List.length_append, List.length_singleton]
  omega
theorem line_rd {r : Nat × Option Nat} (h : GoodR r) : Rd (lineT r) r := by
  refine ⟨h.1, h.2, ?_⟩
  have := cut_join (c := 32) (ps := [decL r.1, wordT r.2]) (List.cons_ne_nil _ _) (fun p hp => by
    rcases List.mem_cons.mp hp with rfl | hp
    · exact decL_no (by have := h.1; omega) (by decide)
    · rw [List.mem_singleton.mp hp]
      exact wordT_no h.2 (by decide) (by decide))
  exact this
theorem line_no {r : Nat × Option Nat} (h : GoodR r) : 10 ∉ lineT r := fun z => by
  unfold lineT at z
  rcases List.mem_append.mp z with z | z
  · exact decL_no (show r.1 < 1000 by have := h.1; omega) (by decide) z
  · rcases List.mem_append.mp z with z | z
    · simp at z
    · exact wordT_no h.2 (by decide) (by decide) z
theorem lcX_lines (x : Option SV) : ∀ rs : List (Nat × Option Nat), (∀ r ∈ rs, GoodR r) → lcXF (bndN 2) rdE [x, none, none, none, none] ((rs.map lineT).map strT) = Sim.ret (rs.map hrow)
  | [], _ => rfl
  | r :: rs, h => by
    have hr := h r List.mem_cons_self
    have c1 : rdE [x, none, some (.d (strT (lineT r))), none, none] = F_read_row [.d (strT (lineT r))] := by walk_at "sem"
    rw [List.map_cons, List.map_cons, lcX_c (e1 := [x, none, some (.d (strT (lineT r))), none, none]) rfl (c1.trans (row_ok (by have := line_len hr; omega) (line_rd hr))), lcX_lines x rs fun q hq => h q (List.mem_cons_of_mem _ hq), seq_r]
    rfl
theorem sum_lines : ∀ rs : List (Nat × Option Nat), (∀ r ∈ rs, GoodR r) → ((rs.map lineT).map List.length).sum ≤ 9 * rs.length
  | [], _ => Nat.le_refl _
  | r :: rs, h => by
    have h1 := sum_lines rs fun q hq => h q (List.mem_cons_of_mem _ hq)
    have h2 := line_len (h r List.mem_cons_self)
    simp only [List.map_cons, List.sum_cons, List.length_cons]
    omega
def textT (rs : List (Nat × Option Nat)) : List Nat := TL.joinL [10] (rs.map lineT)
theorem text_facts {rs : List (Nat × Option Nat)} (h : ∀ r ∈ rs, GoodR r) (hn : rs.length ≤ 33) : (textT rs).length ≤ 330 ∧ (textT rs).count 10 ≤ 33 ∧ (rs ≠ [] → textT rs ≠ [] ∧ cutA 10 (textT rs) = rs.map lineT) := by
  have h1 := join_len (rs.map lineT)
  have h2 := sum_lines rs h
  rw [List.length_map] at h1
  have hno : ∀ p ∈ rs.map lineT, 10 ∉ p := fun p hp => by
    obtain ⟨r, hr, rfl⟩ := List.mem_map.mp hp
    exact line_no (h r hr)
  refine ⟨by unfold textT; omega, ?_, fun hne => ?_⟩
  · by_cases hne : rs = []
    · subst hne; decide
    · have := join_count 10 (rs.map lineT) (fun z => hne (List.map_eq_nil_iff.mp z)) hno
      rw [List.length_map] at this
      unfold textT
      omega
  · have hc : cutA 10 (textT rs) = rs.map lineT := cut_join (fun z => hne (List.map_eq_nil_iff.mp z)) hno
    refine ⟨fun z => ?_, hc⟩
    rw [z] at hc
    cases rs with
    | nil => exact hne rfl
    | cons r rs =>
      have h3 := (line_len (h r List.mem_cons_self)).2
      have h4 : [([] : List Nat)] = lineT r :: rs.map lineT := hc
      have h5 := (List.cons.inj h4).1
      rw [← h5] at h3
      simp at h3
theorem read_text {rs : List (Nat × Option Nat)} (h : ∀ r ∈ rs, GoodR r) (hn : rs.length ≤ 33) (hp : (rs.map (·.1)).Pairwise (· < ·)) : F_read_heard [.d (.str (txt (textT rs)))] = Sim.ret (.list (rs.map hrow)) := by
  obtain ⟨h1, _, h3⟩ := text_facts h hn
  by_cases hne : rs = []
  · subst hne
    exact read_nil
  · obtain ⟨h4, h5⟩ := h3 hne
    rw [read_r (rs := rs) (by omega) h4 (by omega) (by rw [h5]; exact lcX_lines _ rs h), if_pos hp]
theorem str_nat {n : Nat} (h : n < 200) : strD [.int (n : Int)] = some (.str (txt (decL n))) := by
  show (if ((n : Nat) : Int).natAbs < 1000000 then some (PyData.str (toString (n : Int))) else none) = _
  rw [if_pos (by omega), str_decL n h]
theorem line_of_eq {r : Nat × Option Nat} (h : GoodR r) : F_line_of [.d (hrow r)] = Sim.ret (strT (lineT r)) := by
  obtain ⟨t, o⟩ := r
  have h1 : t < 200 := h.1
  have l1 := (decL_fig (show t < 1000 by omega)).2.2.1
  have l2 := wordT_len h.2
  simp only at l2
  show seq (g_line_of [some (.d (hrow (t, o)))]) finM = _
  unfold g_line_of hrow
  walk_at "sem"
  rw [str_nat h1]
  walk_at "sem"
  rw [str_sp, addD_txt (by simp only [List.length_singleton]; show _ ≤ 1000000; omega)]
  cases o with
  | none =>
    simp only [optD]
    walk_at "sem"
    rw [str_fault, addD_txt (by simp only [List.length_append, List.length_cons, List.length_nil]; show _ ≤ 1000000; omega)]
    rw [List.append_assoc]
    rfl
  | some n =>
    have h2 : n < 64 := h.2
    have l2 : (decL n).length ≤ 5 := l2
    simp only [optD]
    walk_at "sem"
    rw [str_nat (by omega)]
    walk_at "sem"
    rw [addD_txt (by simp only [List.length_append, List.length_singleton]; show _ ≤ 1000000; omega)]
    rw [List.append_assoc]
    rfl

/-! ### k28: odd things; the law -/
def badB (line : List Nat) : Bool := match cutA 32 line with
  | [a, b] => !(decide (a ∈ numsL 200) && decide (b ∈ numsL 64 ++ [wordT none]))
  | _ => true
theorem bad_of {line : List Nat} (h : badB line = true) : ∀ r, ¬ Rd line r := fun r hr => by
  obtain ⟨h1, h2, h3⟩ := hr
  unfold badB at h
  rw [h3] at h
  have a1 : decL r.1 ∈ numsL 200 := List.mem_map.mpr ⟨r.1, List.mem_range.mpr h1, rfl⟩
  have a2 : wordT r.2 ∈ numsL 64 ++ [wordT none] := by
    cases q : r.2 with
    | none => exact List.mem_append.mpr (.inr (List.mem_singleton.mpr rfl))
    | some n => rw [q] at h2; exact List.mem_append.mpr (.inl (List.mem_map.mpr ⟨n, List.mem_range.mpr h2, rfl⟩))
  have h : (!(decide (decL r.1 ∈ numsL 200) && decide (wordT r.2 ∈ numsL 64 ++ [wordT none]))) = true := h
  rw [decide_eq_true a1, decide_eq_true a2] at h
  cases h
theorem rd_x {x : Option SV} {l : List Nat} {ds : List D} (hl : l.length ≤ 1000000) (h : badB l = true) : lcXF (bndN 2) rdE [x, none, none, none, none] (strT l :: ds) = raiseM 7 := by
  have c1 : rdE [x, none, some (.d (strT l)), none, none] = F_read_row [.d (strT l)] := by walk_at "sem"
  exact lcX_x (e1 := [x, none, some (.d (strT l)), none, none]) rfl (c1.trans (row_bad hl (bad_of h)))
theorem odd_one {s : Str} {t : List Nat} (e : s = txt t) (h : cutA 10 t = [t]) (hl : t.length ≤ 1000) (hne : t ≠ []) (hb : badB t = true) : F_read_heard [.d (.str s)] = raiseM 7 := by
  rw [e]
  exact read_x (by omega) hne (by rw [h]; exact rd_x (by omega) hb)
theorem odd_two {s : Str} {rs : List (Nat × Option Nat)} (h : ∀ r ∈ rs, GoodR r) (hn : rs.length ≤ 33) (e : s = txt (textT rs)) (hne : rs ≠ []) (hp : ¬ (rs.map (·.1)).Pairwise (· < ·)) : F_read_heard [.d (.str s)] = raiseM 7 := by
  obtain ⟨h1, _, h3⟩ := text_facts h hn
  obtain ⟨h4, h5⟩ := h3 hne
  rw [e, read_r (rs := rs) (by omega) h4 (by omega) (by rw [h5]; exact lcX_lines _ rs h), if_neg hp]
theorem odd_last : F_read_heard [.d (.str "1 1\n")] = raiseM 7 := by
  rw [show ("1 1\n" : Str) = txt [49, 32, 49, 10] by decide +kernel]
  refine read_x (by decide) (by decide) ?_
  have c1 : rdE [some (.d (strT [49, 32, 49, 10])), none, some (.d (strT (lineT (1, some 1)))), none, none] = F_read_row [.d (strT (lineT (1, some 1)))] := by walk_at "sem"
  have hg : GoodR (1, some 1) := ⟨by decide, show (1 : Nat) < 64 by decide⟩
  rw [show cutA 10 [49, 32, 49, 10] = [lineT (1, some 1), []] by decide +kernel, List.map_cons, List.map_cons, List.map_nil]
  rw [lcX_c (e1 := [some (.d (strT [49, 32, 49, 10])), none, some (.d (strT (lineT (1, some 1)))), none, none]) rfl (c1.trans (row_ok (by decide) (line_rd hg))), rd_x (by decide) (by decide +kernel), seq_x]
theorem odd_all (d : D) (h : d ∈ ([.none, .int 5, .str " ", .str "1", .str "1 64", .str "200 1", .str "01 1", .str "1 01", .str "1 Fault", .str "2 1\n1 1", .str "1 1\n1 2", .tuple [.str "1 1"], .str "1 1\n"] : List D)) : F_read_heard [.d d] = raiseM 7 := by
  simp only [List.mem_cons, List.not_mem_nil, or_false] at h
  rcases h with rfl | rfl | rfl | rfl | rfl | rfl | rfl | rfl | rfl | rfl | rfl | rfl | rfl
  · exact read_non rfl
  · exact read_non rfl
  · exact odd_one (t := [32]) (by decide +kernel) (by decide +kernel) (by decide) (by decide) (by decide +kernel)
  · exact odd_one (t := [49]) (by decide +kernel) (by decide +kernel) (by decide) (by decide) (by decide +kernel)
  · exact odd_one (t := [49, 32, 54, 52]) (by decide +kernel) (by decide +kernel) (by decide) (by decide) (by decide +kernel)
  · exact odd_one (t := [50, 48, 48, 32, 49]) (by decide +kernel) (by decide +kernel) (by decide) (by decide) (by decide +kernel)
  · exact odd_one (t := [48, 49, 32, 49]) (by decide +kernel) (by decide +kernel) (by decide) (by decide) (by decide +kernel)
  · exact odd_one (t := [49, 32, 48, 49]) (by decide +kernel) (by decide +kernel) (by decide) (by decide) (by decide +kernel)
  · exact odd_one (t := [49, 32, 70, 97, 117, 108, 116]) (by decide +kernel) (by decide +kernel) (by decide) (by decide) (by decide +kernel)
  · exact odd_two (rs := [(2, some 1), (1, some 1)]) (fun r hr => by
      simp only [List.mem_cons, List.not_mem_nil, or_false] at hr
      rcases hr with rfl | rfl <;> exact ⟨by decide, show (1 : Nat) < 64 by decide⟩) (by decide) (by decide +kernel) (by decide) (by decide)
  · exact odd_two (rs := [(1, some 1), (1, some 2)]) (fun r hr => by
      simp only [List.mem_cons, List.not_mem_nil, or_false] at hr
      rcases hr with rfl | rfl
      · exact ⟨by decide, show (1 : Nat) < 64 by decide⟩
      · exact ⟨by decide, show (2 : Nat) < 64 by decide⟩) (by decide) (by decide +kernel) (by decide) (by decide)
  · exact read_non rfl
  · exact odd_last

/-! ### k28: the law -/
theorem heard_text_eq {f : Fm} (hf : f.Ok) {l : List Nat} (hb : Bin l) (h1 : 1 ≤ l.length) (hl : l.length ≤ 200) {rs : List (Nat × Option Nat)} (hrs : f.heard l = rs) (hg : ∀ r ∈ rs, GoodR r) (hn : rs.length ≤ 33) :
    F_heard_text [.d f.d, .d (.str (txt l))] = Sim.ret (.str (txt (textT rs))) := by
  show seq (g_heard_text [some (.d f.d), some (.d (.str (txt l))), none]) finM = _
  unfold g_heard_text
  walk_at "sem"
  rw [heard_eq hf hb h1 hl, hrs]
  walk_at "sem"
  rw [ite_big (by omega)]
  rw [lc_mapf hrow _ (fun r => strT (lineT r)) rs (fun c _ => rfl) (fun r hr => by
    walk_at "sem"
    rw [line_of_eq (hg r hr)])]
  walk_at "sem"
  have hs := sum_lines rs hg
  rw [show rs.map (fun r => strT (lineT r)) = (rs.map lineT).map strT by rw [List.map_map]; rfl, str_nl, show joinD (.str (txt [10])) [.list ((rs.map lineT).map strT)] = _ from joinD_10 (by rw [List.length_map]; omega)]
  walk_at "sem"
  rfl
theorem edit_of {d : D} (h : d ∈ ([.str "", .str "0", .str "1", .str "9", .str " ", .str "\n", .str "f", .str "fault", .str "-"] : List D)) : ∃ m : List Nat, d = .str (txt m) ∧ m.length ≤ 5 ∧ m.count 10 ≤ 1 := by
  simp only [List.mem_cons, List.not_mem_nil, or_false] at h
  rcases h with rfl | rfl | rfl | rfl | rfl | rfl | rfl | rfl | rfl
  · exact ⟨[], by rw [str_em], by decide, by decide⟩
  · exact ⟨[48], by rw [str_zero], by decide, by decide⟩
  · exact ⟨[49], by rw [show ("1" : Str) = txt [49] by decide +kernel], by decide, by decide⟩
  · exact ⟨[57], by rw [show ("9" : Str) = txt [57] by decide +kernel], by decide, by decide⟩
  · exact ⟨[32], by rw [str_sp], by decide, by decide⟩
  · exact ⟨[10], by rw [str_nl], by decide, by decide⟩
  · exact ⟨[102], by rw [show ("f" : Str) = txt [102] by decide +kernel], by decide, by decide⟩
  · exact ⟨[102, 97, 117, 108, 116], by rw [str_fault], by decide, by decide⟩
  · exact ⟨[45], by rw [show ("-" : Str) = txt [45] by decide +kernel], by decide, by decide⟩
theorem edit_facts (t m : List Nat) (a b : Nat) : (t.take a ++ m ++ t.drop (a + b)).length ≤ t.length + m.length ∧ (t.take a ++ m ++ t.drop (a + b)).count 10 ≤ t.count 10 + m.count 10 := by
  constructor
  · simp only [List.length_append, List.length_take, List.length_drop]
    omega
  · have h1 : t.count 10 = (t.take a).count 10 + (t.drop a).count 10 := by rw [← List.count_append, List.take_append_drop]
    have h2 : (t.drop (a + b)).count 10 ≤ (t.drop a).count 10 := by
      rw [← List.drop_drop]
      exact List.Sublist.count_le 10 (List.drop_sublist b _)
    rw [List.count_append, List.count_append]
    omega
abbrev edB : Sim.Env → M Fl := (thenS (setS 9 (callF 3 F__law_draw (scrA 0 (townA 1 (consA (opE addD (callB lenD (consE (varE 7) (nilE))) (cE (.int 1))) (nilE)))))) (thenS (setS 10 (callF 3 F__law_pick (scrA 0 (townA 1 (consA (listE (lstN (consE (cE (.str "")) (consE (cE (.str "0")) (consE (cE (.str "1")) (consE (cE (.str "9")) (consE (cE (.str " ")) (consE (cE (.str "\n")) (consE (cE (.str "f")) (consE (cE (.str "fault")) (consE (cE (.str "-")) (nilE)))))))))))) (nilE)))))) (setS 7 (opE addD (opE addD (sliceE (varE 7) noneO (someO (varE 9))) (varE 10)) (sliceE (varE 7) (someO (opE addD (varE 9) (callF 3 F__law_draw (scrA 0 (townA 1 (consA (cE (.int 2)) (nilE))))))) noneO)))))
abbrev edEnv (ns : List Int) (x2 x3 x4 x5 x6 : Option SV) (t : List Nat) (a b c : Option SV) : Sim.Env := [some (.scr ns), some .town, x2, x3, x4, x5, x6, some (.d (.str (txt t))), a, b, c, none, none, none, none]
theorem edit_ok (ns : List Int) (x2 x3 x4 x5 x6 : Option SV) (t : List Nat) (a b c : Option SV) (ht : t.length ≤ 1000) : Ok 3 (edB (edEnv ns x2 x3 x4 x5 x6 t a b c)) fun fl => ∃ (t' : List Nat) (b' c' : Option SV), t'.length ≤ t.length + 5 ∧ t'.count 10 ≤ t.count 10 + 1 ∧ fl = .next (edEnv ns x2 x3 x4 x5 x6 t' a b' c') := by
  walk_at "sem"
  rw [lenD_txt (show t.length ≤ 1000000 by omega)]
  walk_at "sem"
  refine Ok.step (draw_ok ns ((t.length : Int) + 1) (by omega)) (by decide) fun x hx => ?_
  obtain ⟨v, rfl, w0, w1'⟩ := hx
  obtain ⟨j, rfl⟩ : ∃ w : Nat, v = w := ⟨v.toNat, by omega⟩
  try walk_at "sem"
  refine Ok.step (pick_ok ns _ (by simp)) (by decide) fun x hx => ?_
  obtain ⟨m, rfl, m1, m2⟩ := edit_of hx
  try walk_at "sem"
  rw [sliceD_txt (show t.length ≤ 1000000 by omega), cutL_to]
  try walk_at "sem"
  rw [addD_txt (by rw [List.length_take]; show min j t.length + m.length ≤ 1000000; omega)]
  try walk_at "sem"
  refine Ok.step (draw_ok ns 2 (by decide)) (by decide) fun x hx => ?_
  obtain ⟨v, rfl, u0, u1⟩ := hx
  obtain ⟨i, rfl⟩ : ∃ w : Nat, v = w := ⟨v.toNat, by omega⟩
  try walk_at "sem"
  rw [show (j : Int) + (i : Int) = ((j + i : Nat) : Int) by omega, sliceD_txt (show t.length ≤ 1000000 by omega), cutL_from]
  try walk_at "sem"
  have hf := edit_facts t m j i
  rw [addD_txt (by have h := hf.1; rw [List.length_append] at h; show _ ≤ 1000000; omega)]
  try walk_at "sem"
  exact Ok.ret ⟨t.take j ++ m ++ t.drop (j + i), _, _, by omega, by omega, rfl⟩
theorem edits_ok (ns : List Int) (x2 x3 x4 x5 x6 : Option SV) : ∀ (ds : List D) (t : List Nat) (a b c : Option SV), t.length + 5 * ds.length ≤ 1000 → Ok (ds.length * 3) (forF (bndN 8) edB ds (edEnv ns x2 x3 x4 x5 x6 t a b c)) fun fl => ∃ (t' : List Nat) (a' b' c' : Option SV), t'.length ≤ t.length + 5 * ds.length ∧ t'.count 10 ≤ t.count 10 + ds.length ∧ fl = .next (edEnv ns x2 x3 x4 x5 x6 t' a' b' c')
  | [], t, a, b, c, _ => Ok.ret ⟨t, a, b, c, by simp, by simp, rfl⟩
  | d :: ds, t, a, b, c, h => by
    have b1 : bndN 8 d (edEnv ns x2 x3 x4 x5 x6 t a b c) = some (edEnv ns x2 x3 x4 x5 x6 t (some (.d d)) b c) := rfl
    simp only [forF, b1, lift_s, seq_r]
    rw [List.length_cons] at h
    have e1' : (d :: ds).length * 3 = 3 + ds.length * 3 := by simp only [List.length_cons]; omega
    rw [e1']
    refine Ok.seq (edit_ok ns x2 x3 x4 x5 x6 t _ b c (by omega)) fun fl hfl => ?_
    obtain ⟨t', b', c', q1, q2, rfl⟩ := hfl
    rw [loopM_n]
    refine (edits_ok ns x2 x3 x4 x5 x6 ds t' (some (.d d)) b' c' (by omega)).mono (Nat.le_refl _) fun fl hfl => ?_
    obtain ⟨t2, a2, b2, c2, r1, r2, rfl⟩ := hfl
    exact ⟨t2, a2, b2, c2, by simp only [List.length_cons]; omega, by simp only [List.length_cons]; omega, rfl⟩
theorem hlaw (ns : List Int) (_ : ns.length ≤ 63) : ∃ n, lawR 15 g_law ns = .ok (.bool true) n := by
  refine law_of ?_
  show Ok 1000000 (g_law [some (.scr ns), some .town, none, none, none, none, none, none, none, none, none, none, none, none, none]) _
  unfold g_law
  walk_at "sem"
  refine Ok.step (draw_ok ns 3 (by decide)) (by decide) fun x hx => ?_
  obtain ⟨v, rfl, v0, v1⟩ := hx
  obtain ⟨m, rfl⟩ : ∃ w : Nat, v = w := ⟨v.toNat, by omega⟩
  try walk_at "sem"
  refine Ok.step (form_ok ns) (by decide) fun d hd => ?_
  obtain ⟨f, hf, rfl⟩ := hd
  try walk_at "sem"
  refine Ok.step (noisy_ok ns hf) (by decide) fun d hd => ?_
  obtain ⟨l, hb, h1, h2, rfl⟩ := hd
  try walk_at "sem"
  rw [heard_eq hf hb h1 (by omega)]
  walk_at "sem"
  obtain ⟨k1, k2, k3⟩ := lis_facts hf l.length l 0 [] (Nat.le_refl _) hb
  generalize hrs : f.heard l = rs
  rw [show f.lisL 0 ⟨none, [], []⟩ l = rs from hrs] at k1 k2 k3
  have hg : ∀ r ∈ rs, GoodR r := fun r hr => ⟨by have := (k2 r hr).2.1; omega, (k2 r hr).2.2⟩
  have hn : rs.length ≤ 33 := by omega
  have hs := sum_lines rs hg
  rw [ite_big (by omega)]
  rw [lc_mapf hrow _ (fun r => strT (lineT r)) rs (fun c _ => rfl) (fun r hr => by
    obtain ⟨t, o⟩ := r
    have g1 : t < 200 := (hg _ hr).1
    have g2 : OkW o := (hg _ hr).2
    have l1 := (decL_fig (show t < 1000 by omega)).2.2.1
    have l2 := wordT_len g2
    simp only [setAll]
    cases o with
    | none =>
      simp only [optD]
      walk_at "sem"
      rw [str_nat g1]
      walk_at "sem"
      rw [str_sp, addD_txt (by simp only [List.length_singleton]; show _ ≤ 1000000; omega)]
      walk_at "sem"
      rw [str_fault, addD_txt (by simp only [List.length_append, List.length_cons, List.length_nil]; show _ ≤ 1000000; omega), List.append_assoc]
      rfl
    | some n =>
      have h2 : n < 64 := g2
      have l2 : (decL n).length ≤ 5 := l2
      simp only [optD]
      walk_at "sem"
      rw [str_nat g1]
      walk_at "sem"
      rw [str_sp, addD_txt (by simp only [List.length_singleton]; show _ ≤ 1000000; omega)]
      walk_at "sem"
      rw [str_nat (by omega)]
      walk_at "sem"
      rw [addD_txt (by simp only [List.length_append, List.length_singleton]; show _ ≤ 1000000; omega), List.append_assoc]
      rfl)]
  walk_at "sem"
  rw [show rs.map (fun r => strT (lineT r)) = (rs.map lineT).map strT by rw [List.map_map]; rfl, str_nl, show joinD (.str (txt [10])) [.list ((rs.map lineT).map strT)] = some (.str (txt (textT rs))) from joinD_10 (by rw [List.length_map]; omega)]
  walk_at "sem"
  rw [heard_text_eq hf hb h1 (by omega) hrs hg hn]
  walk_at "sem"
  rw [neD_txt, decide_eq_true rfl]
  walk_at "sem"
  rw [read_text hg hn k3]
  walk_at "sem"
  rw [neD_refl (pl_hrows _) (by decide)]
  walk_at "sem"
  unfold g_law_1
  walk_at "sem"
  rw [rng1_nat (by omega)]
  walk_at "sem"
  obtain ⟨t1, t2, _⟩ := text_facts hg hn
  refine Ok.step (edits_ok ns _ _ _ _ _ ((List.range m).map intD') (textT rs) none none none (by rw [List.length_map, List.length_range]; omega)) (by simp only [List.length_map, List.length_range]; omega) fun fl hfl => ?_
  · obtain ⟨t, a, b, c, e1, e2, rfl⟩ := hfl
    simp only [List.length_map, List.length_range] at e1 e2
    walk_at "sem"
    rcases ask_due (t := t) (by omega) (by omega) with ⟨q1, q2⟩ | ⟨rs', q1, q2⟩
    · rw [q1]
      walk_at "sem"
      rw [q2]
      walk_at "sem"
      rw [show neD (refused 7) (.tuple [.str "refused", .int 7]) = _ from ne_ref 7]
      walk_at "sem"
      refine Ok.step (pick_ok ns _ (by simp)) (by omega) fun x hx => ?_
      try walk_at "sem"
      rw [ask_x (by decide) (odd_all x hx)]
      walk_at "sem"
      rw [show eqD (refused 7) (.tuple [.str "refused", .int 7]) = _ from eq_ref 7]
      exact Ok.ret rfl
    · rw [q1]
      walk_at "sem"
      rw [q2]
      walk_at "sem"
      rw [neD_refl (pl_hrows _) (by decide)]
      walk_at "sem"
      refine Ok.step (pick_ok ns _ (by simp)) (by omega) fun x hx => ?_
      try walk_at "sem"
      rw [ask_x (by decide) (odd_all x hx)]
      walk_at "sem"
      rw [show eqD (refused 7) (.tuple [.str "refused", .int 7]) = _ from eq_ref 7]
      exact Ok.ret rfl

end Lw

open PySem PySem.W PyProof.Rows in
set_option maxRecDepth 100000 in
set_option maxHeartbeats 0 in
theorem PySem.Challenge.cw_wirereadings_k28_whole_heard_texts_holds : PySem.Challenge.rw_wirereadings_k28_whole_heard_texts.Holds := by
  w_on; o_law; k_head; (case hw => w_witness2)
  k_fill
  refine L2.walk_of (l := PySem.Challenge.rw_wirereadings_k28_whole_heard_texts) (n := 63) (k := 9) (x := "script") (CX := fun w => L2N.CX PySem.Challenge.rw_wirereadings_k28_whole_heard_texts.prog w) (sp := fun w => Sim.spLaw _) rfl (by decide) rfl ⟨rfl, by decide, by decide⟩ (fun w h Y => PySem.W.kIn_of Y) ?F (fun _ _ a ns hl _ hS => ⟨a, ns, rfl, hS, hl, fun _ => rfl⟩) (fun w H s e s' z => Sim.noCX z)
  case F =>
    intro w mg fa h KX G hmg
    have hml : mg "law" = some (.ref fa) := hmg
    clear hmg
    refine' Sim.def_use (x := "_law_cell_at") (qual := "_law_cell_at") (st := Lw.s__law_cell_at) (ps := ["script", "k"]) KX G ?a1 ?l1 ?c1 ?k1 (fun _ _ _ _ _ _ us hl => match us, hl with | [_, _], _ => rfl) ?_
    (case a1 => k_is)
    (case l1 => k_is)
    (case c1 => k_is)
    (case k1 => k_is)
    intro a__law_cell_at d__law_cell_at m__law_cell_at f__law_cell_at b__law_cell_at
    refine' Sim.def_use (x := "_law_mixed") (qual := "_law_mixed") (st := Lw.s__law_mixed) (ps := ["script", "k", "many"]) KX G ?a2 ?l2 ?c2 ?k2 (fun _ _ _ _ _ _ us hl => match us, hl with | [_, _, _], _ => rfl) ?_
    (case a2 => k_is)
    (case l2 => k_is)
    (case c2 => k_is)
    (case k2 => k_is)
    intro a__law_mixed d__law_mixed m__law_mixed f__law_mixed b__law_mixed
    refine' Sim.def_use (x := "_law_draw") (qual := "_law_draw") (st := Lw.s__law_draw) (ps := ["script", "town", "many"]) KX G ?a3 ?l3 ?c3 ?k3 (fun _ _ _ _ _ _ us hl => match us, hl with | [_, _, _], _ => rfl) ?_
    (case a3 => k_is)
    (case l3 => k_is)
    (case c3 => k_is)
    (case k3 => k_is)
    intro a__law_draw d__law_draw m__law_draw f__law_draw b__law_draw
    refine' Sim.def_use (x := "_law_pick") (qual := "_law_pick") (st := Lw.s__law_pick) (ps := ["script", "town", "some"]) KX G ?a4 ?l4 ?c4 ?k4 (fun _ _ _ _ _ _ us hl => match us, hl with | [_, _, _], _ => rfl) ?_
    (case a4 => k_is)
    (case l4 => k_is)
    (case c4 => k_is)
    (case k4 => k_is)
    intro a__law_pick d__law_pick m__law_pick f__law_pick b__law_pick
    refine' Sim.def_use (x := "_law_form") (qual := "_law_form") (st := Lw.s__law_form) (ps := ["script", "town"]) KX G ?a5 ?l5 ?c5 ?k5 (fun _ _ _ _ _ _ us hl => match us, hl with | [_, _], _ => rfl) ?_
    (case a5 => k_is)
    (case l5 => k_is)
    (case c5 => k_is)
    (case k5 => k_is)
    intro a__law_form d__law_form m__law_form f__law_form b__law_form
    refine' Sim.def_use (x := "_law_frame") (qual := "_law_frame") (st := Lw.s__law_frame) (ps := ["form", "word"]) KX G ?a6 ?l6 ?c6 ?k6 (fun _ _ _ _ _ _ us hl => match us, hl with | [_, _], _ => rfl) ?_
    (case a6 => k_is)
    (case l6 => k_is)
    (case c6 => k_is)
    (case k6 => k_is)
    intro a__law_frame d__law_frame m__law_frame f__law_frame b__law_frame
    refine' Sim.def_use (x := "_law_samples") (qual := "_law_samples") (st := Lw.s__law_samples) (ps := ["script", "town", "form", "most"]) KX G ?a7 ?l7 ?c7 ?k7 (fun _ _ _ _ _ _ us hl => match us, hl with | [_, _, _, _], _ => rfl) ?_
    (case a7 => k_is)
    (case l7 => k_is)
    (case c7 => k_is)
    (case k7 => k_is)
    intro a__law_samples d__law_samples m__law_samples f__law_samples b__law_samples
    refine' Sim.def_use (x := "_law_noisy") (qual := "_law_noisy") (st := Lw.s__law_noisy) (ps := ["script", "town", "form"]) KX G ?a8 ?l8 ?c8 ?k8 (fun _ _ _ _ _ _ us hl => match us, hl with | [_, _, _], _ => rfl) ?_
    (case a8 => k_is)
    (case l8 => k_is)
    (case c8 => k_is)
    (case k8 => k_is)
    intro a__law_noisy d__law_noisy m__law_noisy f__law_noisy b__law_noisy
    refine' Sim.def_use (x := "is_one_of") (qual := "is_one_of") (st := Lw.s_is_one_of) (ps := ["thing", "words"]) KX G ?a9 ?l9 ?c9 ?k9 (fun _ _ _ _ _ _ us hl => match us, hl with | [_, _], _ => rfl) ?_
    (case a9 => k_is)
    (case l9 => k_is)
    (case c9 => k_is)
    (case k9 => k_is)
    intro a_is_one_of d_is_one_of m_is_one_of f_is_one_of b_is_one_of
    refine' Sim.def_use (x := "is_whole") (qual := "is_whole") (st := Lw.s_is_whole) (ps := ["thing", "low", "most"]) KX G ?a10 ?l10 ?c10 ?k10 (fun _ _ _ _ _ _ us hl => match us, hl with | [_, _, _], _ => rfl) ?_
    (case a10 => k_is)
    (case l10 => k_is)
    (case c10 => k_is)
    (case k10 => k_is)
    intro a_is_whole d_is_whole m_is_whole f_is_whole b_is_whole
    refine' Sim.def_use (x := "is_form") (qual := "is_form") (st := Lw.s_is_form) (ps := ["thing"]) KX G ?a11 ?l11 ?c11 ?k11 (fun _ _ _ _ _ _ us hl => match us, hl with | [_], _ => rfl) ?_
    (case a11 => k_is)
    (case l11 => k_is)
    (case c11 => k_is)
    (case k11 => k_is)
    intro a_is_form d_is_form m_is_form f_is_form b_is_form
    refine' Sim.def_use (x := "need_form") (qual := "need_form") (st := Lw.s_need_form) (ps := ["thing"]) KX G ?a12 ?l12 ?c12 ?k12 (fun _ _ _ _ _ _ us hl => match us, hl with | [_], _ => rfl) ?_
    (case a12 => k_is)
    (case l12 => k_is)
    (case c12 => k_is)
    (case k12 => k_is)
    intro a_need_form d_need_form m_need_form f_need_form b_need_form
    refine' Sim.def_use (x := "need_samples") (qual := "need_samples") (st := Lw.s_need_samples) (ps := ["thing"]) KX G ?a13 ?l13 ?c13 ?k13 (fun _ _ _ _ _ _ us hl => match us, hl with | [_], _ => rfl) ?_
    (case a13 => k_is)
    (case l13 => k_is)
    (case c13 => k_is)
    (case k13 => k_is)
    intro a_need_samples d_need_samples m_need_samples f_need_samples b_need_samples
    refine' Sim.def_use (x := "word_of") (qual := "word_of") (st := Lw.s_word_of) (ps := ["form", "bits"]) KX G ?a14 ?l14 ?c14 ?k14 (fun _ _ _ _ _ _ us hl => match us, hl with | [_, _], _ => rfl) ?_
    (case a14 => k_is)
    (case l14 => k_is)
    (case c14 => k_is)
    (case k14 => k_is)
    intro a_word_of d_word_of m_word_of f_word_of b_word_of
    refine' Sim.def_use (x := "parity_of") (qual := "parity_of") (st := Lw.s_parity_of) (ps := ["form", "bits"]) KX G ?a15 ?l15 ?c15 ?k15 (fun _ _ _ _ _ _ us hl => match us, hl with | [_, _], _ => rfl) ?_
    (case a15 => k_is)
    (case l15 => k_is)
    (case c15 => k_is)
    (case k15 => k_is)
    intro a_parity_of d_parity_of m_parity_of f_parity_of b_parity_of
    refine' Sim.def_use (x := "heard_of") (qual := "heard_of") (st := Lw.s_heard_of) (ps := ["form", "samples"]) KX G ?a16 ?l16 ?c16 ?k16 (fun _ _ _ _ _ _ us hl => match us, hl with | [_, _], _ => rfl) ?_
    (case a16 => k_is)
    (case l16 => k_is)
    (case c16 => k_is)
    (case k16 => k_is)
    intro a_heard_of d_heard_of m_heard_of f_heard_of b_heard_of
    refine' Sim.def_use (x := "heard") (qual := "heard") (st := Lw.s_heard) (ps := ["form", "samples"]) KX G ?a17 ?l17 ?c17 ?k17 (fun _ _ _ _ _ _ us hl => match us, hl with | [_, _], _ => rfl) ?_
    (case a17 => k_is)
    (case l17 => k_is)
    (case c17 => k_is)
    (case k17 => k_is)
    intro a_heard d_heard m_heard f_heard b_heard
    refine' Sim.def_use (x := "_law_due") (qual := "_law_due") (st := Lw.s__law_due) (ps := ["text"]) KX G ?a18 ?l18 ?c18 ?k18 (fun _ _ _ _ _ _ us hl => match us, hl with | [_], _ => rfl) ?_
    (case a18 => k_is)
    (case l18 => k_is)
    (case c18 => k_is)
    (case k18 => k_is)
    intro a__law_due d__law_due m__law_due f__law_due b__law_due
    refine' Sim.def_use (x := "number_of") (qual := "number_of") (st := Lw.s_number_of) (ps := ["word", "most"]) KX G ?a19 ?l19 ?c19 ?k19 (fun _ _ _ _ _ _ us hl => match us, hl with | [_, _], _ => rfl) ?_
    (case a19 => k_is)
    (case l19 => k_is)
    (case c19 => k_is)
    (case k19 => k_is)
    intro a_number_of d_number_of m_number_of f_number_of b_number_of
    refine' Sim.def_use (x := "read_row") (qual := "read_row") (st := Lw.s_read_row) (ps := ["line"]) KX G ?a20 ?l20 ?c20 ?k20 (fun _ _ _ _ _ _ us hl => match us, hl with | [_], _ => rfl) ?_
    (case a20 => k_is)
    (case l20 => k_is)
    (case c20 => k_is)
    (case k20 => k_is)
    intro a_read_row d_read_row m_read_row f_read_row b_read_row
    refine' Sim.def_use (x := "read_heard") (qual := "read_heard") (st := Lw.s_read_heard) (ps := ["text"]) KX G ?a21 ?l21 ?c21 ?k21 (fun _ _ _ _ _ _ us hl => match us, hl with | [_], _ => rfl) ?_
    (case a21 => k_is)
    (case l21 => k_is)
    (case c21 => k_is)
    (case k21 => k_is)
    intro a_read_heard d_read_heard m_read_heard f_read_heard b_read_heard
    refine' Sim.def_use (x := "_law_which") (qual := "_law_which") (st := Lw.s__law_which) (ps := ["e"]) KX G ?a22 ?l22 ?c22 ?k22 (fun _ _ _ _ _ _ us hl => match us, hl with | [_], _ => rfl) ?_
    (case a22 => k_is)
    (case l22 => k_is)
    (case c22 => k_is)
    (case k22 => k_is)
    intro a__law_which d__law_which m__law_which f__law_which b__law_which
    refine' Sim.def_use (x := "_law_ask") (qual := "_law_ask") (st := Lw.s__law_ask) (ps := ["thing"]) KX G ?a23 ?l23 ?c23 ?k23 (fun _ _ _ _ _ _ us hl => match us, hl with | [_], _ => rfl) ?_
    (case a23 => k_is)
    (case l23 => k_is)
    (case c23 => k_is)
    (case k23 => k_is)
    intro a__law_ask d__law_ask m__law_ask f__law_ask b__law_ask
    refine' Sim.def_use (x := "line_of") (qual := "line_of") (st := Lw.s_line_of) (ps := ["row"]) KX G ?a24 ?l24 ?c24 ?k24 (fun _ _ _ _ _ _ us hl => match us, hl with | [_], _ => rfl) ?_
    (case a24 => k_is)
    (case l24 => k_is)
    (case c24 => k_is)
    (case k24 => k_is)
    intro a_line_of d_line_of m_line_of f_line_of b_line_of
    refine' Sim.def_use (x := "heard_text") (qual := "heard_text") (st := Lw.s_heard_text) (ps := ["form", "samples"]) KX G ?a25 ?l25 ?c25 ?k25 (fun _ _ _ _ _ _ us hl => match us, hl with | [_, _], _ => rfl) ?_
    (case a25 => k_is)
    (case l25 => k_is)
    (case c25 => k_is)
    (case k25 => k_is)
    intro a_heard_text d_heard_text m_heard_text f_heard_text b_heard_text
    refine' Sim.law_use (st := Lw.s_law) KX G ?a26 ?l26 ?c26 ?k26 (fun _ _ _ _ _ _ us hl => match us, hl with | [_], _ => rfl) ?_
    (case a26 => k_is)
    (case l26 => k_is)
    (case c26 => k_is)
    (case k26 => k_is)
    intro a_law d_law m_law f_law b_law q_law
    refine' Sim.cls_use (x := "Listener") KX G ?a27 ?l27 ?c27 ?k27 ?x27 ?s27 ?t27 ?_
    (case a27 => k_is)
    (case l27 => k_is)
    (case c27 => k_is)
    (case k27 => k_is)
    (case x27 => k_is)
    (case s27 => k_is)
    (case t27 => k_is)
    intro g_Listener cls mk0 kc
    refine' Sim.attr_use (f := "form") cls ?a28 ?_
    (case a28 => k_is)
    intro na_form
    refine' Sim.attr_use (f := "tick") cls ?a29 ?_
    (case a29 => k_is)
    intro na_tick
    refine' Sim.attr_use (f := "bits") cls ?a30 ?_
    (case a30 => k_is)
    intro na_bits
    refine' Sim.attr_use (f := "told") cls ?a31 ?_
    (case a31 => k_is)
    intro na_told
    refine' Sim.attr_use (f := "past") cls ?a32 ?_
    (case a32 => k_is)
    intro na_past
    refine' Sim.meth_use (x := "__init__") (qual := "Listener.__init__") (st := Lw.s_L___init__) (ps := ["self", "form"]) cls ?a33 ?x33 ?l33 ?c33 ?k33 (fun _ _ _ _ _ _ us hl => match us, hl with | [_, _], _ => rfl) ?_
    (case a33 => k_is)
    (case x33 => k_is)
    (case l33 => k_is)
    (case c33 => k_is)
    (case k33 => k_is)
    intro a_L___init__ d_L___init__ me_L___init__ f_L___init__ b_L___init__
    refine' Sim.meth_use (x := "ended") (qual := "Listener.ended") (st := Lw.s_L_ended) (ps := ["self"]) cls ?a34 ?x34 ?l34 ?c34 ?k34 (fun _ _ _ _ _ _ us hl => match us, hl with | [_], _ => rfl) ?_
    (case a34 => k_is)
    (case x34 => k_is)
    (case l34 => k_is)
    (case c34 => k_is)
    (case k34 => k_is)
    intro a_L_ended d_L_ended me_L_ended f_L_ended b_L_ended
    refine' Sim.meth_use (x := "hear") (qual := "Listener.hear") (st := Lw.s_L_hear) (ps := ["self", "sample"]) cls ?a35 ?x35 ?l35 ?c35 ?k35 (fun _ _ _ _ _ _ us hl => match us, hl with | [_, _], _ => rfl) ?_
    (case a35 => k_is)
    (case x35 => k_is)
    (case l35 => k_is)
    (case c35 => k_is)
    (case k35 => k_is)
    intro a_L_hear d_L_hear me_L_hear f_L_hear b_L_hear
    refine' Sim.exc_usec (x := "NoForm") KX G ?a36 ?x36 ?k36 ?s36 ?t36 ?_
    (case a36 => k_is)
    (case x36 => k_exc)
    (case k36 => k_is)
    (case s36 => k_is)
    (case t36 => k_is)
    intro g_NoForm x_NoForm k_NoForm s_NoForm t_NoForm
    refine' Sim.exc_usec (x := "NoLayer") KX G ?a37 ?x37 ?k37 ?s37 ?t37 ?_
    (case a37 => k_is)
    (case x37 => k_exc)
    (case k37 => k_is)
    (case s37 => k_is)
    (case t37 => k_is)
    intro g_NoLayer x_NoLayer k_NoLayer s_NoLayer t_NoLayer
    refine' Sim.exc_usec (x := "NoNumber") KX G ?a38 ?x38 ?k38 ?s38 ?t38 ?_
    (case a38 => k_is)
    (case x38 => k_exc)
    (case k38 => k_is)
    (case s38 => k_is)
    (case t38 => k_is)
    intro g_NoNumber x_NoNumber k_NoNumber s_NoNumber t_NoNumber
    refine' Sim.exc_usec (x := "NoPackets") KX G ?a39 ?x39 ?k39 ?s39 ?t39 ?_
    (case a39 => k_is)
    (case x39 => k_exc)
    (case k39 => k_is)
    (case s39 => k_is)
    (case t39 => k_is)
    intro g_NoPackets x_NoPackets k_NoPackets s_NoPackets t_NoPackets
    refine' Sim.exc_usec (x := "NoRest") KX G ?a40 ?x40 ?k40 ?s40 ?t40 ?_
    (case a40 => k_is)
    (case x40 => k_exc)
    (case k40 => k_is)
    (case s40 => k_is)
    (case t40 => k_is)
    intro g_NoRest x_NoRest k_NoRest s_NoRest t_NoRest
    refine' Sim.exc_usec (x := "NoRows") KX G ?a41 ?x41 ?k41 ?s41 ?t41 ?_
    (case a41 => k_is)
    (case x41 => k_exc)
    (case k41 => k_is)
    (case s41 => k_is)
    (case t41 => k_is)
    intro g_NoRows x_NoRows k_NoRows s_NoRows t_NoRows
    refine' Sim.exc_usec (x := "NoRuns") KX G ?a42 ?x42 ?k42 ?s42 ?t42 ?_
    (case a42 => k_is)
    (case x42 => k_exc)
    (case k42 => k_is)
    (case s42 => k_is)
    (case t42 => k_is)
    intro g_NoRuns x_NoRuns k_NoRuns s_NoRuns t_NoRuns
    refine' Sim.exc_usec (x := "NoSamples") KX G ?a43 ?x43 ?k43 ?s43 ?t43 ?_
    (case a43 => k_is)
    (case x43 => k_exc)
    (case k43 => k_is)
    (case s43 => k_is)
    (case t43 => k_is)
    intro g_NoSamples x_NoSamples k_NoSamples s_NoSamples t_NoSamples
    refine' Sim.exc_usec (x := "NoText") KX G ?a44 ?x44 ?k44 ?s44 ?t44 ?_
    (case a44 => k_is)
    (case x44 => k_exc)
    (case k44 => k_is)
    (case s44 => k_is)
    (case t44 => k_is)
    intro g_NoText x_NoText k_NoText s_NoText t_NoText
    refine' Sim.exc_usec (x := "NoWords") KX G ?a45 ?x45 ?k45 ?s45 ?t45 ?_
    (case a45 => k_is)
    (case x45 => k_exc)
    (case k45 => k_is)
    (case s45 => k_is)
    (case t45 => k_is)
    intro g_NoWords x_NoWords k_NoWords s_NoWords t_NoWords
    refine' Sim.exc_usec (x := "Nothing") KX G ?a46 ?x46 ?k46 ?s46 ?t46 ?_
    (case a46 => k_is)
    (case x46 => k_exc)
    (case k46 => k_is)
    (case s46 => k_is)
    (case t46 => k_is)
    intro g_Nothing x_Nothing k_Nothing s_Nothing t_Nothing
    refine' Sim.exc_usec (x := "TooLong") KX G ?a47 ?x47 ?k47 ?s47 ?t47 ?_
    (case a47 => k_is)
    (case x47 => k_exc)
    (case k47 => k_is)
    (case s47 => k_is)
    (case t47 => k_is)
    intro g_TooLong x_TooLong k_TooLong s_TooLong t_TooLong
    refine' Sim.wire_use KX G ?a48 ?x48 ?k48 ?s48 ?t48 ?c48 ?_
    (case a48 => k_is)
    (case x48 => k_is)
    (case k48 => k_is)
    (case s48 => k_is)
    (case t48 => k_is)
    (case c48 => k_is)
    intro g_WireError wn wt ws wd wy
    refine' Sim.ex1_use g_NoForm g_WireError t_NoForm ?a49 ?x49 ?k49 ?s49 ?t49 ?c49 ?_
    (case a49 => k_is)
    (case x49 => k_is)
    (case k49 => k_is)
    (case s49 => k_is)
    (case t49 => k_is)
    (case c49 => rfl)
    intro y_NoForm
    refine' Sim.ex1_use g_NoSamples g_WireError t_NoSamples ?a50 ?x50 ?k50 ?s50 ?t50 ?c50 ?_
    (case a50 => k_is)
    (case x50 => k_is)
    (case k50 => k_is)
    (case s50 => k_is)
    (case t50 => k_is)
    (case c50 => rfl)
    intro y_NoSamples
    refine' Sim.ex1_use g_NoRows g_WireError t_NoRows ?a51 ?x51 ?k51 ?s51 ?t51 ?c51 ?_
    (case a51 => k_is)
    (case x51 => k_is)
    (case k51 => k_is)
    (case s51 => k_is)
    (case t51 => k_is)
    (case c51 => rfl)
    intro y_NoRows
    refine' Sim.ex1_use g_NoWords g_WireError t_NoWords ?a52 ?x52 ?k52 ?s52 ?t52 ?c52 ?_
    (case a52 => k_is)
    (case x52 => k_is)
    (case k52 => k_is)
    (case s52 => k_is)
    (case t52 => k_is)
    (case c52 => rfl)
    intro y_NoWords
    refine' Sim.ex1_use g_NoRest g_WireError t_NoRest ?a53 ?x53 ?k53 ?s53 ?t53 ?c53 ?_
    (case a53 => k_is)
    (case x53 => k_is)
    (case k53 => k_is)
    (case s53 => k_is)
    (case t53 => k_is)
    (case c53 => rfl)
    intro y_NoRest
    refine' Sim.ex1_use g_TooLong g_WireError t_TooLong ?a54 ?x54 ?k54 ?s54 ?t54 ?c54 ?_
    (case a54 => k_is)
    (case x54 => k_is)
    (case k54 => k_is)
    (case s54 => k_is)
    (case t54 => k_is)
    (case c54 => rfl)
    intro y_TooLong
    refine' Sim.ex1_use g_NoLayer g_WireError t_NoLayer ?a55 ?x55 ?k55 ?s55 ?t55 ?c55 ?_
    (case a55 => k_is)
    (case x55 => k_is)
    (case k55 => k_is)
    (case s55 => k_is)
    (case t55 => k_is)
    (case c55 => rfl)
    intro y_NoLayer
    refine' Sim.ex1_use g_NoText g_WireError t_NoText ?a56 ?x56 ?k56 ?s56 ?t56 ?c56 ?_
    (case a56 => k_is)
    (case x56 => k_is)
    (case k56 => k_is)
    (case s56 => k_is)
    (case t56 => k_is)
    (case c56 => rfl)
    intro y_NoText
    refine' Sim.ex1_use g_Nothing g_WireError t_Nothing ?a57 ?x57 ?k57 ?s57 ?t57 ?c57 ?_
    (case a57 => k_is)
    (case x57 => k_is)
    (case k57 => k_is)
    (case s57 => k_is)
    (case t57 => k_is)
    (case c57 => rfl)
    intro y_Nothing
    refine' Sim.ex1_use g_NoPackets g_WireError t_NoPackets ?a58 ?x58 ?k58 ?s58 ?t58 ?c58 ?_
    (case a58 => k_is)
    (case x58 => k_is)
    (case k58 => k_is)
    (case s58 => k_is)
    (case t58 => k_is)
    (case c58 => rfl)
    intro y_NoPackets
    refine' Sim.ex1_use g_NoRuns g_WireError t_NoRuns ?a59 ?x59 ?k59 ?s59 ?t59 ?c59 ?_
    (case a59 => k_is)
    (case x59 => k_is)
    (case k59 => k_is)
    (case s59 => k_is)
    (case t59 => k_is)
    (case c59 => rfl)
    intro y_NoRuns
    refine' Sim.ex1_use g_NoNumber g_WireError t_NoNumber ?a60 ?x60 ?k60 ?s60 ?t60 ?c60 ?_
    (case a60 => k_is)
    (case x60 => k_is)
    (case k60 => k_is)
    (case s60 => k_is)
    (case t60 => k_is)
    (case c60 => rfl)
    intro y_NoNumber
    have et := Sim.excs_all y_NoForm y_NoSamples y_NoRows y_NoWords y_NoRest y_TooLong y_NoLayer y_NoText y_Nothing y_NoPackets y_NoRuns y_NoNumber (by decide) wn wt ws wd wy
    have et := Sim.exct_dflt (z := Sim.adr g_Listener) et (fun _ h => h)
    refine' Sim.none_use (x := "ValueError") KX G ?a61 ?_
    (case a61 => k_is)
    intro n_ValueError
    refine' Sim.none_use (x := "all") KX G ?a62 ?_
    (case a62 => k_is)
    intro n_all
    refine' Sim.none_use (x := "bool") KX G ?a63 ?_
    (case a63 => k_is)
    intro n_bool
    refine' Sim.none_use (x := "enumerate") KX G ?a64 ?_
    (case a64 => k_is)
    intro n_enumerate
    refine' Sim.none_use (x := "int") KX G ?a65 ?_
    (case a65 => k_is)
    intro n_int
    refine' Sim.none_use (x := "isinstance") KX G ?a66 ?_
    (case a66 => k_is)
    intro n_isinstance
    refine' Sim.none_use (x := "len") KX G ?a67 ?_
    (case a67 => k_is)
    intro n_len
    refine' Sim.none_use (x := "list") KX G ?a68 ?_
    (case a68 => k_is)
    intro n_list
    refine' Sim.none_use (x := "range") KX G ?a69 ?_
    (case a69 => k_is)
    intro n_range
    refine' Sim.none_use (x := "set") KX G ?a70 ?_
    (case a70 => k_is)
    intro n_set
    refine' Sim.none_use (x := "sorted") KX G ?a71 ?_
    (case a71 => k_is)
    intro n_sorted
    refine' Sim.none_use (x := "str") KX G ?a72 ?_
    (case a72 => k_is)
    intro n_str
    refine' Sim.none_use (x := "sum") KX G ?a73 ?_
    (case a73 => k_is)
    intro n_sum
    refine' Sim.none_use (x := "tuple") KX G ?a74 ?_
    (case a74 => k_is)
    intro n_tuple
    refine' Sim.none_use (x := "zip") KX G ?a75 ?_
    (case a75 => k_is)
    intro n_zip
    refine' Sim.str_use (x := "FIGURES") (z := "0123456789") KX G ?a76 ?_
    (case a76 => k_is)
    intro m_FIGURES
    refine' Sim.int_use (x := "LEAST") (i := 4) KX G ?a77 ?_
    (case a77 => k_is)
    intro m_LEAST
    refine' Sim.int_use (x := "LONG") (i := 200) KX G ?a78 ?_
    (case a78 => k_is)
    intro m_LONG
    refine' Sim.int_use (x := "MOST") (i := 6) KX G ?a79 ?_
    (case a79 => k_is)
    intro m_MOST
    refine' Sim.tup_use (x := "ORDERS") (xs := [.str "low", .str "high"]) KX G ?a80 ?l80 ?z80 ?v80 ?_
    (case a80 => k_is)
    (case l80 => k_is)
    (case z80 => decide)
    (case v80 => exact (.cons ⟨_, rfl⟩ (.cons ⟨_, rfl⟩ .nil)))
    intro a_ORDERS m_ORDERS k_ORDERS
    refine' Sim.int_use (x := "PACE") (i := 6) KX G ?a81 ?_
    (case a81 => k_is)
    intro m_PACE
    refine' Sim.tup_use (x := "PARITIES") (xs := [.str "none", .str "even", .str "odd"]) KX G ?a82 ?l82 ?z82 ?v82 ?_
    (case a82 => k_is)
    (case l82 => k_is)
    (case z82 => decide)
    (case v82 => exact (.cons ⟨_, rfl⟩ (.cons ⟨_, rfl⟩ (.cons ⟨_, rfl⟩ .nil))))
    intro a_PARITIES m_PARITIES k_PARITIES
    have e := hml.symm.trans m_law
    cases e
    exact ⟨d_law, q_law, fun base _ _ => Lw.ok_law ({ a_L___init__ := a_L___init__, d_L___init__ := d_L___init__, f_L___init__ := f_L___init__, b_L___init__ := b_L___init__, mkL := ⟨mk0, me_L___init__.at_, me_L___init__.fn, kc⟩, a_L_ended := a_L_ended, d_L_ended := d_L_ended, f_L_ended := f_L_ended, b_L_ended := b_L_ended, me_L_ended := me_L_ended, a_L_hear := a_L_hear, d_L_hear := d_L_hear, f_L_hear := f_L_hear, b_L_hear := b_L_hear, me_L_hear := me_L_hear, c_Listener := _, g_Listener := g_Listener, cls := cls, na_form := na_form, na_tick := na_tick, na_bits := na_bits, na_told := na_told, na_past := na_past, a__law_cell_at := a__law_cell_at, d__law_cell_at := d__law_cell_at, f__law_cell_at := f__law_cell_at, m__law_cell_at := m__law_cell_at, b__law_cell_at := b__law_cell_at, a__law_mixed := a__law_mixed, d__law_mixed := d__law_mixed, f__law_mixed := f__law_mixed, m__law_mixed := m__law_mixed, b__law_mixed := b__law_mixed, a__law_draw := a__law_draw, d__law_draw := d__law_draw, f__law_draw := f__law_draw, m__law_draw := m__law_draw, b__law_draw := b__law_draw, a__law_pick := a__law_pick, d__law_pick := d__law_pick, f__law_pick := f__law_pick, m__law_pick := m__law_pick, b__law_pick := b__law_pick, a__law_form := a__law_form, d__law_form := d__law_form, f__law_form := f__law_form, m__law_form := m__law_form, b__law_form := b__law_form, a__law_frame := a__law_frame, d__law_frame := d__law_frame, f__law_frame := f__law_frame, m__law_frame := m__law_frame, b__law_frame := b__law_frame, a__law_samples := a__law_samples, d__law_samples := d__law_samples, f__law_samples := f__law_samples, m__law_samples := m__law_samples, b__law_samples := b__law_samples, a__law_noisy := a__law_noisy, d__law_noisy := d__law_noisy, f__law_noisy := f__law_noisy, m__law_noisy := m__law_noisy, b__law_noisy := b__law_noisy, a_is_one_of := a_is_one_of, d_is_one_of := d_is_one_of, f_is_one_of := f_is_one_of, m_is_one_of := m_is_one_of, b_is_one_of := b_is_one_of, a_is_whole := a_is_whole, d_is_whole := d_is_whole, f_is_whole := f_is_whole, m_is_whole := m_is_whole, b_is_whole := b_is_whole, a_is_form := a_is_form, d_is_form := d_is_form, f_is_form := f_is_form, m_is_form := m_is_form, b_is_form := b_is_form, a_need_form := a_need_form, d_need_form := d_need_form, f_need_form := f_need_form, m_need_form := m_need_form, b_need_form := b_need_form, a_need_samples := a_need_samples, d_need_samples := d_need_samples, f_need_samples := f_need_samples, m_need_samples := m_need_samples, b_need_samples := b_need_samples, a_word_of := a_word_of, d_word_of := d_word_of, f_word_of := f_word_of, m_word_of := m_word_of, b_word_of := b_word_of, a_parity_of := a_parity_of, d_parity_of := d_parity_of, f_parity_of := f_parity_of, m_parity_of := m_parity_of, b_parity_of := b_parity_of, a_heard_of := a_heard_of, d_heard_of := d_heard_of, f_heard_of := f_heard_of, m_heard_of := m_heard_of, b_heard_of := b_heard_of, a_heard := a_heard, d_heard := d_heard, f_heard := f_heard, m_heard := m_heard, b_heard := b_heard, a__law_due := a__law_due, d__law_due := d__law_due, f__law_due := f__law_due, m__law_due := m__law_due, b__law_due := b__law_due, a_number_of := a_number_of, d_number_of := d_number_of, f_number_of := f_number_of, m_number_of := m_number_of, b_number_of := b_number_of, a_read_row := a_read_row, d_read_row := d_read_row, f_read_row := f_read_row, m_read_row := m_read_row, b_read_row := b_read_row, a_read_heard := a_read_heard, d_read_heard := d_read_heard, f_read_heard := f_read_heard, m_read_heard := m_read_heard, b_read_heard := b_read_heard, a__law_which := a__law_which, d__law_which := d__law_which, f__law_which := f__law_which, m__law_which := m__law_which, b__law_which := b__law_which, a__law_ask := a__law_ask, d__law_ask := d__law_ask, f__law_ask := f__law_ask, m__law_ask := m__law_ask, b__law_ask := b__law_ask, a_line_of := a_line_of, d_line_of := d_line_of, f_line_of := f_line_of, m_line_of := m_line_of, b_line_of := b_line_of, a_heard_text := a_heard_text, d_heard_text := d_heard_text, f_heard_text := f_heard_text, m_heard_text := m_heard_text, b_heard_text := b_heard_text, a_law := fa, d_law := d_law, f_law := f_law, m_law := m_law, b_law := b_law, c_NoForm := _, g_NoForm := g_NoForm, x_NoForm := x_NoForm, k_NoForm := k_NoForm, s_NoForm := s_NoForm, t_NoForm := t_NoForm, c_NoLayer := _, g_NoLayer := g_NoLayer, x_NoLayer := x_NoLayer, k_NoLayer := k_NoLayer, s_NoLayer := s_NoLayer, t_NoLayer := t_NoLayer, c_NoNumber := _, g_NoNumber := g_NoNumber, x_NoNumber := x_NoNumber, k_NoNumber := k_NoNumber, s_NoNumber := s_NoNumber, t_NoNumber := t_NoNumber, c_NoPackets := _, g_NoPackets := g_NoPackets, x_NoPackets := x_NoPackets, k_NoPackets := k_NoPackets, s_NoPackets := s_NoPackets, t_NoPackets := t_NoPackets, c_NoRest := _, g_NoRest := g_NoRest, x_NoRest := x_NoRest, k_NoRest := k_NoRest, s_NoRest := s_NoRest, t_NoRest := t_NoRest, c_NoRows := _, g_NoRows := g_NoRows, x_NoRows := x_NoRows, k_NoRows := k_NoRows, s_NoRows := s_NoRows, t_NoRows := t_NoRows, c_NoRuns := _, g_NoRuns := g_NoRuns, x_NoRuns := x_NoRuns, k_NoRuns := k_NoRuns, s_NoRuns := s_NoRuns, t_NoRuns := t_NoRuns, c_NoSamples := _, g_NoSamples := g_NoSamples, x_NoSamples := x_NoSamples, k_NoSamples := k_NoSamples, s_NoSamples := s_NoSamples, t_NoSamples := t_NoSamples, c_NoText := _, g_NoText := g_NoText, x_NoText := x_NoText, k_NoText := k_NoText, s_NoText := s_NoText, t_NoText := t_NoText, c_NoWords := _, g_NoWords := g_NoWords, x_NoWords := x_NoWords, k_NoWords := k_NoWords, s_NoWords := s_NoWords, t_NoWords := t_NoWords, c_Nothing := _, g_Nothing := g_Nothing, x_Nothing := x_Nothing, k_Nothing := k_Nothing, s_Nothing := s_Nothing, t_Nothing := t_Nothing, c_TooLong := _, g_TooLong := g_TooLong, x_TooLong := x_TooLong, k_TooLong := k_TooLong, s_TooLong := s_TooLong, t_TooLong := t_TooLong, c_WireError := _, g_WireError := g_WireError, et := et, n_ValueError := n_ValueError, n_all := n_all, n_bool := n_bool, n_enumerate := n_enumerate, n_int := n_int, n_isinstance := n_isinstance, n_len := n_len, n_list := n_list, n_range := n_range, n_set := n_set, n_sorted := n_sorted, n_str := n_str, n_sum := n_sum, n_tuple := n_tuple, n_zip := n_zip, m_FIGURES := m_FIGURES, m_LEAST := m_LEAST, m_LONG := m_LONG, m_MOST := m_MOST, a_ORDERS := a_ORDERS, m_ORDERS := m_ORDERS, k_ORDERS := k_ORDERS, m_PACE := m_PACE, a_PARITIES := a_PARITIES, m_PARITIES := m_PARITIES, k_PARITIES := k_PARITIES } : Lw.Tx _ mg) Lw.hlaw⟩
#print axioms PySem.Challenge.cw_wirereadings_k28_whole_heard_texts_holds
