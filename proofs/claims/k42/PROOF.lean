import PyProof.Rows.All
import HandS.ForMost
import PyProof.WalksMore
import HandS.TupMul
import HandS.TupAny
import Wide.All
import OpenK.AllK
import Wide.FinOn
import HandS.Deep
import PyProof.P3In
import PyProof.SeqIndex
import HandS.SetFor
import HandS.Strs
import PyProof.MaxThree
import HandS.SortKw
import HandS.TupSets
import HandS.Conv
import HandS.Wide
import HandS.IsInst
import HandS.SortInts
import HandS.Style
import HandS.Walk
import KE.DatumOrd
import PyProof.P3Eq
import PySem.Challenge.RW_neverwedged_k42_whole_turns_are_fair
set_option Elab.async false
set_option linter.all false
set_option maxRecDepth 100000
set_option maxHeartbeats 4000000
/-! sum, min, max of a tuple of ints. -/
namespace NV
open PySem PySem.Spec PyProof.Rows L2 HT
section
variable {prog : Program} {w : World} {A : Around} {E Q0 : Value → Shared → Prop} {s : Shared} {t : Addr} {its : List Value} {ns : List Int}
theorem iter_intTup {xs : Array (Int × Tok)} {Q : Value → Shared → Prop} (ht : s.heap.IsTuple t (intItems xs))
    (h : ∀ s₂ : Shared, s₂ = { s with heap := s.heap.push { cls := .type "tuple_iterator", data := .fields #[.ref t, .int 0 0] } } →
      (s₂.heap.IsTupleIter s.heap.objs.size t 0 ∧ s₂.heap.IsTuple t (intItems xs)) → (∀ b ∈ [s.heap.objs.size, t], b < s₂.heap.objs.size) → t ≠ s.heap.objs.size → Q (.ref s.heap.objs.size) s₂) :
    wpAny (model prog w) A (pyIter (.ref t)) Q E s := by
  have hlt : t < s.heap.objs.size := by obtain ⟨_, e, _⟩ := ht; exact Heap.lt_size e
  refine wpAny_pyIter_tuple ht (h _ rfl ⟨⟨_, Heap.get?_push_size _ rfl, rfl, rfl⟩, ht.push _⟩ (fun b hb => ?_) (Nat.ne_of_lt hlt))
  show b < (Heap.push s.heap _).objs.size
  rw [Heap.size_push]
  rcases List.mem_cons.mp hb with e | hb
  · omega
  · have e : b = t := by simpa using hb
    rw [e]; exact Nat.lt_succ_of_lt hlt
theorem kept_tup {h' : Heap} (hk : ∀ b o, b ∉ [s.heap.objs.size] → (s.heap.push { cls := .type "tuple_iterator", data := .fields #[.ref t, .int 0 0] }).get? b = some o → h'.get? b = some o) :
    ∀ b o, s.heap.get? b = some o → h'.get? b = some o := fun b o e => by
  refine hk b o (fun hm => ?_) (Heap.get?_push_of_some _ e)
  have e1 : b = s.heap.objs.size := by simpa using hm
  exact absurd (Heap.lt_size e) (by rw [e1]; exact Nat.lt_irrefl _)
theorem sum_tup (hh : A.handled = none) (hl : s.heap.IsTuple t its.toArray) (hi : IntsAre its ns)
    (h : ∀ h' tk t', (∀ b o, s.heap.get? b = some o → h'.get? b = some o) → Q0 (.int ns.sum t') { s with heap := h', toks := tk }) : wpAny (model prog w) A (call (.builtin "sum") [.ref t]) Q0 E s := by
  obtain ⟨xs, e⟩ := hi.allInts.items
  have hn : numsOf (intItems xs).toList = ns := by rw [← e]; exact hi.numsOf
  rw [nums_intItems] at hn
  rw [e] at hl
  refine call_sum_walkG (iter_intTup hl fun s₂ e st hfp hlI => ?_)
  subst e
  refine ⟨_, _, _, _, _, _, numAt xs, rfl, Walks.tuple (A := A.in1) hh _ t hlI (intItems xs), st, hfp, (fun _ _ => intItems_at), fun h' tk t' hk => ?_⟩
  have q := h h' tk t' (kept_tup hk)
  rw [← hn] at q
  have e2 : preSum (numAt xs) (intItems xs).size = ((xs.toList.map (·.1))).sum := by
    rw [show (intItems xs).size = xs.size by simp [intItems], preSum_eq, List.take_of_length_le (by simp)]
  rw [e2]
  exact q
theorem max_tup (hh : A.handled = none) (hl : s.heap.IsTuple t its.toArray) (hi : IntsAre its ns) (hne : 0 < ns.length)
    (h : ∀ h' tk M t', (∀ b o, s.heap.get? b = some o → h'.get? b = some o) → M ∈ ns → (∀ a, a ∈ ns → a ≤ M) → Q0 (.int M t') { s with heap := h', toks := tk }) : wpAny (model prog w) A (call (.builtin "max") [.ref t]) Q0 E s := by
  obtain ⟨xs, e⟩ := hi.allInts.items
  have hn : numsOf (intItems xs).toList = ns := by rw [← e]; exact hi.numsOf
  rw [nums_intItems] at hn
  subst hn
  rw [e] at hl
  have hsz : 0 < xs.size := by simpa using hne
  refine call_max_walk (iter_intTup hl fun s₂ e st hfp hlI => ?_)
  subst e
  refine ⟨_, _, _, _, _, _, _, rfl, Walks.tuple (A := A.in1) hh _ t hlI (intItems xs), st, hfp, by simpa [intItems] using hsz, CmpOf.ints_gt (numAt xs) (fun _ _ => intItems_at), fun v h' tk hP hk => ?_⟩
  obtain ⟨u, rfl⟩ := intItems_at hP
  have best := argBest_gt (numAt xs) ((intItems xs).size - 1)
  refine h h' tk _ u (kept_tup hk) ?_ fun a ha => ?_
  · rw [numAt_eq]; exact PySem.getD_mem (by rw [List.length_map, Array.length_toList]; have := best.1; simp [intItems] at this ⊢; omega)
  · obtain ⟨j, hj, rfl⟩ := mem_getD ha
    rw [List.length_map, Array.length_toList] at hj
    rw [← numAt_eq]; exact best.2 j (by simp [intItems]; omega)
theorem min_tup (hh : A.handled = none) (hl : s.heap.IsTuple t its.toArray) (hi : IntsAre its ns) (hne : 0 < ns.length)
    (h : ∀ h' tk M t', (∀ b o, s.heap.get? b = some o → h'.get? b = some o) → M ∈ ns → (∀ a, a ∈ ns → M ≤ a) → Q0 (.int M t') { s with heap := h', toks := tk }) : wpAny (model prog w) A (call (.builtin "min") [.ref t]) Q0 E s := by
  obtain ⟨xs, e⟩ := hi.allInts.items
  have hn : numsOf (intItems xs).toList = ns := by rw [← e]; exact hi.numsOf
  rw [nums_intItems] at hn
  subst hn
  rw [e] at hl
  have hsz : 0 < xs.size := by simpa using hne
  refine call_min_walk (iter_intTup hl fun s₂ e st hfp hlI => ?_)
  subst e
  refine ⟨_, _, _, _, _, _, _, rfl, Walks.tuple (A := A.in1) hh _ t hlI (intItems xs), st, hfp, by simpa [intItems] using hsz, CmpOf.ints_lt (numAt xs) (fun _ _ => intItems_at), fun v h' tk hP hk => ?_⟩
  obtain ⟨u, rfl⟩ := intItems_at hP
  have best := argBest_lt (numAt xs) ((intItems xs).size - 1)
  refine h h' tk _ u (kept_tup hk) ?_ fun a ha => ?_
  · rw [numAt_eq]; exact PySem.getD_mem (by rw [List.length_map, Array.length_toList]; have := best.1; simp [intItems] at this ⊢; omega)
  · obtain ⟨j, hj, rfl⟩ := mem_getD ha
    rw [List.length_map, Array.length_toList] at hj
    rw [← numAt_eq]; exact best.2 j (by simp [intItems]; omega)
end
end NV

set_option Elab.async false
set_option linter.all false
set_option maxRecDepth 100000
set_option maxHeartbeats 4000000
/-! tuple * int, the ways that HandS.TupMul leaves: by 1, by 0 or less, of an empty one. -/
namespace NV
open PySem PySem.Spec PyProof.Rows L2
theorem tuple_mul_one (l : Addr) (items : Array Value) (n : Nat) (dd : Option Addr) (sl : Array (Option Value)) (x : Int) (u : Tok)
    (k0 : (decide (x < -(2 ^ 63)) || decide (x ≥ 2 ^ 63)) = false) (k1 : (items.isEmpty || x == 1) = true) :
    Meets (Builtin.«tuple.__mul__» ⟨[.ref l, .int x u], []⟩) (fun _ R s => s.heap.get? l = some { cls := .type "tuple", dict := dd, data := .seq items n, slots := sl } ∧ R (.ok (.ret (.ref l))) s) :=
  .of_wp fun prog w A R s ⟨hl, h⟩ => by
    obtain ⟨hp, gg, dr, tk, os⟩ := s
    have f1 := AutoSeq1.idx_int
    wp_walk using wpAny_loadPart' hl
    refine wpAny_ite_false (decide_eq_false (by rw [k0]; exact Bool.false_ne_true)) ?_
    wp_walk using wpAny_loadPart' hl
    exact ⟨_, rfl, h⟩
theorem tuple_mul_zero (l : Addr) (items : Array Value) (n : Nat) (dd : Option Addr) (sl : Array (Option Value)) (x : Int) (u : Tok)
    (k0 : (decide (x < -(2 ^ 63)) || decide (x ≥ 2 ^ 63)) = false) (k1 : (items.isEmpty || x == 1) = false) (k2 : (decide (x ≤ 0) || items.isEmpty) = true) :
    Meets (Builtin.«tuple.__mul__» ⟨[.ref l, .int x u], []⟩) (fun _ R s => s.heap.get? l = some { cls := .type "tuple", dict := dd, data := .seq items n, slots := sl } ∧
      R (.ok (.ret (.ref s.heap.objs.size))) { s with heap := s.heap.push { cls := Value.type "tuple", data := Data.seq #[] }, toks := s.toks }) :=
  .of_wp fun prog w A R s ⟨hl, h⟩ => by
    obtain ⟨hp, gg, dr, tk, os⟩ := s
    have f1 := AutoSeq1.idx_int
    wp_walk using wpAny_loadPart' hl
    refine wpAny_ite_false (decide_eq_false (by rw [k0]; exact Bool.false_ne_true)) ?_
    wp_walk using wpAny_loadPart' hl
    all_goals try (refine wpAny_ite_false (decide_eq_false (by rw [k1]; exact Bool.false_ne_true)) ?_; wp_walk using wpAny_loadPart' hl)
    exact ⟨_, rfl, h⟩
/-- t * k, any small k -/
def rRepA (K : PySem.W.Frag) : R2 := fun x y H Q => ∃ l k xs, x = .ref l ∧ y = .int k ∧ SqT K H l xs ∧ -1000000 ≤ k ∧ k ≤ 1000000 ∧
  ((xs = [] ∨ k = 1) → Q (.ref l) H) ∧ (xs ≠ [] → k ≤ 0 → ∀ p, H p = none → Q (.ref p) (upd H p (.tup []))) ∧
  (xs ≠ [] → 2 ≤ k → (k ≤ 1000 ∧ xs.length ≤ 1000) ∧ ∀ p, H p = none → Q (.ref p) (upd H p (.tup (List.replicate k.toNat xs).flatten)))
theorem op_repA {X : Cx} : OpR X (binaryOp .Mult) (rRepA X.K) := fun pins s σ H x y v u Q I rx ry ⟨l, k, xs, e1, e2, hT, h1, h2, qs, qz, qr⟩ => by
  by_cases hk : xs ≠ [] ∧ 2 ≤ k
  · obtain ⟨⟨h3, h4⟩, q⟩ := qr hk.1 hk.2
    exact op_repT pins s σ H x y v u Q I rx ry ⟨l, k, xs, e1, e2, hT, hk.1, hk.2, h3, h4, q⟩
  subst e1 e2
  cases rx
  obtain ⟨t, rfl⟩ := ry
  obtain ⟨its, r, ⟨⟨cls, dd, data, sl⟩, ho, hc, n, hd⟩, hs⟩ := I.tuple hT
  simp only at hc hd
  subst hc hd
  have hle : its.length = xs.length := r.length.symm
  have hie : its.toArray.isEmpty = decide (xs = []) := by
    cases its <;> cases xs <;> first | rfl | simp at hle
  have k0 : (decide (k < -(2 ^ 63)) || decide (k ≥ 2 ^ 63)) = false := by
    rw [decide_eq_false (by omega), decide_eq_false (by omega)] <;> rfl
  by_cases h1 : xs = [] ∨ k = 1
  · have k1 : (its.toArray.isEmpty || k == 1) = true := by
      rw [hie]
      rcases h1 with e | e <;> simp [e]
    refine wpAny_binaryOp_repeat_ref (T := "tuple") (U := "int") (by decide) ⟨_, ho, rfl⟩ (fun s' => typeIs_int s' k t) noFill_tuple_mul F.fills_int_mul F.slot_int_rmul repeat_tuple F.slot_int_index.lookup
      (call_meets F.slot_int_rmul (typeIs_int s k t) F.entry_int_rmul (F.args_int_rmul_2 _ _) (int_rmul_tuple k t l its.toArray n dd sl)
        ⟨ho, rfl, ⟨_, ho, rfl⟩, call_meets F.slot_tuple_mul ⟨_, ho, rfl⟩ F.entry_tuple_mul (F.args_tuple_mul_2 _ _) (tuple_mul_one l its.toArray n dd sl k t k0 k1) ⟨ho, ?_⟩⟩)
    exact ⟨.ref l, H, I, rfl, qs h1⟩
  · have hne : xs ≠ [] := fun e => h1 (.inl e)
    have hk0 : k ≤ 0 := by
      have a1 : ¬ k = 1 := fun e => h1 (.inr e)
      have a2 : ¬ 2 ≤ k := fun e => hk ⟨hne, e⟩
      omega
    have k1 : (its.toArray.isEmpty || k == 1) = false := by
      rw [hie, decide_eq_false hne, Bool.false_or]
      exact beq_eq_false_iff_ne.mpr (by omega)
    have k2 : (decide (k ≤ 0) || its.toArray.isEmpty) = true := by rw [decide_eq_true hk0]; rfl
    refine wpAny_binaryOp_repeat_ref (T := "tuple") (U := "int") (by decide) ⟨_, ho, rfl⟩ (fun s' => typeIs_int s' k t) noFill_tuple_mul F.fills_int_mul F.slot_int_rmul repeat_tuple F.slot_int_index.lookup
      (call_meets F.slot_int_rmul (typeIs_int s k t) F.entry_int_rmul (F.args_int_rmul_2 _ _) (int_rmul_tuple k t l its.toArray n dd sl)
        ⟨ho, rfl, ⟨_, ho, rfl⟩, call_meets F.slot_tuple_mul ⟨_, ho, rfl⟩ F.entry_tuple_mul (F.args_tuple_mul_2 _ _) (tuple_mul_zero l its.toArray n dd sl k t k0 k1 k2) ⟨ho, ?_⟩⟩)
    refine ⟨.ref s.heap.objs.size, _, I.laid (t' := s.toks) (o := .tup []) (fun b ob q => Heap.get?_push_of_some _ q) (Nat.le_refl _) ?_, rfl, qz hne hk0 _ (I.hok.fresh (Nat.le_refl _))⟩
    exact ⟨by simp, [], .nil, IsTup.new _ _⟩
end NV

set_option Elab.async false
set_option linter.all false
set_option maxRecDepth 100000
set_option maxHeartbeats 4000000
/-! t += u of tuples. -/
namespace NV
open PySem PySem.Spec PyProof.Rows L2 HT
theorem noI_tup : typeLookup (.type "tuple") (dunderI "add") = pure none := by
  first | rfl | decide | (exact PySem.typeLookup_none (by decide +kernel))
theorem iop_catA {X : Cx} : OpR X (inplaceOp .Add) (rCatA X.K) := fun pins s σ H x y v u Q I rx ry ⟨a, b, xs, ys, e1, e2, ha, hb, hz, q0, q1, q2⟩ => by
  subst e1 e2
  cases rx
  cases ry
  obtain ⟨its, r1, ⟨⟨cls, dd, data, sl⟩, ho, hc, n, hd⟩, _⟩ := I.tuple ha
  obtain ⟨its2, r2, ⟨⟨cls2, dd2, data2, sl2⟩, ho2, hc2, n2, hd2⟩, _⟩ := I.tuple hb
  simp only at hc hd hc2 hd2
  subst hc hd hc2 hd2
  have z1 := r1.length
  have z2 := r2.length
  by_cases hx : xs = []
  · have e : its.toArray.isEmpty = true := by
      subst hx
      have : its = [] := List.length_eq_zero_iff.mp z1.symm
      subst this; rfl
    exact wpAny_inplaceOp_concat ⟨_, ho, rfl⟩ ⟨_, ho2, rfl⟩ noI_tup noFill_tuple_add seq_tuple_add (call_meets F.slot_tuple_add ⟨_, ho, rfl⟩ F.entry_tuple_add (F.args_tuple_add_2 _ _)
      (tuple_addW0 a b its.toArray its2.toArray n n2 dd dd2 sl sl2 e) ⟨ho, ho2, ⟨.ref b, H, I, rfl, q0 hx⟩⟩)
  · have h0 : its ≠ [] := fun q => hx (List.length_eq_zero_iff.mp (by rw [z1, q]; rfl))
    by_cases hy : ys = []
    · have e : its2 = [] := by
        subst hy
        exact List.length_eq_zero_iff.mp z2.symm
      exact wpAny_inplaceOp_concat ⟨_, ho, rfl⟩ ⟨_, ho2, rfl⟩ noI_tup noFill_tuple_add seq_tuple_add (call_meets F.slot_tuple_add ⟨_, ho, rfl⟩ F.entry_tuple_add (F.args_tuple_add_2 _ _)
        (tuple_addW1 a b its.toArray its2.toArray n n2 dd dd2 sl sl2 (by simpa using h0) (by simp [e])) ⟨ho, ho2, ⟨.ref a, H, I, rfl, q1 hx hy⟩⟩)
    · have h1 : its2 ≠ [] := fun q => hy (List.length_eq_zero_iff.mp (by rw [z2, q]; rfl))
      refine wpAny_inplaceOp_concat ⟨_, ho, rfl⟩ ⟨_, ho2, rfl⟩ noI_tup noFill_tuple_add seq_tuple_add (call_meets F.slot_tuple_add ⟨_, ho, rfl⟩ F.entry_tuple_add (F.args_tuple_add_2 _ _)
        (tuple_addW2 a b its.toArray its2.toArray n n2 dd dd2 sl sl2 (by simpa using h0) (by simpa using h1) (by rw [List.size_toArray, List.size_toArray, ← z1, ← z2]; exact hz)) ⟨ho, ho2, ?_⟩)
      rw [show its.toArray ++ its2.toArray = (its ++ its2).toArray by simp]
      refine ⟨.ref s.heap.objs.size, _, I.laid (t' := s.toks) (o := .tup (xs ++ ys)) (fun b ob q => Heap.get?_push_of_some _ q) (Nat.le_refl _) ?_, rfl, q2 hx hy _ (I.hok.fresh (Nat.le_refl _))⟩
      exact ⟨by rw [List.length_append]; exact hz, _, r1.append r2, IsTup.new _ _⟩
end NV

set_option Elab.async false
set_option linter.all false
set_option maxRecDepth 100000
/-! t.index(x): the first place of an equal one in a tuple. -/
namespace NV
open PySem PySem.Spec PyProof.Rows L2
section
variable {X : Cx}
/-- what a tuple's index asks -/
def rIndexT (K : PySem.W.Frag) : V → List V → Hp → VK → Prop := fun x xs H Q => ∃ (a : Addr) (y : V) (d : PyData) (ds : List PyData) (j : Nat) (z : PyData), x = V.ref a ∧ xs = [y] ∧ Dp K H (V.ref a) (.tuple ds) ∧ Dp K H y d ∧
  SeqAt.shaped (.tuple ds) = true ∧ SeqAt.shaped d = true ∧ ds[j]? = some z ∧ PyData.eqv z d = true ∧ (∀ (m : Nat) (z' : PyData), m < j → ds[m]? = some z' → PyData.eqv z' d = false) ∧ Q (.int (j : Nat)) H
theorem room_of {A : Around} {d : PyData} {ds : List PyData} (h : SeqAt.shaped d = true) (hu : A.units + 65 < cLine) : A.units + 1 + min (PyData.depthAll ds) d.depth < cLine := by
  have h1 := SeqAt.depth_of_shaped h
  omega
theorem mt_indexT (hu : X.A.units + 65 < cLine) : MtR X "tuple.index" (rIndexT X.K) := by
  intro pins s σ H x xs v us Q I rx rxs h
  obtain ⟨a, y, d, ds, j, z, rfl, rfl, hl, hy, sl, sd, hz, hzj, hno, q⟩ := h
  cases rx
  cases rxs with
  | cons ry rt =>
    rename_i uy ut
    cases rt
    obtain ⟨bs, r1⟩ := Dp.reads I d y uy hy ry
    have hxs : PyData.canLayAll0 ds = true := SeqAt.canLay_of_shaped sl
    cases hl with
    | tup hs ha =>
      obtain ⟨its, rv, pl, hlen⟩ := I.tuple hs
      obtain ⟨⟨cls, dd, data, sls⟩, ho, hc, n, hdt⟩ := pl
      simp only at hc hdt
      subst hc hdt
      obtain ⟨as, h4⟩ := Dp.readsAll I ds _ its ha rv
      have hn : its.length = ds.length := SeqAt.ReadsAll.length ds its as h4
      have hmap : its.map (SeqAt.readOf s.heap) = ds := SeqAt.readsAll_map ds its as hxs h4
      obtain ⟨hjd, _⟩ := List.getElem?_eq_some_iff.mp hz
      have hjl : j < its.length := by omega
      have at_ : ∀ (m : Nat) (hm : m < its.length), SeqAt.readOf s.heap its[m] = ds[m]'(by omega) := by
        intro m hm
        have e : (its.map (SeqAt.readOf s.heap))[m]? = ds[m]? := by rw [hmap]
        rw [List.getElem?_map, List.getElem?_eq_getElem hm, List.getElem?_eq_getElem (by omega)] at e
        exact Option.some.inj e
      have eqs := SeqAt.items_eqAt (A := X.A) (vs := its.toArray) (show ReadsAll s.heap its.toArray.toList ds as from h4) r1 hxs (SeqAt.canLay_of_shaped sd) (room_of sd hu)
      refine call_meets PySem.F.slot_tuple_index ⟨_, ho, rfl⟩ PySem.F.entry_tuple_index (PySem.F.args_tuple_index_2 _ _)
        (PySem.SeqAt.tuple_index2_found a its.toArray n dd sls uy (fun m => match its[m]? with | some u => PyData.eqv (SeqAt.readOf s.heap u) d | none => false) j (by simpa using hjl) (Nat.zero_le _) (by simpa using hjl) ?_ ?_) ⟨ho, fun m hm => ?_, ?_⟩
      · show (match its[j]? with | some u => PyData.eqv (SeqAt.readOf s.heap u) d | none => false) = true
        rw [List.getElem?_eq_getElem hjl]
        show PyData.eqv (SeqAt.readOf s.heap its[j]) d = true
        rw [at_ j hjl]
        rw [List.getElem?_eq_getElem hjd] at hz
        cases hz
        exact hzj
      · intro m hm _ hmj
        have hml : m < its.length := by simpa using hm
        show (match its[m]? with | some u => PyData.eqv (SeqAt.readOf s.heap u) d | none => false) = false
        rw [List.getElem?_eq_getElem hml]
        show PyData.eqv (SeqAt.readOf s.heap its[m]) d = false
        rw [at_ m hml]
        exact hno m _ hmj (List.getElem?_eq_getElem (by omega))
      · have hml : m < its.length := by simpa using hm
        have e := eqs its.toArray[m] (Array.getElem_mem hm)
        show SeqAt.EqAt X.A.in1 s its.toArray[m] uy (match its[m]? with | some u => PyData.eqv (SeqAt.readOf s.heap u) d | none => false)
        rw [List.getElem?_eq_getElem hml]
        simpa using e
      · exact ⟨.int (j : Nat), H, I.tok _, ⟨_, rfl⟩, q⟩
/-- set(t), t a tuple of ints -/
theorem cr_setTI (hc : X.calm = true) : CallR X (.type "set") (fun xs H Q => ∃ (a : Addr) (ns : List Int), xs = [V.ref a] ∧ SqT X.K H a (ns.map V.int) ∧ ns.length < 64 ∧ ∀ p n, H p = none → n ≤ ns.length → Q (.ref p) (upd H p (SetO X.w p (fun j => decide (j ∈ ns)) n))) := by
  intro pins s σ H xs us Q I r h
  obtain ⟨a, ns, rfl, hs, hn, q⟩ := h
  obtain ⟨its, rv, pl, hz⟩ := I.tuple hs
  rw [Vals.ref1 r]
  refine call_set_tupI ns (I.ok.hd hc) pl (by simpa using rv.ints) (by unfold scanBound; omega) fun h' tk c R hc' hk => ?_
  exact ⟨.ref s.heap.objs.size, upd H s.heap.objs.size (SetO X.w s.heap.objs.size (fun j => decide (j ∈ ns)) c), I.laid hk (Nat.le_refl _) (setO_new R), rfl, q _ c (I.hok.fresh (Nat.le_refl _)) hc'⟩
def min3 (a b c : Int) : Int := if b < a then (if c < b then c else b) else (if c < a then c else a)
theorem cr_min3 (hc : X.calm = true) : CallR X (.builtin "min") (fun xs H Q => ∃ a b c : Int, xs = [V.int a, V.int b, V.int c] ∧ Q (.int (min3 a b c)) H) := by
  intro pins s σ H xs us Q I r h
  obtain ⟨a, b, c, rfl, q⟩ := h
  cases r with
  | cons r1 r =>
    cases r with
    | cons r2 r =>
      cases r with
      | cons r3 r =>
        cases r
        obtain ⟨t1, rfl⟩ := r1
        obtain ⟨t2, rfl⟩ := r2
        obtain ⟨t3, rfl⟩ := r3
        refine PySem.min_three_ints (I.ok.hd hc) fun h' tk hk => ?_
        refine ⟨.int (min3 a b c), H, I.kept hk, ?_, q⟩
        unfold min3
        split <;> split <;> exact ⟨_, rfl⟩
end
end NV

set_option Elab.async false
set_option linter.all false
set_option maxRecDepth 100000
set_option maxHeartbeats 4000000
/-! sorted of tuples of ints, by reverse= too; len(set(xs)). -/
namespace NV
open PySem PySem.Spec PyProof.Rows L2
section
variable {prog : Program} {w : World} {A : Around} {E : Value → Shared → Prop} {s : Shared}
/-- what is gathered of a tuple -/
theorem gather_tup {l : Addr} {vs : List Value} {Q : List Value → Shared → Prop} (hl : s.heap.IsTuple l vs.toArray) (hsz : vs.length ≤ sizeLine)
    (h : Q vs { s with heap := (s.heap.push (seqObj "list" #[] 0)).update s.heap.objs.size (Obj.mapSeq (· ++ vs.toArray)) }) : wpAny (model prog w) A (collect (.ref l)) Q E s := by
  obtain ⟨o, ho, hc, n, hd⟩ := id hl
  unfold collect
  refine wpAny_bind (wpAny_runValue (codeAny_builtin entry_proto_collect' ?_))
  show wpAny _ _ (do again (.builtin "list.__iadd__" ⟨[← newList [], .ref l], []⟩)) _ _ s
  refine wpAny_bind (wpAny_newList (wpAny_pure ⟨Code.quiet_builtin _ (by decide +kernel), codeAny_builtin entry_list_iadd' ?_⟩))
  show wpAny _ _ (Builtin.List.listExtendWith (.ref s.heap.objs.size) (.ref l) (.ref s.heap.objs.size)) _ _ { s with heap := s.heap.push (seqObj "list" #[] 0) }
  unfold Builtin.List.listExtendWith
  have ho' : (s.heap.push (seqObj "list" #[] 0)).get? l = some o := Heap.get?_push_of_some _ ho
  refine wpAny_bind (wpAny_typeOf (T := "tuple") ⟨o, ho', hc⟩ ?_)
  have ht : (Value.type "tuple" == Value.type "tuple") = true := by rfl
  rw [if_pos (by rw [ht]; simp)]
  refine wpAny_bind (listItems_at ho' hd ?_)
  refine wpAny_bind (listItems_at (xs := #[]) (n := 0) (Heap.get?_push_size _ rfl) rfl ?_)
  rw [if_neg (by simp)]
  refine wpAny_bind (listUpdate_at (xs := #[]) (n := 0) (Heap.get?_push_size _ rfl) rfl ?_ (Nat.zero_le _) (by show (#[] ++ vs.toArray).size ≤ sizeLine + 1; simp only [Array.size_append, List.size_toArray, List.length_nil]; omega))
  refine wpAny_pure ?_
  show wpAny (model prog w) A (do
      let o ← load s.heap.objs.size
      match o.data with
      | .seq xs _ => pure xs.toList
      | _ => unsupported "internal:collect") Q E { s with heap := (s.heap.push (seqObj "list" #[] 0)).update s.heap.objs.size (Obj.mapSeq (· ++ vs.toArray)) }
  refine wpAny_bind (wpAny_load (get?_update_seq (Heap.get?_push_size _ rfl) _) ?_)
  show wpAny _ _ (pure ((#[] : Array Value) ++ vs.toArray).toList) Q E _
  rw [show ((#[] : Array Value) ++ vs.toArray).toList = vs by simp]
  exact wpAny_pure h
/-- sorted(t, ..), t a tuple -/
theorem sortedT_kw {l : Addr} {vs : List Value} {b : Bool} {kw : List (Str × Value)} {ltv : Value → Value → Bool} {Q : Value → Shared → Prop} (hk : ∀ a, Builtin.«list.sort» ⟨[.ref a], kw⟩ = Builtin.«list.sort» ⟨[.ref a], [(Str.ofString "reverse", .bool b)]⟩)
    (ha1 : argsOk "sorted" ⟨[.ref l], kw⟩) (ha2 : ∀ a, argsOk "list.sort" ⟨[a], kw⟩) (O : SrtO.Swo ltv) (hl : s.heap.IsTuple l vs.toArray) (hz : vs.length ≤ sizeLine)
    (hS : 2 ≤ vs.length → ∀ (h₁ : Heap) (a : Addr), h₁.get? a = some (seqObj "list" vs.toArray 0) → (∀ b o, s.heap.get? b = some o → b ≠ a ∧ h₁.get? b = some o) → SrtO.SortableO prog w A.in1.in1 { s with heap := h₁ } a vs ltv)
    (h : ∀ out : List Value, SrtO.Srtd ltv out → SrtO.Stb ltv out (if b = true then vs.reverse else vs) → Q (.ref (s.heap.objs.size + 1)) { s with heap := sortedAll s.heap vs (if b = true then out.toArray.reverse else out.toArray) }) :
    wpAny (model prog w) A (call (.builtin "sorted") [.ref l] kw) Q E s := by
  refine call_function_entry_kw kind_sorted plain_sorted entry_sorted ha1 ?_
  unfold Builtin.«sorted»
  refine wpAny_bind (m := checkCount "sorted" 1 1 _) (wpAny_pure ?_)
  refine wpAny_bind (gather_tup hl hz ?_)
  refine wpAny_bind (wpAny_newList ?_ hz)
  have hsz : ((s.heap.push (seqObj "list" #[] 0)).update s.heap.objs.size (Obj.mapSeq (· ++ vs.toArray))).objs.size = s.heap.objs.size + 1 := by
    rw [Heap.size_update, size_push']
  have hoL : (((s.heap.push (seqObj "list" #[] 0)).update s.heap.objs.size (Obj.mapSeq (· ++ vs.toArray))).push (seqObj "list" vs.toArray 0)).get? (s.heap.objs.size + 1) = some (seqObj "list" vs.toArray 0) := by
    rw [← hsz]; exact Heap.get?_push_size _ rfl
  have keep : ∀ b o, s.heap.get? b = some o → b ≠ s.heap.objs.size + 1 ∧ (((s.heap.push (seqObj "list" #[] 0)).update s.heap.objs.size (Obj.mapSeq (· ++ vs.toArray))).push (seqObj "list" vs.toArray 0)).get? b = some o := fun b o q => by
    have hlt : b < s.heap.objs.size := Heap.lt_size q
    refine ⟨Nat.ne_of_lt (Nat.lt_succ_of_lt hlt), Heap.get?_push_of_some _ ?_⟩
    rw [Heap.get?_update_ne _ _ _ _ (Nat.ne_of_lt hlt)]
    exact Heap.get?_push_of_some _ q
  show wpAny _ _ _ _ _ { s with heap := ((s.heap.push (seqObj "list" #[] 0)).update s.heap.objs.size (Obj.mapSeq (· ++ vs.toArray))).push (seqObj "list" vs.toArray 0) }
  rw [hsz]
  refine wpAny_bind (wpAny_holding (wpAny_call_entry_kw slot_list_sort ⟨_, hoL, rfl⟩ entry_list_sort ?_ (ha2 _)))
  rw [hk]
  refine SrtR.list_sort_ordR O hoL hz (fun h2 => hS h2 _ _ hoL keep) fun out hs hb => ⟨_, rfl, ?_⟩
  exact wpAny_pure ⟨_, rfl, h out hs hb⟩
end
section
variable {X : Cx}
/-- sorted of a list or a tuple of ints by reverse=b -/
def rSortedS (K : PySem.W.Frag) (b : Bool) (zs0 : List V) : List V → List V → Hp → VK → Prop := fun vs zs H Q => ∃ (a : Addr) (ns : List Int), vs = [V.ref a] ∧ zs = zs0 ∧ (SqL K H a (ns.map V.int) ∨ SqT K H a (ns.map V.int)) ∧
  ∀ (ns' : List Int) (p : Addr), ns'.Perm ns → OrdB b ns' → H p = none → Q (.ref p) (upd H p (.lst (ns'.map V.int)))
theorem sortedS_run {b : Bool} {kw : List (Str × Value)} {pins : List (Addr × Obj)} {s : Shared} {σ : L2.St} {H : Hp} {a : Addr} {ns : List Int} {Q : VK} (I : Inv X pins σ H s) (hs : SqT X.K H a (ns.map V.int))
    (hk : ∀ a, Builtin.«list.sort» ⟨[.ref a], kw⟩ = Builtin.«list.sort» ⟨[.ref a], [(Str.ofString "reverse", .bool b)]⟩) (ha1 : argsOk "sorted" ⟨[.ref a], kw⟩) (ha2 : ∀ a, argsOk "list.sort" ⟨[a], kw⟩)
    (q : ∀ (ns' : List Int) (p : Addr), ns'.Perm ns → OrdB b ns' → H p = none → Q (.ref p) (upd H p (.lst (ns'.map V.int)))) : wpAny (model X.prog X.w) X.A (call (.builtin "sorted") [.ref a] kw) (EP X pins σ Q) X.xe s := by
  obtain ⟨its, rv, hl, hz⟩ := I.tuple hs
  have hi := rv.ints
  refine sortedT_kw hk ha1 ha2 SrtO.swo_int hl (by rw [← rv.length]; exact hz) (fun h2 h₁ a' _ _ => SrtO.ints_sortable hi h2) fun out h1 h2 => ?_
  obtain ⟨ns', k1, k2, k3⟩ := SrtR.ints_outR hi h1 h2
  obtain ⟨ep, he'⟩ := PyProof.Rows.sortedAll_at s.heap its (if b = true then out.toArray.reverse else out.toArray)
  have hlen : (ns'.map V.int).length ≤ sizeLine := by
    rw [List.length_map, k2.length_eq]
    rw [List.length_map] at hz
    exact hz
  have e0 : ((if b = true then out.toArray.reverse else out.toArray).toList).toArray = (if b = true then out.toArray.reverse else out.toArray) := by rw [Array.toArray_toList]
  exact ⟨.ref _, upd H (s.heap.objs.size + 1) (.lst (ns'.map V.int)), I.laid (t' := s.toks) (fun _ _ => PyProof.Rows.sortedAll_old) (Nat.le_succ _) ⟨hlen, _, ep, vals_of_ints k1, by rw [e0]; exact he'⟩, rfl, q _ _ k2 k3 (I.hok.fresh (Nat.le_succ _))⟩
theorem cr_sortedRevS {b : Bool} : CallRK X (.builtin "sorted") [Str.ofString "reverse"] (rSortedS X.K b [.bl b]) := by
  intro pins s σ H vs zs us ws Q I r rz h
  obtain ⟨a, ns, rfl, rfl, hs, q⟩ := h
  rcases hs with hs | hs
  · exact cr_sortedRev pins s σ H _ _ us ws Q I r rz ⟨a, ns, rfl, rfl, hs, q⟩
  · obtain rfl := Vals.ref1 r
    obtain ⟨w1, rfl, e1⟩ := vals1 rz
    obtain rfl : w1 = Value.bool b := e1
    exact sortedS_run I hs (fun _ => rfl) (PyProof.Rows.args_sorted_rev _ _) (fun _ => PyProof.Rows.args_list_sort_rev _ _) q
/-- sorted(t), t a tuple of ints -/
theorem cr_sortedTI : CallR X (.builtin "sorted") (fun vs H Q => ∃ (a : Addr) (ns : List Int), vs = [V.ref a] ∧ SqT X.K H a (ns.map V.int) ∧ ∀ (ns' : List Int) (p : Addr), ns'.Perm ns → ns'.Pairwise (· ≤ ·) → H p = none → Q (.ref p) (upd H p (.lst (ns'.map V.int)))) := by
  intro pins s σ H vs us Q I r h
  obtain ⟨a, ns, rfl, hs, q⟩ := h
  obtain rfl := Vals.ref1 r
  exact sortedS_run (b := false) (kw := []) I hs (fun _ => rfl) (args_sorted1 _) (fun _ => by first | exact args_list_sort1 _ | (unfold argsOk; kernel_rfl)) q
end
/-! ### len(set(xs)), xs a list or a tuple of ints -/
/-- how many unlike ones -/
def nset (ns : List Int) : Nat := (firstMet (fun i => ns.getD i 0) ns.length).length
theorem met_nodup (val : Nat → Int) : ∀ i, (firstMet val i).Nodup
  | 0 => List.nodup_nil
  | i + 1 => by
    rw [firstMet_succ]
    unfold step_dedup
    split
    · exact met_nodup val i
    · rename_i h
      refine List.nodup_append.mpr ⟨met_nodup val i, by simp, fun x hx y hy e => h (List.any_eq_true.mpr ⟨x, hx, ?_⟩)⟩
      rw [e, List.mem_singleton.mp hy]; exact beq_self_eq_true _
theorem met_mem {ns : List Int} {k : Int} : k ∈ firstMet (fun i => ns.getD i 0) ns.length ↔ k ∈ ns := by
  have e := firstMet_any (fun i => ns.getD i 0) ns.length k
  have e2 : (List.range ns.length).map (fun i => ns.getD i 0) = ns := by
    refine List.ext_getElem (by simp) fun i h1 h2 => by simp [List.getD_eq_getElem?_getD, List.getElem?_eq_getElem h2]
  rw [e2] at e
  have q : ∀ l : List Int, l.any (fun x => x == k) = true ↔ k ∈ l := fun l => by simp
  rw [← q, ← q, e]
section
variable {X : Cx}
def tLenSetS (K : PySem.W.Frag) (ta : TE) : TE := fun σ H Q => ta σ H fun x H1 => ∃ (l : Addr) (ns : List Int), x = V.ref l ∧ (SqL K H1 l (ns.map V.int) ∨ SqT K H1 l (ns.map V.int)) ∧ ns.length < 1000 ∧ Q (.int (nset ns)) H1
theorem pe_lenSetS {a : Expr} {ta : TE} {p p2 q pos : Pos} (hc : X.calm = true) (hg : Gl X "len") (hm : X.mg "len" = none) (hg2 : Gl X "set") (hm2 : X.mg "set" = none) (ha : PE X a ta)
    (na : starEach [a] X.env = (false, eval a X.env) :: starEach [] X.env := by rfl) : PE X (.Call (.Name "len" p) [.Call (.Name "set" p2) [a] [] q] [] pos) (tLenSetS X.K ta) := by
  refine ⟨fun pins s σ H Q I h => ?_⟩
  refine Call_ (ld_blt I hg hm PySem.boot_len ?_)
  refine PyProof.Rows.callWith_builtin1 (PyProof.Rows.args_cons ?_ rfl) rfl rfl
  refine Call_ (ld_blt I hg2 hm2 PyProof.Rows.boot_set ?_)
  refine PyProof.Rows.callWith_type1 (PyProof.Rows.args_cons (thn (ha.run pins s σ H _ I h) fun v s1 ⟨x, H1, I1, r1, q1⟩ => PyProof.Rows.args_nil ?_) na) na rfl
  obtain ⟨l, ns, rfl, hq, h1, q1⟩ := q1
  cases r1
  rcases hq with hq | hq
  · obtain ⟨its, r, pl, hz⟩ := I1.list hq
    have hl : its.toArray.size = ns.length := by rw [List.size_toArray, ← r.length, List.length_map]
    refine call_set_list (I1.ok.hd hc) pl.isList (ns := ns) (by simpa using r.ints) (by unfold scanBound; omega) fun h' tk hS hk => ?_
    rw [hl] at hS
    refine PyProof.Rows.args_nil ?_
    obtain ⟨o, es, ep, t, ho, hex, hd, _, _, _, hf, hn⟩ := hS
    have I2 : Inv X pins σ H1 { s1 with heap := h', toks := tk } := I1.kept fun b o e => hk b o (Heap.lt_size e) e
    have hle : (firstMet (fun i => ns.getD i 0) ns.length).length ≤ ns.length := firstMet_length_le _ _
    refine call_len_set ho hex hd hf (by rw [hn] <;> omega) ⟨.int (nset ns), H1, I2.tok _, ⟨_, by rw [hn]; rfl⟩, q1⟩
  · obtain ⟨its, r, pl, hz⟩ := I1.tuple hq
    refine call_set_tupI ns (I1.ok.hd hc) pl (by simpa using r.ints) (by unfold scanBound; omega) fun h' tk c R hc' hk => ?_
    refine PyProof.Rows.args_nil ?_
    obtain ⟨o, es, ep, t, ho, hex, hd, _, hnd, hmem, _, hf, hn, _⟩ := R
    have I2 : Inv X pins σ H1 { s1 with heap := h', toks := tk } := I1.kept hk
    have e : es.size = nset ns := by
      have pm : (es.toList.map keyOf).Perm (firstMet (fun i => ns.getD i 0) ns.length) := (List.perm_ext_iff_of_nodup hnd (met_nodup _ _)).mpr fun k => by
        rw [← hmem k, met_mem]; simp
      have := pm.length_eq
      rw [List.length_map, Array.length_toList] at this
      exact this
    refine call_len_set ho hex hd hf (by omega) ⟨.int (nset ns), H1, I2.tok _, ⟨_, by rw [e]⟩, q1⟩
end
end NV

set_option Elab.async false
set_option linter.all false
set_option maxRecDepth 100000
set_option maxHeartbeats 4000000
/-! Rows: tuples of which it is known, object by object, what they are (so that their methods may be called). -/
namespace NV
open PySem PySem.Spec PyProof.Rows L2 HT
abbrev rowO (its : Array Value) : Obj := { cls := .type "tuple", data := .seq its }
/-- a row at an address -/
def RowAt (H : Hp) (a : Addr) (vs : List V) : Prop := ∃ o : Obj, H a = some (.frz o (.tup vs)) ∧ o.cls = .type "tuple" ∧ o.dict = none
theorem RowAt.sq {K : PySem.W.Frag} {H : Hp} {a : Addr} {vs : List V} (h : RowAt H a vs) : SqT K H a vs := let ⟨o, e, _⟩ := h; .inl (.inr ⟨o, e⟩)
/-- what a new row asks -/
def NewR (H : Hp) (Q : VK) (ys : List V) : Prop := ∀ (p : Addr) (o : Obj), H p = none → o.cls = .type "tuple" → o.dict = none → Q (.ref p) (upd H p (.frz o (.tup ys)))
section
variable {X : Cx}
theorem row_end {pins : List (Addr × Obj)} {σ : L2.St} {H : Hp} {s : Shared} {Q : VK} {tk : Nat} {ys : List V} {its : Array Value} (I : Inv X pins σ H s) (hz : ys.length ≤ sizeLine) (r : Vals ys its.toList) (q : NewR H Q ys) :
    EP X pins σ Q (.ref s.heap.objs.size) { s with heap := s.heap.push (rowO its), toks := tk } := by
  refine ⟨V.ref s.heap.objs.size, upd H s.heap.objs.size (.frz (rowO its) (.tup ys)), I.laid (t' := tk) (fun b ob e => Heap.get?_push_of_some _ e) (Nat.le_refl _) ?_, rfl, q _ (rowO its) (I.hok.fresh (Nat.le_refl _)) rfl rfl⟩
  refine ⟨Heap.get?_push_size _ rfl, hz, its.toList, r, ?_⟩
  rw [Array.toArray_toList]
  exact IsTup.new _ _
theorem row_at {pins : List (Addr × Obj)} {σ : L2.St} {H : Hp} {s : Shared} {a : Addr} {vs : List V} (I : Inv X pins σ H s) (h : RowAt H a vs) : s.TypeIs (.ref a) "tuple" ∧ ∀ b, Value.ref a = .ref b → ∃ ob, s.heap.get? b = some ob ∧ ob.dict = none := by
  obtain ⟨o, e, hc, hd⟩ := h
  have ok := (I.hok a _ e).1
  refine ⟨⟨o, ok, hc⟩, fun b q => ?_⟩
  cases q
  exact ⟨o, ok, hd⟩
/-- a written row -/
def tRow (t : TA) : TE := fun σ H Q => t σ H fun xs H1 => xs.length ≤ sizeLine ∧ NewR H1 Q xs
theorem pe_row {es : List Expr} {t : TA} {x1 : Nat} {pos : Pos} (h : PA X es t) : PE X (.Tuple es x1 pos) (tRow t) := by
  refine ⟨fun pins s σ H Q I hq => wpAny_Tuple_spliced (thn (h.run pos pins s σ H _ I hq) fun us s1 ⟨xs, H1, I1, r, z, q⟩ => ⟨r.length ▸ z, ?_⟩)⟩
  have := row_end (tk := s1.toks) (its := us.toArray) I1 z (by simpa using r) q
  exact this
/-- tuple(x) -/
def kRow (K : PySem.W.Frag) : List V → Hp → VK → Prop := fun xs H Q => ∃ p ys, xs = [V.ref p] ∧ ((SqL K H p ys ∧ NewR H Q ys) ∨ (SqT K H p ys ∧ Q (.ref p) H))
theorem cr_rowOf : CallR X (.type "tuple") (kRow X.K) := fun pins s σ H xs us Q I rs ⟨p, ys, e, h⟩ => by
  subst e
  obtain ⟨u, eu, ru⟩ := vals1 rs
  subst eu
  cases ru
  cases h with
  | inl h =>
    obtain ⟨its, rv, pl, hz⟩ := I.list h.1
    refine call_tuple_list pl.isList (fun hp kp => ?_) (by have := rv.length; rw [List.size_toArray]; omega)
    exact row_end (s := { s with heap := hp }) (tk := s.toks) (its := its.toArray) (I.kept (t' := s.toks) kp) hz (by simpa using rv) h.2
  | inr h =>
    obtain ⟨its, rv, pl, hz⟩ := I.tuple h.1
    exact call_tuple_same pl ⟨V.ref p, H, I, rfl, h.2⟩
/-- t[lo:hi] -/
def rSlR (K : PySem.W.Frag) : V → Option Int → Option Int → Hp → VK → Prop := fun x lo hi H Q => ∃ a xs, x = .ref a ∧ SqT K H a xs ∧
  (HT.sIx xs.length 0 lo = 0 ∧ HT.sIx xs.length xs.length hi = xs.length → Q (.ref a) H) ∧ (¬ (HT.sIx xs.length 0 lo = 0 ∧ HT.sIx xs.length xs.length hi = xs.length) → NewR H Q (cutV xs lo hi))
theorem sl_rowA : SlR X (rSlR X.K) := fun pins s σ H x v vl vu lo hi sl Q I rx hs pl pu ⟨a, xs, e, hx, q1, q2⟩ => by
  by_cases hw : HT.sIx xs.length 0 lo = 0 ∧ HT.sIx xs.length xs.length hi = xs.length
  · exact sl_tupA pins s σ H x v vl vu lo hi sl Q I rx hs pl pu ⟨a, xs, e, hx, fun _ => q1 hw, fun n => absurd hw n⟩
  subst e
  cases rx
  obtain ⟨its, rv, ht, hz⟩ := I.tuple hx
  have hn : its.toArray.size = xs.length := by rw [List.size_toArray, ← rv.length]
  refine ⟨"tuple", _, PyProof.Rows.slot_tuple_getitem.lookup, ht.typeIs, HT.getItem_tuple_cut ht hs pl pu (by rw [hn]; exact hw) ?_ (by rw [hn]; exact hz)⟩
  rw [hn]
  exact row_end (tk := s.toks) I (Nat.le_trans (cutV_length xs lo hi) hz) (show Vals (cutV xs lo hi) _ by have z := (rv.drop (HT.sIx xs.length 0 lo)).take (HT.sIx xs.length xs.length hi - HT.sIx xs.length 0 lo); simpa [cutV] using z) (q2 hw)
/-- t + u -/
def rCatR (K : PySem.W.Frag) : R2 := fun x y H Q => ∃ a b xs ys, x = .ref a ∧ y = .ref b ∧ SqT K H a xs ∧ SqT K H b ys ∧ xs.length + ys.length ≤ sizeLine ∧
  (xs = [] → Q (.ref b) H) ∧ (xs ≠ [] → ys = [] → Q (.ref a) H) ∧ (xs ≠ [] → ys ≠ [] → NewR H Q (xs ++ ys))
theorem op_catR : OpR X (binaryOp .Add) (rCatR X.K) := fun pins s σ H x y v u Q I rx ry ⟨a, b, xs, ys, e1, e2, ha, hb, hz, q0, q1, q2⟩ => by
  by_cases hx : xs = []
  · exact op_catA pins s σ H x y v u Q I rx ry ⟨a, b, xs, ys, e1, e2, ha, hb, hz, q0, q1, fun n => absurd hx n⟩
  by_cases hy : ys = []
  · exact op_catA pins s σ H x y v u Q I rx ry ⟨a, b, xs, ys, e1, e2, ha, hb, hz, q0, q1, fun _ n => absurd hy n⟩
  subst e1 e2
  cases rx
  cases ry
  obtain ⟨is1, v1, p1, _⟩ := I.tuple ha
  obtain ⟨is2, v2, p2, _⟩ := I.tuple hb
  refine HT.cat_tup p1 p2 (fun z => hx (v1.nil_iff.mp z)) (fun z => absurd (v2.nil_iff.mp z) hy) (fun _ => ?_) (by rw [← v1.length, ← v2.length]; exact hz)
  exact row_end (tk := s.toks) I (by rw [List.length_append]; exact hz) (by simpa using v1.append v2) (q2 hx hy)
theorem iop_catR : OpR X (inplaceOp .Add) (rCatR X.K) := fun pins s σ H x y v u Q I rx ry ⟨a, b, xs, ys, e1, e2, ha, hb, hz, q0, q1, q2⟩ => by
  by_cases hx : xs = []
  · exact iop_catA pins s σ H x y v u Q I rx ry ⟨a, b, xs, ys, e1, e2, ha, hb, hz, q0, q1, fun n => absurd hx n⟩
  by_cases hy : ys = []
  · exact iop_catA pins s σ H x y v u Q I rx ry ⟨a, b, xs, ys, e1, e2, ha, hb, hz, q0, q1, fun _ n => absurd hy n⟩
  subst e1 e2
  cases rx
  cases ry
  obtain ⟨its, r1, ⟨⟨cls, dd, data, sl⟩, ho, hc, n, hd⟩, _⟩ := I.tuple ha
  obtain ⟨its2, r2, ⟨⟨cls2, dd2, data2, sl2⟩, ho2, hc2, n2, hd2⟩, _⟩ := I.tuple hb
  simp only at hc hd hc2 hd2
  subst hc hd hc2 hd2
  have z1 := r1.length
  have z2 := r2.length
  have h0 : its ≠ [] := fun q => hx (List.length_eq_zero_iff.mp (by rw [z1, q]; rfl))
  have h1 : its2 ≠ [] := fun q => hy (List.length_eq_zero_iff.mp (by rw [z2, q]; rfl))
  refine wpAny_inplaceOp_concat ⟨_, ho, rfl⟩ ⟨_, ho2, rfl⟩ noI_tup noFill_tuple_add seq_tuple_add (call_meets F.slot_tuple_add ⟨_, ho, rfl⟩ F.entry_tuple_add (F.args_tuple_add_2 _ _)
    (tuple_addW2 a b its.toArray its2.toArray n n2 dd dd2 sl sl2 (by simpa using h0) (by simpa using h1) (by rw [List.size_toArray, List.size_toArray, ← z1, ← z2]; exact hz)) ⟨ho, ho2, ?_⟩)
  exact row_end (tk := s.toks) I (by rw [List.length_append]; exact hz) (by simpa using r1.append r2) (q2 hx hy)
/-- t * k -/
def rRepR (K : PySem.W.Frag) : R2 := fun x y H Q => ∃ l k xs, x = .ref l ∧ y = .int k ∧ SqT K H l xs ∧ -1000000 ≤ k ∧ k ≤ 1000000 ∧
  ((xs = [] ∨ k = 1) → Q (.ref l) H) ∧ (xs ≠ [] → k ≤ 0 → NewR H Q []) ∧ (xs ≠ [] → 2 ≤ k → (k ≤ 1000 ∧ xs.length ≤ 1000) ∧ NewR H Q (List.replicate k.toNat xs).flatten)
theorem op_repR : OpR X (binaryOp .Mult) (rRepR X.K) := fun pins s σ H x y v u Q I rx ry ⟨l, k, xs, e1, e2, hT, h1, h2, qs, qz, qr⟩ => by
  by_cases hone : xs = [] ∨ k = 1
  · exact op_repA pins s σ H x y v u Q I rx ry ⟨l, k, xs, e1, e2, hT, h1, h2, qs, fun n m => by
      rcases hone with e | e
      · exact absurd e n
      · omega, fun n m => by
      rcases hone with e | e
      · exact absurd e n
      · omega⟩
  have hne : xs ≠ [] := fun e => hone (.inl e)
  have hk1 : ¬ k = 1 := fun e => hone (.inr e)
  subst e1 e2
  cases rx
  obtain ⟨t, rfl⟩ := ry
  obtain ⟨its, r, ⟨⟨cls, dd, data, sl⟩, ho, hc, n, hd⟩, hs⟩ := I.tuple hT
  simp only at hc hd
  subst hc hd
  have hle : its.length = xs.length := r.length.symm
  have hie : its.toArray.isEmpty = false := by
    cases its with
    | nil => exact absurd (List.length_eq_zero_iff.mp hle.symm) hne
    | cons a b => rfl
  have k0 : (decide (k < -(2 ^ 63)) || decide (k ≥ 2 ^ 63)) = false := by
    rw [decide_eq_false (show ¬ k < -(2 ^ 63) by omega), decide_eq_false (show ¬ k ≥ 2 ^ 63 by omega)]; rfl
  have k1 : (its.toArray.isEmpty || k == 1) = false := by
    rw [hie, Bool.false_or]
    exact beq_eq_false_iff_ne.mpr hk1
  by_cases hk : k ≤ 0
  · have k2 : (decide (k ≤ 0) || its.toArray.isEmpty) = true := by rw [decide_eq_true hk]; rfl
    refine wpAny_binaryOp_repeat_ref (T := "tuple") (U := "int") (by decide) ⟨_, ho, rfl⟩ (fun s' => typeIs_int s' k t) noFill_tuple_mul F.fills_int_mul F.slot_int_rmul repeat_tuple F.slot_int_index.lookup
      (call_meets F.slot_int_rmul (typeIs_int s k t) F.entry_int_rmul (F.args_int_rmul_2 _ _) (int_rmul_tuple k t l its.toArray n dd sl)
        ⟨ho, rfl, ⟨_, ho, rfl⟩, call_meets F.slot_tuple_mul ⟨_, ho, rfl⟩ F.entry_tuple_mul (F.args_tuple_mul_2 _ _) (tuple_mul_zero l its.toArray n dd sl k t k0 k1 k2) ⟨ho, ?_⟩⟩)
    exact row_end (tk := s.toks) (its := #[]) I (by simp) .nil (qz hne hk)
  · obtain ⟨⟨q1, q2⟩, qn⟩ := qr hne (by omega)
    have hsz : its.toArray.size = xs.length := by rw [List.size_toArray, hle]
    have a1 : ((xs.length : Nat) : Int) * k ≤ 1000 * k := Int.mul_le_mul_of_nonneg_right (by omega) (by omega)
    have a2 : k.toNat * xs.length ≤ 1000 * 1000 := Nat.mul_le_mul (by omega) q2
    have fl : (List.replicate k.toNat its).flatten.length ≤ sizeLine := by rw [PyProof.Rows.lm_len_rep_flat, hle, sizeLine_eq]; omega
    have fx : (List.replicate k.toNat xs).flatten.length ≤ sizeLine := by rw [PyProof.Rows.lm_len_rep_flat, sizeLine_eq]; omega
    have k2 : (decide (k ≤ 0) || its.toArray.isEmpty) = false := by rw [hie, Bool.or_false]; exact decide_eq_false hk
    have k4 : Builtin.Tuple.tupleTooMany (((its.toArray.size : Nat) : Int) * k) = false := by
      unfold Builtin.Tuple.tupleTooMany
      rw [hsz, sizeLine_eq]; exact decide_eq_false (by omega)
    refine wpAny_binaryOp_repeat_ref (T := "tuple") (U := "int") (by decide) ⟨_, ho, rfl⟩ (fun s' => typeIs_int s' k t) noFill_tuple_mul F.fills_int_mul F.slot_int_rmul repeat_tuple F.slot_int_index.lookup
      (call_meets F.slot_int_rmul (typeIs_int s k t) F.entry_int_rmul (F.args_int_rmul_2 _ _) (int_rmul_tuple k t l its.toArray n dd sl)
        ⟨ho, rfl, ⟨_, ho, rfl⟩, call_meets F.slot_tuple_mul ⟨_, ho, rfl⟩ F.entry_tuple_mul (F.args_tuple_mul_2 _ _) (tuple_mulW l its.toArray n dd sl k t k0 k1 k2 (by rw [hsz]; omega) k4 (by rw [size_rep, List.size_toArray]; exact fl)) ⟨ho, ?_⟩⟩)
    rw [size_rep]
    exact row_end (tk := s.toks) I fx (by simpa using r.rep k.toNat) qn
end
/-! ### range -/
section
variable {X : Cx} {e : Expr} {te : L2.St → Hp → (Int → Int → Hp → Prop) → Prop}
def tRowRg (te : L2.St → Hp → (Int → Int → Hp → Prop) → Prop) : TE := fun σ H Q => te σ H fun a b H1 => RgOk a b ∧ NewR H1 Q (rgV a b)
theorem pe_rowRg {p pos : Pos} (hc : X.calm = true) (hg : Gl X "tuple") (hm : X.mg "tuple" = none) (he : PRg X e te) (na : starEach [e] X.env = (false, eval e X.env) :: starEach [] X.env := by rfl) : PE X (.Call (.Name "tuple" p) [e] [] pos) (tRowRg te) := by
  refine ⟨fun pins s σ H Q I h => Call_ (ld_blt I hg hm boot_tuple (PyProof.Rows.callWith_type1 (args_cons (thn (he pins s σ H _ I h) fun x s1 ⟨r, a, b, t, u, v, H1, ex, hr, I1, ok, q⟩ => args_nil ?_) na) na))⟩
  subst ex
  refine call_tuple_range (n := (b - a).toNat) (I1.ok.hd hc) hr (small_one ok.1 ok.2.1 ok.2.2.1 ok.2.2.2.1) (rangeSize_nat a b) ok.2.2.2.2 fun hp tk acc hk hi => ?_
  exact row_end (s := { s1 with heap := hp, toks := tk }) (tk := tk) (I1.kept hk) (by rw [rgV_length, sizeLine_eq]; exact ok.2.2.2.2) (vals_rg hi) q
end
section
variable {X : Cx}
/-- o.index(x), o a row or a list -/
def tIM (K : PySem.W.Frag) (rT rL : V → List V → Hp → VK → Prop) (to : TE) (t : TA) : TE := fun σ H Q => to σ H fun x H1 => ((∃ a vs, x = .ref a ∧ RowAt H1 a vs) ∧ t σ H1 fun xs H2 => rT x xs H2 Q) ∨ (tyV K "list" x H1 ∧ t σ H1 fun xs H2 => rL x xs H2 Q)
theorem pe_im {o e : Expr} {es : List Expr} {to : TE} {t : TA} {name : Str} {apos cpos : Pos} {idT idL : String} {rT rL : V → List V → Hp → VK → Prop} (paT : PlainAttrs "tuple") (slotT : Slot "tuple" name idT) (htyT : typeOf (.builtin idT) = pure (.type "method_descriptor")) (hmT : MtR X idT rT)
    (paL : PlainAttrs "list") (slotL : Slot "list" name idL) (htyL : typeOf (.builtin idL) = pure (.type "method_descriptor")) (hmL : MtR X idL rL) (ho : PE X o to) (ha : PA X (e :: es) t)
    (hbase : attributeBase o name X.env (eval o X.env) = eval o X.env := by rfl)
    (hfew : ((backTo cpos (starEach (e :: es) X.env)).all (fun x => !x.1) && (backToKw cpos (keywordEach [] X.env)).all (fun x => x.1.isSome) && decide ((e :: es).length + ([] : List Keyword).length + (if ([] : List Keyword).isEmpty then 0 else 1) < 30)) = true := by rfl)
    (hline : (apos.endLine == cpos.line) = true := by rfl) (hs : starEach (e :: es) X.env = (false, eval e X.env) :: starEach es X.env := by rfl) (hplain : (backTo cpos (starEach es X.env)).any (·.1) = false := by rfl) :
    PE X (.Call (.Attribute o name apos) (e :: es) [] cpos) (tIM X.K rT rL to t) := by
  refine ⟨fun pins s σ H Q I h => wpAny_Call_method_late hbase hfew hline rfl (thn (ho.run pins s σ H _ I h) fun v s1 ⟨x, H1, I1, r1, q⟩ => ?_)⟩
  rcases q with ⟨⟨a, vs, ex, hr⟩, q1⟩ | ⟨ty, q1⟩
  · subst ex
    cases r1
    obtain ⟨h1, h2⟩ := row_at I1 hr
    refine ⟨"tuple", idT, paT, slotT, htyT, h1, h2, ?_⟩
    have hA := ha.run cpos pins s1 σ H1 _ I1 q1
    rw [hs] at hA ⊢
    exact Calls.callWith_builtin (by show (false || (backTo cpos (starEach es X.env)).any (·.1)) = false; rw [hplain] <;> rfl) (Calls.evalArgs_plain (thn hA fun us s2 ⟨ws, H2, I2, r2, q2⟩ => hmT pins s2 σ H2 (V.ref a) ws _ us Q I2 rfl r2 q2))
  · obtain ⟨h1, h2⟩ := tyV_is I1 r1 ty
    refine ⟨"list", idL, paL, slotL, htyL, h1, h2, ?_⟩
    have hA := ha.run cpos pins s1 σ H1 _ I1 q1
    rw [hs] at hA ⊢
    exact Calls.callWith_builtin (by show (false || (backTo cpos (starEach es X.env)).any (·.1)) = false; rw [hplain] <;> rfl) (Calls.evalArgs_plain (thn hA fun us s2 ⟨ws, H2, I2, r2, q2⟩ => hmL pins s2 σ H2 x ws v us Q I2 r1 r2 q2))
end
end NV

set_option Elab.async false
set_option linter.all false
set_option maxRecDepth 100000
/-! Values without a heap, a small language of slots, and what a text of it comes to. -/
namespace NV
open PySem L2

inductive Val where
  | non | bl (b : Bool) | int (i : Int) | str (x : Str)
  | tup (ds : List Val) | lst (ds : List Val) | flst (ns : List Int) | dic (ks ds : List Val) | row (ds : List Val)

abbrev Env := List (Option Val)

/-- no list or dict that may change lies in it (64 levels are looked at) -/
def immN : Nat → Val → Bool
  | _, .non => true
  | _, .bl _ => true
  | _, .int _ => true
  | _, .str _ => true
  | _, .flst _ => true
  | n + 1, .tup ds => ds.all (immN n)
  | n + 1, .row ds => ds.all (immN n)
  | _, _ => false
abbrev imm (d : Val) : Bool := immN 64 d
def immL (ds : List Val) : Bool := ds.all (immN 63)

/-- plain data of at most so many levels -/
def shp : Nat → Val → Bool
  | _, .non => true
  | _, .bl _ => true
  | _, .int _ => true
  | _, .str x => PyData.strOk x
  | n + 1, .tup ds => ds.all (shp n)
  | n + 1, .row ds => ds.all (shp n)
  | n + 1, .lst ds => ds.all (shp n)
  | _, _ => false

mutual
def toPy : Val → PyData
  | .non => .none
  | .bl b => .bool b
  | .int i => .int i
  | .str x => .str x
  | .tup ds => .tuple (toPyL ds)
  | .lst ds => .list (toPyL ds)
  | .flst _ => .none
  | .dic _ _ => .none
  | .row ds => .tuple (toPyL ds)
def toPyL : List Val → List PyData
  | [] => []
  | d :: ds => toPy d :: toPyL ds
end

mutual
/-- == of Python on plain data -/
def veq : Val → Val → Bool
  | .non, .non => true
  | .bl a, .bl b => a == b
  | .bl a, .int j => (if a then 1 else 0) == j
  | .int i, .bl b => i == (if b then 1 else 0)
  | .int i, .int j => i == j
  | .str x, .str y => x == y
  | .tup xs, .tup ys => veqL xs ys
  | .row xs, .row ys => veqL xs ys
  | .tup xs, .row ys => veqL xs ys
  | .row xs, .tup ys => veqL xs ys
  | .lst xs, .lst ys => veqL xs ys
  | _, _ => false
def veqL : List Val → List Val → Bool
  | [], [] => true
  | x :: xs, y :: ys => veq x y && veqL xs ys
  | _, _ => false
end

mutual
/-- the very same value -/
def same : Val → Val → Bool
  | .non, .non => true
  | .bl a, .bl b => a == b
  | .int i, .int j => i == j
  | .str x, .str y => x == y
  | .tup xs, .tup ys => sameL xs ys
  | .row xs, .row ys => sameL xs ys
  | .lst xs, .lst ys => sameL xs ys
  | .flst xs, .flst ys => xs == ys
  | .dic ks xs, .dic js ys => sameL ks js && sameL xs ys
  | _, _ => false
def sameL : List Val → List Val → Bool
  | [], [] => true
  | x :: xs, y :: ys => same x y && sameL xs ys
  | _, _ => false
end

def ints? : List Val → Option (List Int)
  | [] => some []
  | .int i :: r => (ints? r).map (i :: ·)
  | _ :: _ => none
def bools? : List Val → Option (List Bool)
  | [] => some []
  | .bl i :: r => (bools? r).map (i :: ·)
  | _ :: _ => none
def eP (p : Int × Int) : Val := .tup [.int p.1, .int p.2]
def pairs? : List Val → Option (List (Int × Int))
  | [] => some []
  | .tup [.int a, .int b] :: r => (pairs? r).map ((a, b) :: ·)
  | _ => none
def ltP (p q : Int × Int) : Bool := PySem.W.DatumOrd.lt p q
def pair? : Val → Option (Int × Int)
  | .tup [.int a, .int b] => some (a, b)
  | _ => none
/-- the items of what is walked or read by place -/
def items? : Val → Option (List Val)
  | .tup ds => some ds
  | .lst ds => some ds
  | .flst ns => some (ns.map Val.int)
  | .row ds => some ds
  | _ => none

/-- the part of a row between two bounds -/
def cut {α : Type} (xs : List α) (lo hi : Option Int) : List α :=
  (xs.drop (HT.sIx xs.length 0 lo)).take (HT.sIx xs.length xs.length hi - HT.sIx xs.length 0 lo)

/-! ### what takes values to a value -/
inductive P1 where
  | len | neg | int | abs | tuple | list | sorted | sum | all | any | min | max
  | isBool | isInt | isStr | isTuple | not_ | sset | sortedR | nset
  deriving DecidableEq
inductive P2 where
  | add | sub | mul | mod | fdiv | pow
  | lt | le | gt | ge | eq | ne | isin | notin
  | isN | notN | isB | notB
  | idx | min2 | max2
  deriving DecidableEq
def P1.fresh : P1 → Bool
  | .tuple => true
  | .list => true
  | .sorted => true
  | .sset => true
  | .sortedR => true
  | _ => false
def P2.fresh : P2 → Bool
  | .add => true
  | .mul => true
  | _ => false

def isort : List Int → List Int := fun ns => ns.mergeSort (fun a b => decide (a ≤ b))

/-- an int put into an ascending row, once -/
def insI (x : Int) : List Int → List Int
  | [] => [x]
  | y :: r => if x < y then x :: y :: r else if x = y then y :: r else y :: insI x r
/-- sorted(set(ns)) -/
def sset (ns : List Int) : List Int := ns.foldr insI []
def min3V (a b c : Int) : Int := if b < a then (if c < b then c else b) else (if c < a then c else a)

def prim1 : P1 → Val → Option Val
  | .len, .tup ds => some (.int ds.length)
  | .len, .row ds => some (.int ds.length)
  | .len, .lst ds => some (.int ds.length)
  | .len, .flst ns => some (.int ns.length)
  | .neg, .int i => some (.int (-i))
  | .int, .int i => some (.int i)
  | .int, .bl b => some (.int (if b then 1 else 0))
  | .abs, .int i => some (.int (if i < 0 then -i else i))
  | .tuple, .tup ds => some (.tup ds)
  | .tuple, .row ds => some (.row ds)
  | .tuple, .lst ds => if immL ds then some (.row ds) else none
  | .tuple, .flst ns => some (.row (ns.map Val.int))
  | .list, .tup ds => if immL ds then some (.lst ds) else none
  | .list, .row ds => if immL ds then some (.lst ds) else none
  | .list, .lst ds => if immL ds then some (.lst ds) else none
  | .list, .flst ns => some (.lst (ns.map Val.int))
  | .sorted, d => (items? d).bind fun ds => (ints? ds).map fun ns => .lst ((isort ns).map Val.int)
  | .sortedR, d => (items? d).bind fun ds => (ints? ds).map fun ns => .lst ((isort ns).reverse.map Val.int)
  | .nset, d => (items? d).bind fun ds => (ints? ds).bind fun ns => if ns.length < 1000 then some (.int (nset ns)) else none
  | .sum, d => (items? d).bind fun ds => (ints? ds).map fun ns => .int ns.sum
  | .max, d => (items? d).bind fun ds => (ints? ds).bind fun ns => match ns with
    | [] => none
    | n :: r => some (.int (r.foldl max n))
  | .min, d => (items? d).bind fun ds => match ints? ds with
    | some [] => none
    | some (n :: r) => some (.int (r.foldl min n))
    | none => (pairs? ds).bind fun ps => match ps with
      | [] => none
      | p :: r => some (eP (PySem.W.minOf p r))
  | .all, .lst ds => (bools? ds).map fun bs => .bl (bs.all id)
  | .any, .lst ds => (bools? ds).map fun bs => .bl (bs.any id)
  | .isBool, d => some (.bl (match d with | .bl _ => true | _ => false))
  | .isInt, d => some (.bl (match d with | .bl _ => true | .int _ => true | _ => false))
  | .isStr, d => some (.bl (match d with | .str _ => true | _ => false))
  | .isTuple, d => some (.bl (match d with | .tup _ => true | .row _ => true | _ => false))
  | .not_, .bl b => some (.bl (!b))
  | .sset, .row ds => (ints? ds).bind fun ns => if ns.length < 64 then some (.lst ((sset ns).map Val.int)) else none
  | _, _ => none

def memV (x : Val) (ds : List Val) : Bool := ds.any fun z => veq z x

def prim2 : P2 → Val → Val → Option Val
  | .add, .int i, .int j => some (.int (i + j))
  | .add, .row xs, .row ys => if xs.length + ys.length ≤ 16777216 then some (.row (xs ++ ys)) else none
  | .add, .lst xs, .lst ys => if xs.length + ys.length ≤ 16777216 && immL xs && immL ys then some (.lst (xs ++ ys)) else none
  | .sub, .int i, .int j => some (.int (i - j))
  | .mul, .int i, .int j => if i.natAbs < 2 ^ 64 ∨ j.natAbs < 2 ^ 64 ∨ i.natAbs.log2 + j.natAbs.log2 < 1000000 then some (.int (i * j)) else none
  | .mul, .lst xs, .int k => if immL xs && decide (-1000000 ≤ k) && decide (k ≤ 1000000) && decide (xs.length * k.toNat ≤ 1000000) then some (.lst (List.replicate k.toNat xs).flatten) else none
  | .mul, .row xs, .int k => if decide (-1000000 ≤ k) && decide (k ≤ 1000) && decide (xs.length ≤ 1000) then some (.row (List.replicate k.toNat xs).flatten) else none
  | .mod, .int i, .int j => if 0 < j then some (.int (i % j)) else none
  | .fdiv, .int i, .int j => if 0 < j ∧ j.natAbs.log2 < 9000 then some (.int (i / j)) else none
  | .pow, .int i, .int j => if 0 ≤ j ∧ j ≤ 1000000 ∧ i.natAbs < 2 ^ 64 then some (.int (i ^ j.toNat)) else none
  | .lt, .int i, .int j => some (.bl (decide (i < j)))
  | .lt, .tup xs, .tup ys => (pair? (.tup xs)).bind fun p => (pair? (.tup ys)).map fun q => .bl (ltP p q)
  | .le, .int i, .int j => some (.bl (decide (i ≤ j)))
  | .gt, .int i, .int j => some (.bl (decide (j < i)))
  | .ge, .int i, .int j => some (.bl (decide (j ≤ i)))
  | .eq, x, y => if shp 60 x && shp 60 y then some (.bl (veq x y)) else none
  | .ne, x, y => if shp 60 x && shp 60 y then some (.bl (!veq x y)) else none
  | .isin, x, .tup ds => if shp 60 x && shp 60 (.tup ds) then some (.bl (memV x ds)) else none
  | .isin, x, .row ds => if shp 60 x && shp 60 (.row ds) then some (.bl (memV x ds)) else none
  | .isin, x, .lst ds => if shp 60 x && shp 60 (.lst ds) then some (.bl (memV x ds)) else none
  | .notin, x, .tup ds => if shp 60 x && shp 60 (.tup ds) then some (.bl (!memV x ds)) else none
  | .notin, x, .row ds => if shp 60 x && shp 60 (.row ds) then some (.bl (!memV x ds)) else none
  | .notin, x, .lst ds => if shp 60 x && shp 60 (.lst ds) then some (.bl (!memV x ds)) else none
  | .isN, x, .non => some (.bl (match x with | .non => true | _ => false))
  | .notN, x, .non => some (.bl (match x with | .non => false | _ => true))
  | .isB, .bl a, .bl b => some (.bl (decide (a = b)))
  | .notB, .bl a, .bl b => some (.bl (!decide (a = b)))
  | .idx, d, .int i => do
    let ds ← items? d
    atI ds i
  | .min2, .int i, .int j => some (.int (if j < i then j else i))
  | .max2, .int i, .int j => some (.int (if j > i then j else i))
  | _, _, _ => none

/-- t.index(x) -/
def primX (d x : Val) : Option Val := match d with
  | .row ds => if shp 60 x && shp 60 (.row ds) then (ds.findIdx? fun z => veq z x).map fun j => .int (j : Nat) else none
  | .lst ds => if shp 60 x && shp 60 (.lst ds) then (ds.findIdx? fun z => veq z x).map fun j => .int (j : Nat) else none
  | _ => none

/-- a slice: a new row (a whole tuple is itself) -/
def primS (d : Val) (lo hi : Option Int) : Option Val :=
  match d with
  | .tup ds => some (.tup (cut ds lo hi))
  | .row ds => some (.row (cut ds lo hi))
  | .lst ds => if immL ds then some (.lst (cut ds lo hi)) else none
  | .flst ns => some (.lst ((cut ns lo hi).map Val.int))
  | _ => none

/-! ### the small language -/
inductive Q where
  | c (v : Val) | v (i : Nat) | p1 (p : P1) (a : Q) | p2 (p : P2) (a b : Q) | l1 (a : Q)
inductive OQ where
  | no | yes (q : Q)
inductive Tg where
  | n (i : Nat) | t (is : List Nat)

mutual
inductive E where
  | q (q : Q) | mv (i : Nat)
  | p1 (p : P1) (a : Op) | p2 (p : P2) (a b : Op) | sl (a : Op) (lo hi : OQ)
  | and_ (a b : E) | or_ (a b : E) | ite_ (c a b : E) | not_ (a : E)
  | chain (p r : P2) (a b c : Q)
  | tup (es : Es) | lst (es : Es) | rw (es : Es)
  | call (f : Nat) (as : As)
  | pop (i : Nat) | popAt (i : Nat) (a : E) | lrg (l : Bool) (a : E) | min3 (a b c : Q) | index (a b : Q)
  | comp (own : List Nat) (tg : Tg) (it : It) (el : E)
  | compIf (own : List Nat) (tg : Tg) (it : It) (cd el : E)
inductive Op where
  | v (i : Nat) | q (q : Q) | e (e : E)
inductive Es where
  | nil | cons (e : E) (es : Es)
inductive As where
  | nil | v (i : Nat) (as : As) | e (e : E) (as : As)
inductive It where
  | rng1 (a : E) | rng2 (a b : E) | v (i : Nat) | e (e : E)
end

mutual
inductive S where
  | asg (tg : Tg) (e : E) | par2 (i j : Nat) (a b : E) | par3 (i j l : Nat) (a b c : E)
  | sset (i : Nat) (ix : Q) (e : E) | sset2 (i : Nat) (ix e : E)
  | aug (i : Nat) (p : P2) (e : E)
  | app (i : Nat) (e : E) | rev (i : Nat) | ex (e : E)
  | if_ (c : E) (a b : Ss) | for_ (tg : Tg) (it : It) (b : Ss) | while_ (c : E) (b : Ss)
  | ret (e : E) | retN | brk | cont | pass
inductive Ss where
  | nil | cons (s : S) (r : Ss)
end

/-! ### what it comes to -/
def Env.get (ρ : Env) (i : Nat) : Option Val := (ρ[i]?).join

def pk : Q → Env → Option Val
  | .c v, _ => some v
  | .v i, ρ => Env.get ρ i
  | .p1 p a, ρ => (pk a ρ).bind fun x => prim1 p x
  | .p2 p a b, ρ => (pk a ρ).bind fun x => (pk b ρ).bind fun y => prim2 p x y
  | .l1 a, ρ => (pk a ρ).map fun x => .lst [x]
def pkO : OQ → Env → Option (Option Int)
  | .no, _ => some none
  | .yes q, ρ => (pk q ρ).bind fun x => match x with
    | .int i => some (some i)
    | _ => none

def setAll (ρ : Env) : List Nat → List Val → Option Env
  | [], [] => some ρ
  | i :: is, d :: ds => setAll (ρ.set i (some d)) is ds
  | _, _ => none
/-- a value goes to a target -/
def asg : Tg → Val → Env → Option Env
  | .n i, d, ρ => if i < ρ.length then some (ρ.set i (some d)) else none
  | .t is, .tup ds, ρ => if is.all (· < ρ.length) then setAll ρ is ds else none
  | .t is, .row ds, ρ => if is.all (· < ρ.length) then setAll ρ is ds else none
  | _, _, _ => none

inductive Opd where
  | v (i : Nat) | d (x : Val)
def Opd.res (ρ : Env) : Opd → Option Val
  | .v i => Env.get ρ i
  | .d x => some x
def Opd.firm : Opd → Bool
  | .v _ => true
  | .d x => imm x
def Op.isE : Op → Bool
  | .e _ => true
  | _ => false
def Op.isQ : Op → Bool
  | .q _ => true
  | _ => false

/-- may a value of a rule be held as one's own? -/
def own (fresh : Bool) (d : Val) : Bool := imm d || (fresh && match d with
  | .lst ds => immL ds
  | _ => false)

def wback : List (Option Nat) → List (Option Val) → Env → Env
  | some i :: js, d :: ds, ρ => wback js ds (ρ.set i d)
  | none :: js, _ :: ds, ρ => wback js ds ρ
  | _, _, ρ => ρ
def wipeE (ρ : Env) : List Nat → Env
  | [] => ρ
  | i :: is => (wipeE ρ is).set i none
/-- what a slot held, if that may be held twice -/
def keepI : Option Val → Option Val
  | some d => if imm d then some d else none
  | none => none
/-- the slots of a comprehension's own names as they were -/
def backE (old ρ : Env) : List Nat → Env
  | [] => ρ
  | i :: is => backE old (ρ.set i (keepI (Env.get old i))) is

def isLst : Option Val → Bool
  | some (.lst _) => true
  | _ => false
structure Itr where
  vals : List Val
  ck : Option (Nat × Val)
def Itr.held (w : Itr) (ρ : Env) : Bool := match w.ck with
  | none => true
  | some (i, d) => match Env.get ρ i with
    | some x => same x d
    | none => false
def rngVals (lo : Int) (n : Nat) : List Val := (List.range n).map fun k => .int (lo + (k : Nat))
def itrOf (i : Nat) : Val → Option Itr
  | .tup ds => if immL ds then some ⟨ds, none⟩ else none
  | .row ds => if immL ds then some ⟨ds, none⟩ else none
  | .lst ds => if immL ds then some ⟨ds, some (i, .lst ds)⟩ else none
  | .flst ns => some ⟨ns.map Val.int, none⟩
  | _ => none
def itrTmp : Val → Option Itr
  | .tup ds => if immL ds then some ⟨ds, none⟩ else none
  | .row ds => if immL ds then some ⟨ds, none⟩ else none
  | .lst ds => if immL ds then some ⟨ds, none⟩ else none
  | .flst ns => some ⟨ns.map Val.int, none⟩
  | _ => none

def compL (held : Env → Bool) (step : Val → Env → Option (Option Val × Env)) : List Val → Env → Option (List Val × Env)
  | [], ρ => if held ρ then some ([], ρ) else none
  | v :: vs, ρ => if held ρ then (step v ρ).bind fun r => (compL held step vs r.2).map fun t => (match r.1 with | some x => x :: t.1 | none => t.1, t.2) else none

section
variable (cf : Nat → List Val → Option (Val × List (Option Val)))
mutual
def ev : E → Env → Option (Val × Env)
  | .q q, ρ => (pk q ρ).bind fun d => if imm d then some (d, ρ) else none
  | .mv i, ρ => (Env.get ρ i).map fun d => (d, ρ.set i none)
  | .p1 p a, ρ => (evOp a ρ).bind fun r => (r.1.res r.2).bind fun x => (prim1 p x).bind fun d => if own p.fresh d then some (d, r.2) else none
  | .p2 p a b, ρ => (evOp a ρ).bind fun r => (evOp b r.2).bind fun t => if b.isE && !r.1.firm && a.isQ then none else
      (r.1.res t.2).bind fun x => (t.1.res t.2).bind fun y => (prim2 p x y).bind fun d => if own p.fresh d then some (d, t.2) else none
  | .sl a lo hi, ρ => (evOp a ρ).bind fun r => (r.1.res r.2).bind fun x => (pkO lo r.2).bind fun l => (pkO hi r.2).bind fun h => (primS x l h).bind fun d => if own true d then some (d, r.2) else none
  | .and_ a b, ρ => (ev a ρ).bind fun r => match r.1 with
    | .bl true => ev b r.2
    | .bl false => some (.bl false, r.2)
    | _ => none
  | .or_ a b, ρ => (ev a ρ).bind fun r => match r.1 with
    | .bl false => ev b r.2
    | .bl true => some (.bl true, r.2)
    | _ => none
  | .ite_ c a b, ρ => (ev c ρ).bind fun r => match r.1 with
    | .bl true => ev a r.2
    | .bl false => ev b r.2
    | _ => none
  | .not_ a, ρ => (ev a ρ).bind fun r => match r.1 with
    | .bl x => some (.bl (!x), r.2)
    | _ => none
  | .chain p r a b c, ρ => (pk a ρ).bind fun x => (pk b ρ).bind fun y => (prim2 p x y).bind fun d => match d with
    | .bl true => (pk c ρ).bind fun z => (prim2 r y z).bind fun d => match d with
      | .bl k => some (.bl k, ρ)
      | _ => none
    | .bl false => some (.bl false, ρ)
    | _ => none
  | .tup es, ρ => (evEs es ρ).map fun r => (.tup r.1, r.2)
  | .rw es, ρ => (evEs es ρ).map fun r => (.row r.1, r.2)
  | .lst es, ρ => (evEs es ρ).map fun r => (.lst r.1, r.2)
  | .call f as, ρ => (evAs as ρ).bind fun r => (cf f (r.1.map (·.1))).map fun t => (t.1, wback (r.1.map (·.2)) t.2 r.2)
  | .pop i, ρ => (Env.get ρ i).bind fun d => match d with
    | .lst ds => (ds.getLast?).map fun x => (x, ρ.set i (some (.lst ds.dropLast)))
    | _ => none
  | .min3 a b c, ρ => (pk a ρ).bind fun x => (pk b ρ).bind fun y => (pk c ρ).bind fun z => match x, y, z with
    | .int i, .int j, .int k => some (.int (min3V i j k), ρ)
    | _, _, _ => none
  | .index a b, ρ => (pk a ρ).bind fun x => (pk b ρ).bind fun y => (primX x y).map fun d => (d, ρ)
  | .lrg l a, ρ => (ev a ρ).bind fun r => match r.1 with
    | .int j => if j ≤ 16777216 ∧ -16777216 ≤ j then some (if l then .lst (rngVals 0 j.toNat) else .row (rngVals 0 j.toNat), r.2) else none
    | _ => none
  | .popAt i a, ρ => if !isLst (Env.get ρ i) then none else (ev a ρ).bind fun r => match r.1, Env.get r.2 i with
    | .int k, some (.lst ds) => if -1000000000 ≤ k ∧ k ≤ 1000000000 then (ixN ds.length k).bind fun j => (ds[j]?).map fun x => (x, r.2.set i (some (.lst (ds.eraseIdx j)))) else none
    | _, _ => none
  | .comp ow tg it el, ρ => (evIt it ρ).bind fun w => if w.1.vals.length < 16777216 then
      (compL w.1.held (fun v ρ => (asg tg v ρ).bind fun ρ1 => (ev el ρ1).map fun r => (some r.1, wipeE r.2 ow)) w.1.vals (wipeE w.2 ow)).map fun t => (.lst t.1, backE w.2 t.2 ow) else none
  | .compIf ow tg it cd el, ρ => (evIt it ρ).bind fun w => if w.1.vals.length < 16777216 then
      (compL w.1.held (fun v ρ => (asg tg v ρ).bind fun ρ1 => (ev cd ρ1).bind fun k => match k.1 with
        | .bl true => (ev el k.2).map fun r => (some r.1, wipeE r.2 ow)
        | .bl false => some (none, wipeE k.2 ow)
        | _ => none) w.1.vals (wipeE w.2 ow)).map fun t => (.lst t.1, backE w.2 t.2 ow) else none
def evOp : Op → Env → Option (Opd × Env)
  | .v i, ρ => (Env.get ρ i).map fun _ => (.v i, ρ)
  | .q q, ρ => (pk q ρ).map fun x => (.d x, ρ)
  | .e e, ρ => (ev e ρ).map fun r => (.d r.1, r.2)
def evEs : Es → Env → Option (List Val × Env)
  | .nil, ρ => some ([], ρ)
  | .cons e es, ρ => (ev e ρ).bind fun r => (evEs es r.2).map fun t => (r.1 :: t.1, t.2)
def evAs : As → Env → Option (List (Val × Option Nat) × Env)
  | .nil, ρ => some ([], ρ)
  | .v i as, ρ => (Env.get ρ i).bind fun d => if imm d then (evAs as ρ).map fun t => ((d, none) :: t.1, t.2) else (evAs as ρ).bind fun t => (Env.get t.2 i).map fun d2 => ((d2, some i) :: t.1, t.2.set i none)
  | .e e as, ρ => (ev e ρ).bind fun r => (evAs as r.2).map fun t => ((r.1, none) :: t.1, t.2)
def evIt : It → Env → Option (Itr × Env)
  | .rng1 a, ρ => (ev a ρ).bind fun r => match r.1 with
    | .int j => if j ≤ 16777216 ∧ -16777216 ≤ j then some (⟨rngVals 0 j.toNat, none⟩, r.2) else none
    | _ => none
  | .rng2 a b, ρ => (ev a ρ).bind fun r => (ev b r.2).bind fun t => match r.1, t.1 with
    | .int i, .int j => if (-16777216 ≤ i ∧ i ≤ 16777216) ∧ -16777216 ≤ j ∧ j ≤ 16777216 then some (⟨rngVals i (j - i).toNat, none⟩, t.2) else none
    | _, _ => none
  | .v i, ρ => (Env.get ρ i).bind fun d => (itrOf i d).map fun w => (w, ρ)
  | .e e, ρ => (ev e ρ).bind fun r => (itrTmp r.1).map fun w => (w, r.2)
end

inductive Out where
  | nx (ρ : Env) | rt (d : Val) (ρ : Env) | bk (ρ : Env) | ct (ρ : Env)

def forL (held : Env → Bool) (tg : Tg) (body : Env → Option Out) : List Val → Env → Option Out
  | [], ρ => if held ρ then some (.nx ρ) else none
  | v :: vs, ρ => if held ρ then (asg tg v ρ).bind fun ρ1 => (body ρ1).bind fun o => match o with
    | .nx ρ2 => forL held tg body vs ρ2
    | .ct ρ2 => forL held tg body vs ρ2
    | .bk ρ2 => some (.nx ρ2)
    | .rt d ρ2 => some (.rt d ρ2) else none
def whileL (c : Env → Option (Val × Env)) (body : Env → Option Out) : Nat → Env → Option Out
  | 0, _ => none
  | n + 1, ρ => (c ρ).bind fun r => match r.1 with
    | .bl true => (body r.2).bind fun o => match o with
      | .nx ρ2 => whileL c body n ρ2
      | .ct ρ2 => whileL c body n ρ2
      | .bk ρ2 => some (.nx ρ2)
      | .rt d ρ2 => some (.rt d ρ2)
    | .bl false => some (.nx r.2)
    | _ => none

variable (fu : Nat)
mutual
def exS : S → Env → Option Out
  | .asg tg e, ρ => (ev cf e ρ).bind fun r => (asg tg r.1 r.2).map .nx
  | .par2 i j a b, ρ => (ev cf a ρ).bind fun r => (ev cf b r.2).bind fun t => if i < t.2.length ∧ j < t.2.length then some (.nx ((t.2.set i (some r.1)).set j (some t.1))) else none
  | .par3 i j l a b c, ρ => (ev cf a ρ).bind fun r => (ev cf b r.2).bind fun t => (ev cf c t.2).bind fun q => if (i < q.2.length ∧ j < q.2.length) ∧ l < q.2.length then some (.nx (((q.2.set i (some r.1)).set j (some t.1)).set l (some q.1))) else none
  | .sset i ix e, ρ => (ev cf e ρ).bind fun r => (pk ix r.2).bind fun k => match k, Env.get r.2 i with
    | .int k, some (.lst ds) => (ixN ds.length k).map fun j => .nx (r.2.set i (some (.lst (ds.set j r.1))))
    | _, _ => none
  | .sset2 i ix e, ρ => (ev cf e ρ).bind fun r => if !isLst (Env.get r.2 i) then none else (ev cf ix r.2).bind fun t => match t.1, Env.get t.2 i with
    | .int k, some (.lst ds) => (ixN ds.length k).map fun j => .nx (t.2.set i (some (.lst (ds.set j r.1))))
    | _, _ => none
  | .aug i p e, ρ => (Env.get ρ i).bind fun _ => (ev cf e ρ).bind fun r => (Env.get r.2 i).bind fun x => match p, x, r.1 with
    | .add, .int a, .int b => some (.nx (r.2.set i (some (.int (a + b)))))
    | .sub, .int a, .int b => some (.nx (r.2.set i (some (.int (a - b)))))
    | .add, .row a, .row b => if a.length + b.length ≤ 16777216 then some (.nx (r.2.set i (some (.row (a ++ b))))) else none
    | .add, .lst a, .lst b => if a.length + b.length ≤ 16777216 then some (.nx (r.2.set i (some (.lst (a ++ b))))) else none
    | _, _, _ => none
  | .app i e, ρ => if !isLst (Env.get ρ i) then none else (ev cf e ρ).bind fun r => match Env.get r.2 i with
    | some (.lst ds) => if ds.length < 16777216 then some (.nx (r.2.set i (some (.lst (ds ++ [r.1]))))) else none
    | _ => none
  | .rev i, ρ => match Env.get ρ i with
    | some (.lst ds) => some (.nx (ρ.set i (some (.lst ds.reverse))))
    | _ => none
  | .ex e, ρ => (ev cf e ρ).map fun r => .nx r.2
  | .if_ c a b, ρ => (ev cf c ρ).bind fun r => match r.1 with
    | .bl true => exSs a r.2
    | .bl false => exSs b r.2
    | _ => none
  | .for_ tg it b, ρ => (evIt cf it ρ).bind fun w => forL w.1.held tg (exSs b) w.1.vals w.2
  | .while_ c b, ρ => whileL (ev cf c) (exSs b) fu ρ
  | .ret e, ρ => (ev cf e ρ).map fun r => .rt r.1 r.2
  | .retN, ρ => some (.rt .non ρ)
  | .brk, ρ => some (.bk ρ)
  | .cont, ρ => some (.ct ρ)
  | .pass, ρ => some (.nx ρ)
def exSs : Ss → Env → Option Out
  | .nil, ρ => some (.nx ρ)
  | .cons s r, ρ => (exS s ρ).bind fun o => match o with
    | .nx ρ1 => exSs r ρ1
    | .rt d ρ1 => some (.rt d ρ1)
    | .bk ρ1 => some (.bk ρ1)
    | .ct ρ1 => some (.ct ρ1)
end
end

/-! ### defs -/
def Tg.all : Tg → List Nat
  | .n i => [i]
  | .t is => is
mutual
/-- the slots that a text stores names into -/
def tgS : S → List Nat
  | .asg tg _ => tg.all
  | .par2 i j _ _ => [i, j]
  | .par3 i j l _ _ _ => [i, j, l]
  | .aug i _ _ => [i]
  | .if_ _ a b => tgSs a ++ tgSs b
  | .for_ tg _ b => tg.all ++ tgSs b
  | .while_ _ b => tgSs b
  | _ => []
def tgSs : Ss → List Nat
  | .nil => []
  | .cons s r => tgS s ++ tgSs r
end
structure FnR where
  name : Str
  ps : List Str
  ns : List Str
  body : Ss
/-- the parameters' last values, where they may be handed back: those that are not stored anew -/
def outs (tg : List Nat) : Nat → Nat → Env → List (Option Val)
  | _, 0, _ => []
  | j, n + 1, x :: ρ => (if tg.contains j then none else x) :: outs tg (j + 1) n ρ
  | j, n + 1, [] => none :: outs tg (j + 1) n []
def finish (tg : List Nat) (np : Nat) : Out → Option (Val × List (Option Val))
  | .rt d ρ => some (d, outs tg 0 np ρ)
  | .nx ρ => some (.non, outs tg 0 np ρ)
  | _ => none
def frame (f : FnR) (ds : List Val) : Env := ds.map some ++ List.replicate (f.ns.length - ds.length) none
def run (T : List FnR) (fu : Nat) : Nat → Nat → List Val → Option (Val × List (Option Val))
  | 0, _, _ => none
  | k + 1, i, ds => match T[i]? with
    | none => none
    | some f => if ds.length = f.ps.length then (exSs (run T fu k) fu f.body (frame f ds)).bind (finish (tgSs f.body) f.ps.length) else none
end NV

set_option Elab.async false
set_option linter.all false
set_option maxRecDepth 100000
/-! How values of NV lie in a tracked heap. -/
namespace NV
open PySem PySem.Spec L2

theorem Val.ind {P : Val → Prop} (h0 : P .non) (h1 : ∀ b, P (.bl b)) (h2 : ∀ i, P (.int i)) (h3 : ∀ x, P (.str x)) (h4 : ∀ ds, (∀ d ∈ ds, P d) → P (.tup ds))
    (h5 : ∀ ds, (∀ d ∈ ds, P d) → P (.lst ds)) (h6 : ∀ ns, P (.flst ns)) (h7 : ∀ ks ds, (∀ d ∈ ks, P d) → (∀ d ∈ ds, P d) → P (.dic ks ds)) (h8 : ∀ ds, (∀ d ∈ ds, P d) → P (.row ds)) : ∀ d, P d
  | .non => h0
  | .bl b => h1 b
  | .int i => h2 i
  | .str x => h3 x
  | .tup ds => h4 ds fun d hd => Val.ind h0 h1 h2 h3 h4 h5 h6 h7 h8 d
  | .lst ds => h5 ds fun d hd => Val.ind h0 h1 h2 h3 h4 h5 h6 h7 h8 d
  | .flst ns => h6 ns
  | .dic ks ds => h7 ks ds (fun d hd => Val.ind h0 h1 h2 h3 h4 h5 h6 h7 h8 d) fun d hd => Val.ind h0 h1 h2 h3 h4 h5 h6 h7 h8 d
  | .row ds => h8 ds fun d hd => Val.ind h0 h1 h2 h3 h4 h5 h6 h7 h8 d
termination_by d => sizeOf d
decreasing_by
  all_goals simp_wf
  all_goals (have := List.sizeOf_lt_of_mem hd; omega)

/-- values beside each other, their footprints in a row -/
inductive AllP (R : Val → V → List Addr → Prop) : List Val → List V → List Addr → Prop where
  | nil : AllP R [] [] []
  | cons {d : Val} {ds : List Val} {v : V} {vs : List V} {F G : List Addr} : R d v F → AllP R ds vs G → AllP R (d :: ds) (v :: vs) (F ++ G)

def keyV : Key → Val
  | .inl i => .int i
  | .inr x => .str x
def DicAt (H : Hp) (a : Addr) (ks : List Val) (vs : List V) : Prop :=
  (∃ kk : List Key, kk.length = vs.length ∧ ks = kk.map keyV ∧ H a = some (.dK (kk.zip vs))) ∨
    ∃ kk : List (List Key), kk.length = vs.length ∧ ks = kk.map (fun k => Val.tup (k.map keyV)) ∧ H a = some (.dT (kk.zip vs))
/-- a list of ints that nobody writes -/
def Froz (K : PySem.W.Frag) (H : Hp) (a : Addr) (ns : List Int) : Prop :=
  (∃ o, H a = some (.frz o (.lst (ns.map V.int)))) ∨
    ∃ (o : Obj) (its : Array Value) (n : Nat), K.lookup a = some o ∧ o.cls = .type "list" ∧ o.dict = none ∧ o.data = .seq its n ∧ its.size ≤ sizeLine ∧ Vals (ns.map V.int) its.toList

inductive Rep (K : PySem.W.Frag) (H : Hp) : Val → V → List Addr → Prop where
  | non : Rep K H .non .non []
  | bl (b : Bool) : Rep K H (.bl b) (.bl b) []
  | int (i : Int) : Rep K H (.int i) (.int i) []
  | str (x : Str) : Rep K H (.str x) (.str x) []
  | tup {a : Addr} {vs : List V} {ds : List Val} {F : List Addr} : SqT K H a vs → AllP (Rep K H) ds vs F → Rep K H (.tup ds) (.ref a) F
  | lst {a : Addr} {vs : List V} {ds : List Val} {F : List Addr} : H a = some (.lst vs) → AllP (Rep K H) ds vs F → Rep K H (.lst ds) (.ref a) (a :: F)
  | flst {a : Addr} {ns : List Int} : Froz K H a ns → Rep K H (.flst ns) (.ref a) []
  | dic {a : Addr} {ks : List Val} {vs : List V} {ds : List Val} {F : List Addr} : DicAt H a ks vs → AllP (Rep K H) ds vs F → Rep K H (.dic ks ds) (.ref a) (a :: F)
  | row {a : Addr} {vs : List V} {ds : List Val} {F : List Addr} : RowAt H a vs → AllP (Rep K H) ds vs F → Rep K H (.row ds) (.ref a) F

def Uni (F : List Addr) : Prop := ∀ a, F.count a ≤ 1

/-! ### rows -/
section
variable {R R' : Val → V → List Addr → Prop} {ds es : List Val} {vs ws : List V} {F G : List Addr}
theorem AllP.len (h : AllP R ds vs F) : ds.length = vs.length := by
  induction h with
  | nil => rfl
  | cons _ _ ih => simp [ih]
theorem AllP.app (h : AllP R ds vs F) (h' : AllP R es ws G) : AllP R (ds ++ es) (vs ++ ws) (F ++ G) := by
  induction h with
  | nil => exact h'
  | cons r _ ih => rw [List.append_assoc]; exact .cons r ih
theorem AllP.mono (h : AllP R ds vs F) (k : ∀ d ∈ ds, ∀ v G, (∀ a, a ∈ G → a ∈ F) → R d v G → R' d v G) : AllP R' ds vs F := by
  induction h with
  | nil => exact .nil
  | cons r _ ih =>
    exact .cons (k _ (by simp) _ _ (fun a ha => List.mem_append_left _ ha) r) (ih fun d hd v G hG => k d (by simp [hd]) v G fun a ha => List.mem_append_right _ (hG a ha))
theorem AllP.zero (h : AllP R ds vs F) (k : ∀ d ∈ ds, ∀ v G, R d v G → G = []) : F = [] := by
  induction h with
  | nil => rfl
  | cons r _ ih => rw [k _ (by simp) _ _ r, ih fun d hd => k d (by simp [hd])]; rfl
theorem AllP.at (h : AllP R ds vs F) : ∀ {j : Nat} {d : Val}, ds[j]? = some d → ∃ v F1, vs[j]? = some v ∧ R d v F1 ∧ ∀ a, F1.count a ≤ F.count a := by
  induction h with
  | nil => intro j d h; simp at h
  | cons r t ih =>
    intro j d h
    cases j with
    | zero => simp at h; subst h; exact ⟨_, _, rfl, r, fun a => by simp [List.count_append]⟩
    | succ j =>
      obtain ⟨v, F1, h1, h2, h3⟩ := ih (j := j) (d := d) (by simpa using h)
      exact ⟨v, F1, by simpa using h1, h2, fun a => by have := h3 a; simp [List.count_append]; omega⟩
/-- one taken out -/
theorem AllP.erase (h : AllP R ds vs F) : ∀ {j : Nat} {d : Val}, ds[j]? = some d → ∃ v F1 F2, vs[j]? = some v ∧ R d v F1 ∧ AllP R (ds.eraseIdx j) (vs.eraseIdx j) F2 ∧ ∀ a, F.count a = F1.count a + F2.count a := by
  induction h with
  | nil => intro j d h; simp at h
  | @cons d0 ds v0 vs F0 G0 r t ih =>
    intro j d h
    cases j with
    | zero => simp at h; subst h; exact ⟨_, _, _, rfl, r, by simpa using t, fun a => by simp [List.count_append]⟩
    | succ j =>
      obtain ⟨v, F1, F2, h1, h2, h3, h4⟩ := ih (j := j) (d := d) (by simpa using h)
      exact ⟨v, F1, F0 ++ F2, by simpa using h1, h2, by simpa using .cons r h3, fun a => by have := h4 a; simp [List.count_append]; omega⟩
/-- one put in the place of another -/
theorem AllP.set (h : AllP R ds vs F) {d : Val} {v : V} {F1 : List Addr} (r1 : R d v F1) : ∀ {j : Nat}, ∃ F2, AllP R (ds.set j d) (vs.set j v) F2 ∧ ∀ a, F2.count a ≤ F.count a + F1.count a := by
  induction h with
  | nil => intro j; exact ⟨[], by simpa using .nil, fun a => by simp⟩
  | @cons d0 ds v0 vs F0 G0 r t ih =>
    intro j
    cases j with
    | zero => exact ⟨F1 ++ G0, by simpa using .cons r1 t, fun a => by simp [List.count_append]; omega⟩
    | succ j =>
      obtain ⟨F2, h1, h2⟩ := ih (j := j)
      exact ⟨F0 ++ F2, by simpa using .cons r h1, fun a => by have := h2 a; simp [List.count_append]; omega⟩
theorem AllP.rev (h : AllP R ds vs F) : ∃ F2, AllP R ds.reverse vs.reverse F2 ∧ ∀ a, F2.count a = F.count a := by
  induction h with
  | nil => exact ⟨[], .nil, fun a => rfl⟩
  | @cons d0 ds v0 vs F0 G0 r t ih =>
    obtain ⟨F2, h1, h2⟩ := ih
    refine ⟨F2 ++ (F0 ++ []), by simpa using h1.app (.cons r .nil), fun a => by have := h2 a; simp [List.count_append]; omega⟩
theorem AllP.nils (h : AllP R ds vs F) (e : F = []) : AllP R ds vs [] := e ▸ h
theorem AllP.cons1 {d : Val} {v : V} (h : AllP R (d :: ds) (v :: vs) F) : ∃ F1 F2, F = F1 ++ F2 ∧ R d v F1 ∧ AllP R ds vs F2 := by
  cases h with
  | cons r t => exact ⟨_, _, rfl, r, t⟩
theorem AllP.cons0 {d : Val} {v : V} (h : AllP R (d :: ds) (v :: vs) []) : R d v [] ∧ AllP R ds vs [] := by
  obtain ⟨F1, F2, e, r, t⟩ := h.cons1
  have e' := List.append_eq_nil_iff.mp e.symm
  rw [e'.1] at r; rw [e'.2] at t
  exact ⟨r, t⟩
theorem AllP.drop : ∀ {ds : List Val} {vs : List V} (n : Nat), AllP R ds vs [] → AllP R (ds.drop n) (vs.drop n) []
  | _, _, 0, h => h
  | [], [], _ + 1, h => .nil
  | _ :: _, _ :: _, n + 1, h => AllP.drop n h.cons0.2
  | [], _ :: _, _ + 1, h => nomatch h
  | _ :: _, [], _ + 1, h => by have := h.len; simp at this
theorem AllP.take : ∀ {ds : List Val} {vs : List V} (n : Nat), AllP R ds vs [] → AllP R (ds.take n) (vs.take n) []
  | _, _, 0, h => .nil
  | [], [], _ + 1, h => .nil
  | _ :: _, _ :: _, n + 1, h => AllP.cons (F := []) (G := []) h.cons0.1 (AllP.take n h.cons0.2)
  | [], _ :: _, _ + 1, h => nomatch h
  | _ :: _, [], _ + 1, h => by have := h.len; simp at this
theorem AllP.reps : ∀ (n : Nat), AllP R ds vs [] → AllP R (List.replicate n ds).flatten (List.replicate n vs).flatten []
  | 0, _ => .nil
  | n + 1, h => by
    rw [List.replicate_succ, List.replicate_succ, List.flatten_cons, List.flatten_cons]
    exact AllP.app (F := []) (G := []) h (AllP.reps n h)
theorem AllP.last (h : AllP R ds vs F) {d : Val} (e : ds.getLast? = some d) : ∃ v F1 F2, vs[vs.length - 1]? = some v ∧ R d v F1 ∧ AllP R ds.dropLast vs.dropLast F2 ∧ ∀ a, F.count a = F1.count a + F2.count a := by
  have hl := h.len
  rw [List.getLast?_eq_getElem?] at e
  obtain ⟨v, F1, F2, h1, h2, h3, h4⟩ := h.erase e
  refine ⟨v, F1, F2, by rw [← hl]; exact h1, h2, ?_, h4⟩
  have e1 : ds.eraseIdx (ds.length - 1) = ds.dropLast := by rw [List.eraseIdx_eq_dropLast]; have := (List.getElem?_eq_some_iff.mp e).1; omega
  have e2 : vs.eraseIdx (ds.length - 1) = vs.dropLast := by rw [List.eraseIdx_eq_dropLast]; have := (List.getElem?_eq_some_iff.mp e).1; omega
  rw [e1, e2] at h3; exact h3
end

/-! ### one step of the heap: what is not owned stays -/
def Fixed : HO → Prop
  | .tup _ => True
  | .frz _ _ => True
  | _ => False
structure Step (H : Hp) (F : List Addr) (H' : Hp) (F' : List Addr) : Prop where
  keep : ∀ a o, H a = some o → F.count a = 0 → H' a = some o
  fix : ∀ a o, H a = some o → Fixed o → H' a = some o
  new : ∀ a, F'.count a ≤ F.count a ∨ H a = none
  dom : ∀ a, H' a = none → H a = none
theorem Step.refl {H : Hp} {F : List Addr} : Step H F H F := ⟨fun _ _ h _ => h, fun _ _ h _ => h, fun _ => .inl (Nat.le_refl _), fun _ h => h⟩
theorem Step.trans {H H1 H2 : Hp} {F F1 F2 : List Addr} (s : Step H F H1 F1) (t : Step H1 F1 H2 F2) : Step H F H2 F2 := by
  refine ⟨fun a o h e => t.keep a o (s.keep a o h e) ?_, fun a o h e => t.fix a o (s.fix a o h e) e, fun a => ?_, fun a h => s.dom a (t.dom a h)⟩
  · rcases s.new a with q | q
    · omega
    · rw [q] at h; cases h
  · rcases t.new a with q | q
    · rcases s.new a with r | r
      · exact .inl (by omega)
      · exact .inr r
    · exact .inr (s.dom a q)
/-- the owned row told another way -/
theorem Step.le {H H' : Hp} {F G F' G' : List Addr} (s : Step H F H' F') (h : ∀ a, F.count a ≤ G.count a) (h' : ∀ a, G'.count a ≤ F'.count a + (G.count a - F.count a)) : Step H G H' G' := by
  refine ⟨fun a o e q => s.keep a o e (by have := h a; omega), s.fix, fun a => ?_, s.dom⟩
  rcases s.new a with q | q
  · exact .inl (by have := h a; have := h' a; omega)
  · exact .inr q
/-- an extension -/
theorem Step.ext {H H' : Hp} {F F' : List Addr} (h : ∀ a o, H a = some o → H' a = some o) (n : ∀ a, F'.count a ≤ F.count a ∨ H a = none) : Step H F H' F' := by
  refine ⟨fun a o e _ => h a o e, fun a o e _ => h a o e, n, fun a e => ?_⟩
  cases q : H a with
  | none => rfl
  | some o => rw [h a o q] at e; cases e

section
variable {K : PySem.W.Frag} {H H' : Hp}
theorem SqT.step {a : Addr} {vs : List V} (h : SqT K H a vs) (fix : ∀ a o, H a = some o → Fixed o → H' a = some o) : SqT K H' a vs := by
  rcases h with (h | ⟨o, h⟩) | h
  · exact .inl (.inl (fix a _ h trivial))
  · exact .inl (.inr ⟨o, fix a _ h trivial⟩)
  · exact .inr h
theorem RowAt.step {a : Addr} {vs : List V} (h : RowAt H a vs) (fix : ∀ a o, H a = some o → Fixed o → H' a = some o) : RowAt H' a vs := let ⟨o, e, q⟩ := h; ⟨o, fix a _ e trivial, q⟩
theorem Froz.step {a : Addr} {ns : List Int} (h : Froz K H a ns) (fix : ∀ a o, H a = some o → Fixed o → H' a = some o) : Froz K H' a ns := by
  rcases h with ⟨o, h⟩ | h
  · exact .inl ⟨o, fix a _ h trivial⟩
  · exact .inr h
theorem DicAt.step {a : Addr} {ks : List Val} {vs : List V} (h : DicAt H a ks vs) (e : H' a = H a) : DicAt H' a ks vs := by
  unfold DicAt at *
  rw [e]; exact h
theorem DicAt.there {a : Addr} {ks : List Val} {vs : List V} (h : DicAt H a ks vs) : ∃ o, H a = some o := by
  rcases h with ⟨_, _, _, h⟩ | ⟨_, _, _, h⟩ <;> exact ⟨_, h⟩
theorem Froz.sq {a : Addr} {ns : List Int} (h : Froz K H a ns) : SqL K H a (ns.map V.int) := by
  rcases h with h | h
  · exact .inl (.inr h)
  · exact .inr h
/-- a value stays where what it stands on stays -/
theorem Rep.keep (fix : ∀ a o, H a = some o → Fixed o → H' a = some o) : ∀ (d : Val) (v : V) (F : List Addr), Rep K H d v F → (∀ a ∈ F, ∀ o, H a = some o → H' a = some o) → Rep K H' d v F := by
  intro d
  induction d using Val.ind with
  | h0 => intro v F h _; cases h; exact .non
  | h1 b => intro v F h _; cases h; exact .bl b
  | h2 i => intro v F h _; cases h; exact .int i
  | h3 x => intro v F h _; cases h; exact .str x
  | h4 ds ih =>
    intro v F h k
    cases h with
    | tup hs ha => exact .tup (SqT.step hs fix) (ha.mono fun d hd v G hG r => ih d hd v G r fun a ha => k a (hG a ha))
  | h5 ds ih =>
    intro v F h k
    cases h with
    | lst hs ha => exact .lst (k _ (by simp) _ hs) (ha.mono fun d hd v G hG r => ih d hd v G r fun a ha => k a (by simp [hG a ha]))
  | h6 ns => intro v F h _; cases h with | flst f => exact .flst (f.step fix)
  | h7 ks ds _ ih =>
    intro v F h k
    cases h with
    | dic hs ha =>
      obtain ⟨o, e⟩ := hs.there
      exact .dic (hs.step ((k _ (by simp) o e).trans e.symm)) (ha.mono fun d hd v G hG r => ih d hd v G r fun a ha => k a (by simp [hG a ha]))
  | h8 ds ih =>
    intro v F h k
    cases h with
    | row hs ha => exact .row (hs.step fix) (ha.mono fun d hd v G hG r => ih d hd v G r fun a ha => k a (hG a ha))
theorem Rep.step {d : Val} {v : V} {F1 F F' : List Addr} (h : Rep K H d v F1) (s : Step H F H' F') (u : ∀ a ∈ F1, F.count a = 0) : Rep K H' d v F1 :=
  Rep.keep s.fix d v F1 h fun a ha o e => s.keep a o e (u a ha)
theorem Rep.grow {d : Val} {v : V} {F : List Addr} (h : Rep K H d v F) (s : ∀ a o, H a = some o → H' a = some o) : Rep K H' d v F :=
  Rep.keep (fun a o e _ => s a o e) d v F h fun a _ o e => s a o e
theorem AllP.keepR {ds : List Val} {vs : List V} {F : List Addr} (h : AllP (Rep K H) ds vs F) (fix : ∀ a o, H a = some o → Fixed o → H' a = some o) (k : ∀ a ∈ F, ∀ o, H a = some o → H' a = some o) : AllP (Rep K H') ds vs F :=
  h.mono fun d _ v G hG r => Rep.keep fix d v G r fun a ha => k a (hG a ha)
theorem AllP.growR {ds : List Val} {vs : List V} {F : List Addr} (h : AllP (Rep K H) ds vs F) (s : ∀ a o, H a = some o → H' a = some o) : AllP (Rep K H') ds vs F :=
  h.mono fun _ _ _ _ _ r => r.grow s
/-- what is owned is there -/
theorem Rep.mem : ∀ (d : Val) (v : V) (F : List Addr), Rep K H d v F → ∀ a ∈ F, ∃ o, H a = some o ∧ ¬ Fixed o := by
  have row : ∀ (ds : List Val), (∀ d ∈ ds, ∀ (v : V) (F : List Addr), Rep K H d v F → ∀ a ∈ F, ∃ o, H a = some o ∧ ¬ Fixed o) → ∀ vs F, AllP (Rep K H) ds vs F → ∀ a ∈ F, ∃ o, H a = some o ∧ ¬ Fixed o := by
    intro ds ih vs F h
    induction h with
    | nil => intro a ha; simp at ha
    | cons r _ ih2 =>
      intro a ha
      rcases List.mem_append.mp ha with ha | ha
      · exact ih _ (by simp) _ _ r a ha
      · exact ih2 (fun d hd => ih d (by simp [hd])) a ha
  intro d
  induction d using Val.ind with
  | h0 => intro v F h; cases h; simp
  | h1 b => intro v F h; cases h; simp
  | h2 i => intro v F h; cases h; simp
  | h3 x => intro v F h; cases h; simp
  | h4 ds ih => intro v F h; cases h with | tup hs ha => exact row ds ih _ _ ha
  | h5 ds ih =>
    intro v F h
    cases h with
    | lst hs ha =>
      intro a h
      rcases List.mem_cons.mp h with rfl | h
      · exact ⟨_, hs, fun z => z⟩
      · exact row ds ih _ _ ha a h
  | h6 ns => intro v F h; cases h; simp
  | h7 ks ds _ ih =>
    intro v F h
    cases h with
    | dic hs ha =>
      intro a h
      rcases List.mem_cons.mp h with rfl | h
      · rcases hs with ⟨_, _, _, hs⟩ | ⟨_, _, _, hs⟩ <;> exact ⟨_, hs, fun z => z⟩
      · exact row ds ih _ _ ha a h
  | h8 ds ih => intro v F h; cases h with | row hs ha => exact row ds ih _ _ ha
theorem AllP.mem {ds : List Val} {vs : List V} {F : List Addr} (h : AllP (Rep K H) ds vs F) : ∀ a ∈ F, ∃ o, H a = some o ∧ ¬ Fixed o := by
  induction h with
  | nil => intro a ha; simp at ha
  | cons r _ ih =>
    intro a ha
    rcases List.mem_append.mp ha with ha | ha
    · exact Rep.mem _ _ _ r a ha
    · exact ih a ha
/-- what never changes owns nothing -/
theorem Rep.imm0 : ∀ (n : Nat) (d : Val) (v : V) (F : List Addr), immN n d = true → Rep K H d v F → F = [] := by
  intro n
  induction n with
  | zero =>
    intro d v F h r
    cases r with
    | non => rfl
    | bl _ => rfl
    | int _ => rfl
    | str _ => rfl
    | flst _ => rfl
    | tup _ _ => simp [immN] at h
    | row _ _ => simp [immN] at h
    | lst _ _ => simp [immN] at h
    | dic _ _ => simp [immN] at h
  | succ n ih =>
    intro d v F h r
    cases r with
    | non => rfl
    | bl _ => rfl
    | int _ => rfl
    | str _ => rfl
    | flst _ => rfl
    | tup hs ha =>
      simp only [immN, List.all_eq_true] at h
      exact ha.zero fun d hd v G r => ih d v G (h d hd) r
    | row hs ha =>
      simp only [immN, List.all_eq_true] at h
      exact ha.zero fun d hd v G r => ih d v G (h d hd) r
    | lst _ _ => simp [immN] at h
    | dic _ _ => simp [immN] at h
theorem AllP.imm0 {ds : List Val} {vs : List V} {F : List Addr} (h : immL ds = true) (r : AllP (Rep K H) ds vs F) : F = [] := by
  unfold immL at h
  simp only [List.all_eq_true] at h
  exact r.zero fun d hd v G q => Rep.imm0 63 d v G (h d hd) q
theorem AllP.ints : ∀ {ns : List Int}, AllP (Rep K H) (ns.map Val.int) (ns.map V.int) []
  | [] => .nil
  | n :: ns => AllP.cons (F := []) (G := []) (.int n) AllP.ints
end

/-! ### the slots -/
def RepE (K : PySem.W.Frag) (H : Hp) : Env → St → List Addr → Prop
  | [], [], F => F = []
  | none :: ρ, _ :: σ, F => RepE K H ρ σ F
  | some d :: ρ, x :: σ, F => ∃ v F1 F2, x = some v ∧ Rep K H d v F1 ∧ RepE K H ρ σ F2 ∧ F = F1 ++ F2
  | _, _, _ => False
section
variable {K : PySem.W.Frag} {H H' : Hp}
theorem RepE.len : ∀ {ρ : Env} {σ : St} {F : List Addr}, RepE K H ρ σ F → ρ.length = σ.length
  | [], [], _, _ => rfl
  | none :: ρ, _ :: σ, F, h => by simp [RepE.len (ρ := ρ) (σ := σ) (F := F) h]
  | some d :: ρ, x :: σ, F, ⟨_, _, _, _, _, h, _⟩ => by simp [RepE.len h]
  | [], _ :: _, _, h => h.elim
  | none :: _, [], _, h => h.elim
  | some _ :: _, [], _, h => h.elim
theorem Env.get_zero {x : Option Val} {ρ : Env} : Env.get (x :: ρ) 0 = x := by simp [Env.get]
theorem Env.get_succ {x : Option Val} {ρ : Env} {i : Nat} : Env.get (x :: ρ) (i + 1) = Env.get ρ i := by simp [Env.get]
theorem Env.get_nil {i : Nat} : Env.get [] i = none := by simp [Env.get]
/-- a slot's value, and the slots without it -/
theorem RepE.take : ∀ {ρ : Env} {σ : St} {F : List Addr} {i : Nat} {d : Val}, RepE K H ρ σ F → Env.get ρ i = some d →
    ∃ v F1 F2, σ[i]? = some (some v) ∧ Rep K H d v F1 ∧ RepE K H (ρ.set i none) σ F2 ∧ ∀ a, F.count a = F1.count a + F2.count a
  | [], _, _, i, d, _, e => by rw [Env.get_nil] at e; cases e
  | none :: ρ, y :: σ, F, 0, d, h, e => by rw [Env.get_zero] at e; cases e
  | some d0 :: ρ, y :: σ, F, 0, d, ⟨v, F1, F2, e0, r, h, e1⟩, e => by
    rw [Env.get_zero] at e; cases e
    subst e0 e1
    exact ⟨v, F1, F2, rfl, r, h, fun a => by simp [List.count_append]⟩
  | none :: ρ, y :: σ, F, i + 1, d, h, e => by
    rw [Env.get_succ] at e
    obtain ⟨v, F1, F2, h1, h2, h3, h4⟩ := RepE.take (ρ := ρ) (σ := σ) (F := F) (i := i) h e
    exact ⟨v, F1, F2, by simpa using h1, h2, h3, h4⟩
  | some d0 :: ρ, y :: σ, F, i + 1, d, ⟨v0, F0, G, e0, r0, h, e1⟩, e => by
    rw [Env.get_succ] at e
    obtain ⟨v, F1, F2, h1, h2, h3, h4⟩ := RepE.take (i := i) h e
    refine ⟨v, F1, F0 ++ F2, by simpa using h1, h2, ⟨v0, F0, F2, e0, r0, h3, rfl⟩, fun a => ?_⟩
    have := h4 a
    subst e1
    simp [List.count_append]; omega
  | none :: _, [], _, _, _, h, _ => h.elim
  | some _ :: _, [], _, _, _, h, _ => h.elim
/-- a slot is stored -/
theorem RepE.set {d : Val} {v : V} {Fd : List Addr} (r : Rep K H d v Fd) : ∀ {ρ : Env} {σ : St} {F : List Addr} {i : Nat}, RepE K H ρ σ F → i < ρ.length →
    ∃ F', RepE K H (ρ.set i (some d)) (σ.set i (some v)) F' ∧ ∀ a, F'.count a ≤ F.count a + Fd.count a
  | [], _, _, i, _, h => by simp at h
  | none :: ρ, y :: σ, F, 0, h, _ => ⟨Fd ++ F, ⟨v, Fd, F, rfl, r, h, rfl⟩, fun a => by simp [List.count_append]; omega⟩
  | some d0 :: ρ, y :: σ, F, 0, ⟨v0, F1, F2, _, _, h, e⟩, _ => ⟨Fd ++ F2, ⟨v, Fd, F2, rfl, r, h, rfl⟩, fun a => by subst e; simp [List.count_append]; omega⟩
  | none :: ρ, y :: σ, F, i + 1, h, hi => by
    obtain ⟨F', h1, h2⟩ := RepE.set r (ρ := ρ) (σ := σ) (F := F) (i := i) h (by simpa using hi)
    exact ⟨F', h1, h2⟩
  | some d0 :: ρ, y :: σ, F, i + 1, ⟨v0, F1, F2, e0, r0, h, e⟩, hi => by
    obtain ⟨F', h1, h2⟩ := RepE.set r (i := i) h (by simpa using hi)
    refine ⟨F1 ++ F', ⟨v0, F1, F', e0, r0, h1, rfl⟩, fun a => ?_⟩
    have := h2 a
    subst e
    simp [List.count_append]; omega
  | none :: _, [], _, _, h, _ => h.elim
  | some _ :: _, [], _, _, h, _ => h.elim
theorem set_self {α : Type} : ∀ {l : List α} {i : Nat} {x : α}, l[i]? = some x → l.set i x = l
  | [], _, _, h => by simp at h
  | _ :: _, 0, _, h => by simp at h; subst h; rfl
  | a :: l, i + 1, x, h => by rw [List.set_cons_succ, set_self (l := l) (by simpa using h)]
/-- the value at a slot's address is another one now -/
theorem RepE.put {d : Val} {v : V} {Fd : List Addr} {ρ : Env} {σ : St} {F : List Addr} {i : Nat} (h : RepE K H ρ σ F) (e : σ[i]? = some (some v)) (r : Rep K H d v Fd) :
    ∃ F', RepE K H (ρ.set i (some d)) σ F' ∧ ∀ a, F'.count a ≤ F.count a + Fd.count a := by
  have hi : i < ρ.length := by rw [h.len]; exact (List.getElem?_eq_some_iff.mp e).1
  have q := RepE.set r h hi
  rw [set_self e] at q
  exact q
theorem RepE.drop : ∀ {ρ : Env} {σ : St} {F : List Addr} {i : Nat}, RepE K H ρ σ F → ∃ F', RepE K H (ρ.set i none) σ F' ∧ ∀ a, F'.count a ≤ F.count a
  | [], [], F, _, h => ⟨F, h, fun _ => Nat.le_refl _⟩
  | none :: ρ, y :: σ, F, 0, h => ⟨F, h, fun _ => Nat.le_refl _⟩
  | some d0 :: ρ, y :: σ, F, 0, ⟨v0, F1, F2, _, _, h, e⟩ => ⟨F2, h, fun a => by subst e; simp [List.count_append]⟩
  | none :: ρ, y :: σ, F, i + 1, h => RepE.drop (ρ := ρ) (σ := σ) (F := F) (i := i) h
  | some d0 :: ρ, y :: σ, F, i + 1, ⟨v0, F1, F2, e0, r0, h, e⟩ => by
    obtain ⟨F', h1, h2⟩ := RepE.drop (i := i) h
    refine ⟨F1 ++ F', ⟨v0, F1, F', e0, r0, h1, rfl⟩, fun a => ?_⟩
    have := h2 a
    subst e
    simp [List.count_append]; omega
  | [], _ :: _, _, _, h => h.elim
  | none :: _, [], _, _, h => h.elim
  | some _ :: _, [], _, _, h => h.elim
/-- .. where the slot's own mark changes too -/
theorem RepE.drop2 {y : Option V} : ∀ {ρ : Env} {σ : St} {F : List Addr} {i : Nat}, RepE K H ρ σ F → ∃ F', RepE K H (ρ.set i none) (σ.set i y) F' ∧ ∀ a, F'.count a ≤ F.count a
  | [], [], F, _, h => ⟨F, h, fun _ => Nat.le_refl _⟩
  | none :: ρ, _ :: σ, F, 0, h => ⟨F, h, fun _ => Nat.le_refl _⟩
  | some d0 :: ρ, _ :: σ, F, 0, ⟨v0, F1, F2, _, _, h, e⟩ => ⟨F2, h, fun a => by subst e; simp [List.count_append]⟩
  | none :: ρ, _ :: σ, F, i + 1, h => RepE.drop2 (ρ := ρ) (σ := σ) (F := F) (i := i) h
  | some d0 :: ρ, _ :: σ, F, i + 1, ⟨v0, F1, F2, e0, r0, h, e⟩ => by
    obtain ⟨F', h1, h2⟩ := RepE.drop2 (i := i) h
    refine ⟨F1 ++ F', ⟨v0, F1, F', e0, r0, h1, rfl⟩, fun a => ?_⟩
    have := h2 a
    subst e
    simp [List.count_append]; omega
  | [], _ :: _, _, _, h => h.elim
  | none :: _, [], _, _, h => h.elim
  | some _ :: _, [], _, _, h => h.elim
theorem RepE.keep (fix : ∀ a o, H a = some o → Fixed o → H' a = some o) : ∀ {ρ : Env} {σ : St} {F : List Addr}, RepE K H ρ σ F → (∀ a ∈ F, ∀ o, H a = some o → H' a = some o) → RepE K H' ρ σ F
  | [], [], F, h, _ => h
  | none :: ρ, _ :: σ, F, h, k => RepE.keep fix (ρ := ρ) (σ := σ) (F := F) h k
  | some d0 :: ρ, _ :: σ, F, ⟨v0, F1, F2, e0, r0, h, e⟩, k => by
    subst e
    exact ⟨v0, F1, F2, e0, Rep.keep fix _ _ _ r0 fun a ha => k a (List.mem_append_left _ ha), RepE.keep fix h fun a ha => k a (List.mem_append_right _ ha), rfl⟩
  | [], _ :: _, _, h, _ => h.elim
  | none :: _, [], _, h, _ => h.elim
  | some _ :: _, [], _, h, _ => h.elim
theorem RepE.step {ρ : Env} {σ : St} {F1 F F' : List Addr} (h : RepE K H ρ σ F1) (s : Step H F H' F') (u : ∀ a ∈ F1, F.count a = 0) : RepE K H' ρ σ F1 :=
  RepE.keep s.fix h fun a ha o e => s.keep a o e (u a ha)
theorem RepE.grow {ρ : Env} {σ : St} {F : List Addr} (h : RepE K H ρ σ F) (s : ∀ a o, H a = some o → H' a = some o) : RepE K H' ρ σ F :=
  RepE.keep (fun a o e _ => s a o e) h fun a _ o e => s a o e
theorem RepE.mem : ∀ {ρ : Env} {σ : St} {F : List Addr}, RepE K H ρ σ F → ∀ a ∈ F, ∃ o, H a = some o ∧ ¬ Fixed o
  | [], [], F, h, a, ha => by
    have e : F = [] := h
    subst e; simp at ha
  | none :: ρ, _ :: σ, F, h, a, ha => RepE.mem (ρ := ρ) (σ := σ) (F := F) h a ha
  | some d0 :: ρ, _ :: σ, F, ⟨v0, F1, F2, e0, r0, h, e⟩, a, ha => by
    subst e
    rcases List.mem_append.mp ha with ha | ha
    · exact Rep.mem _ _ _ r0 a ha
    · exact RepE.mem h a ha
  | [], _ :: _, _, h, _, _ => h.elim
  | none :: _, [], _, h, _, _ => h.elim
  | some _ :: _, [], _, h, _, _ => h.elim
end
theorem cnt_mem {F : List Addr} {a : Addr} (h : a ∈ F) : 0 < F.count a := List.count_pos_iff.mpr h
theorem Uni.off {F G : List Addr} (u : Uni (F ++ G)) {a : Addr} (h : a ∈ F) : G.count a = 0 := by
  have h1 := u a
  have h2 := cnt_mem h
  rw [List.count_append] at h1
  omega
end NV

set_option Elab.async false
set_option linter.all false
set_option maxRecDepth 100000
set_option maxHeartbeats 1000000
/-! Pairs of ints: the least, the greatest, <. -/
namespace NV
open PySem PySem.Spec L2 PySem.W
section
variable {X : Cx}
theorem pair_dp {K : PySem.W.Frag} {H : Hp} {a b : Int} {v : V} {F : List Addr} (r : Rep K H (.tup [.int a, .int b]) v F) : Dp K H v (.tuple [.int a, .int b]) := by
  cases r with
  | tup hs t =>
    cases t with
    | cons r1 t =>
      cases t with
      | cons r2 t =>
        cases t
        cases r1
        cases r2
        exact .tup hs (.cons (.int a) (.cons (.int b) .nil))
theorem pairs_hold {pins : List (Addr × Obj)} {σ : L2.St} {H : Hp} {s : Shared} (I : Inv X pins σ H s) : ∀ {ds : List Val} {ps : List (Int × Int)} {vs : List V} {F : List Addr} {us : List Value}, pairs? ds = some ps → AllP (Rep X.K H) ds vs F → Vals vs us → HoldAll s.heap us ps
  | [], ps, vs, F, us, e, r, q => by
    cases e
    cases r
    cases q
    exact HoldAll.nil
  | d :: ds, ps, vs, F, us, e, r, q => by
    cases r with
    | cons r t =>
      cases q with
      | cons q1 q2 =>
        unfold pairs? at e
        split at e
        · rename_i e0; cases e0
        · rename_i a b r0 e0
          cases e0
          obtain ⟨ms, e1, rfl⟩ := Option.map_eq_some_iff.mp e
          exact HoldAll.cons (Dp.reads I _ _ _ (pair_dp r) q1) (pairs_hold I e1 t q2)
        · cases e
theorem pairs_at : ∀ {ds : List Val} {ps : List (Int × Int)} {i : Nat} {p : Int × Int}, pairs? ds = some ps → ps[i]? = some p → ds[i]? = some (eP p)
  | [], ps, i, p, e, h => by
    cases e
    simp at h
  | d :: ds, ps, i, p, e, h => by
    unfold pairs? at e
    split at e
    · rename_i e0; cases e0
    · rename_i a b r0 e0
      cases e0
      obtain ⟨ms, e1, rfl⟩ := Option.map_eq_some_iff.mp e
      cases i with
      | zero => simp at h; subst h; rfl
      | succ i => simpa using pairs_at e1 (by simpa using h)
    · cases e
theorem pair_uniq {h : Heap} {v : Value} {p q : Int × Int} (a : Holds h v p) (b : Holds h v q) : p = q := by
  obtain ⟨as, ra⟩ := a
  obtain ⟨bs, rb⟩ := b
  have e := (Reads.unique ra _ _ rb).1
  have e2 : PyData.tuple [PyData.int p.1, PyData.int p.2] = .tuple [.int q.1, .int q.2] := e
  injection e2 with e3
  injection e3 with e4 e5
  injection e5 with e6 _
  injection e4 with e7
  injection e6 with e8
  exact Prod.ext e7 e8
def rMinP (K : PySem.W.Frag) : List V → Hp → VK → Prop := fun xs H Q => ∃ (a : Addr) (vs : List V) (ds : List Val) (F : List Addr) (p : Int × Int) (r : List (Int × Int)), xs = [V.ref a] ∧ (SqL K H a vs ∨ SqT K H a vs) ∧ AllP (Rep K H) ds vs F ∧ pairs? ds = some (p :: r) ∧ ∀ v G, Rep K H (eP (minOf p r)) v G → Q v H
theorem cr_minP (hc : X.calm = true) (hu : X.A.units + 65 < cLine) : CallR X (.builtin "min") (rMinP X.K) := fun pins s σ H xs us Q I rs ⟨a, vs, ds, F, p, r, e, hs, ha, hp, q⟩ => by
  subst e
  obtain ⟨u, eu, ru⟩ := vals1 rs
  subst eu
  cases ru
  have hd : X.A.units + 1 + Datum.depth (Int × Int) < cLine := by
    have : Datum.depth (Int × Int) ≤ 2 := by decide
    omega
  have fin : ∀ (its : List Value), Vals vs its → ∀ (i : Nat) (v : Value) (h' : Heap) (tk : Nat), its.toArray[i]? = some v → Holds h' v (minOf p r) → (∀ b o, s.heap.get? b = some o → h'.get? b = some o) → EP X pins σ Q v { s with heap := h', toks := tk } := fun its rv i v h' tk hi hh hk => by
    have hold := pairs_hold I hp ha rv
    have hi2 : its[i]? = some v := by simpa using hi
    obtain ⟨x, hx, hv⟩ := HoldAll.at hold hi2
    have ex := pair_uniq (hv.keeps hk) hh
    subst ex
    obtain ⟨w, G, hw, rw', _⟩ := ha.at (pairs_at hp hx)
    obtain ⟨u, hu1, hu2⟩ := Vals.get rv hw
    rw [hi2] at hu1
    cases hu1
    exact ⟨w, H, I.kept hk, hu2, q w G rw'⟩
  rcases hs with hs | hs
  · obtain ⟨its, rv, pl, hz⟩ := I.list hs
    exact min_list_datum (I.ok.hd hc) pl.isList (by simpa using pairs_hold I hp ha rv) hd fun i v h' tk hi hh hk => fin its rv i v h' tk hi hh hk
  · obtain ⟨its, rv, pl, hz⟩ := I.tuple hs
    exact min_tuple_datum (I.ok.hd hc) pl (by simpa using pairs_hold I hp ha rv) hd fun i v h' tk hi hh hk => fin its rv i v h' tk hi hh hk
/-- p < q -/
def rLtP (K : PySem.W.Frag) : R2 := fun x y H Q => ∃ (p q : Int × Int) (F G : List Addr), Rep K H (eP p) x F ∧ Rep K H (eP q) y G ∧ Q (.bl (ltP p q)) H
theorem op_ltP (hu : X.A.units + 65 < cLine) : OpR X (compareOp .Lt) (rLtP X.K) := fun pins s σ H x y v u Q I rx ry ⟨p, q, F, G, h1, h2, k⟩ => by
  have hd : X.A.units + Datum.depth (Int × Int) < cLine := by
    have : Datum.depth (Int × Int) ≤ 2 := by decide
    omega
  exact lt_datum (x := p) (y := q) (Dp.reads I _ _ _ (pair_dp h1) rx) (Dp.reads I _ _ _ (pair_dp h2) ry) hd ⟨.bl (ltP p q), H, I, rfl, k⟩
end
end NV

set_option Elab.async false
set_option linter.all false
set_option maxRecDepth 100000
set_option maxHeartbeats 1000000
/-! The rules of operators and built-ins, told by values. -/
namespace NV
open PySem PySem.Spec L2

def bnames : List Str := ["len", "int", "abs", "tuple", "list", "sorted", "sum", "all", "any", "min", "max", "isinstance", "bool", "str", "range", "set", "dict"]
structure Good (X : Cx) (N : List Str) (sc : Scope) : Prop where
  calm : X.calm = true
  names : X.N = N
  nd : X.N.Nodup
  sc : X.env.scope = sc
  bn : ∀ x ∈ bnames, X.mg x = none
  hu : X.A.units + 65 < cLine

theorem PE_imp {X : Cx} {e : Expr} {t t' : TE} (h : PE X e t) (k : ∀ σ H Q, t' σ H Q → t σ H Q) : PE X e t' := ⟨fun pins s σ H Q I q => h.run pins s σ H Q I (k σ H Q q)⟩
/-- a reading that may be weakened -/
def mcl (t : TE) : TE := fun σ H Q => ∃ P : VK, t σ H P ∧ ∀ y H', P y H' → Q y H'
theorem PE_mcl {X : Cx} {e : Expr} {t : TE} (h : PE X e t) : PE X e (mcl t) := ⟨fun pins s σ H Q I ⟨P, q, k⟩ => thn (h.run pins s σ H P I q) fun _ _ ⟨v, H', I', r, q⟩ => ⟨v, H', I', r, k v H' q⟩⟩
theorem CallR_imp {X : Cx} {f : Value} {r r' : List V → Hp → VK → Prop} (h : CallR X f r) (k : ∀ xs H Q, r' xs H Q → r xs H Q) : CallR X f r' := fun pins s σ H xs us Q I rv q => h pins s σ H xs us Q I rv (k xs H Q q)
theorem OpR_imp {X : Cx} {f : Value → Value → Sem Value} {r r' : R2} (h : OpR X f r) (k : ∀ x y H Q, r' x y H Q → r x y H Q) : OpR X f r' := fun pins s σ H x y v u Q I rx ry q => h pins s σ H x y v u Q I rx ry (k x y H Q q)
theorem UnR_imp {X : Cx} {f : Value → Sem Value} {r r' : V → Hp → VK → Prop} (h : UnR X f r) (k : ∀ x H Q, r' x H Q → r x H Q) : UnR X f r' := fun pins s σ H x v Q I rx q => h pins s σ H x v Q I rx (k x H Q q)
theorem IxR_imp {X : Cx} {r r' : R2} (h : IxR X r) (k : ∀ x y H Q, r' x y H Q → r x y H Q) : IxR X r' := fun va sl pins s σ H x y v u Q I rx ry q hs => h va sl pins s σ H x y v u Q I rx ry (k x y H Q q) hs

def gl (sc : Scope) (x : Str) : Bool := sc.names.lookup x == some .globalImplicit
def nst : Expr → Bool
  | .Starred .. => false
  | _ => true
theorem nst_star {e : Expr} (h : nst e = true) (es : List Expr) (env : PySem.Env) : starEach (e :: es) env = (false, eval e env) :: starEach es env := by
  cases e <;> first | rfl | (simp [nst] at h)
theorem Good.gl {X : Cx} {N : List Str} {sc : Scope} (g : Good X N sc) {x : Str} (h : gl sc x = true) : Gl X x := by
  show X.env.scope.names.lookup x = _
  rw [g.sc]
  simpa [NV.gl] using h
/-- a subscript that is no slice -/
def plainB : Expr → Bool
  | .Slice .. => false
  | _ => true
theorem plain_ix {b : Expr} (h : plainB b = true) : PlainIx b := by
  intro o i
  cases b <;> first | rfl | (simp [plainB] at h)
def noSet : Expr → Bool
  | .Set .. => false
  | _ => true
theorem noset_mark {b : Expr} (h : noSet b = true) (op : CmpOp) : behindInMarks op b = false := by
  cases b <;> first | rfl | (simp [noSet] at h)

/-- the text of a rule over one value -/
def m1 (sc : Scope) : P1 → Expr → Option Expr
  | .neg, .UnaryOp .USub a _ => some a
  | .not_, .UnaryOp .Not a _ => some a
  | .len, .Call (.Name f _) [a] [] _ => if f == "len" && gl sc f && nst a then some a else none
  | .int, .Call (.Name f _) [a] [] _ => if f == "int" && gl sc f && nst a then some a else none
  | .abs, .Call (.Name f _) [a] [] _ => if f == "abs" && gl sc f && nst a then some a else none
  | .tuple, .Call (.Name f _) [a] [] _ => if f == "tuple" && gl sc f && nst a then some a else none
  | .list, .Call (.Name f _) [a] [] _ => if f == "list" && gl sc f && nst a then some a else none
  | .sorted, .Call (.Name f _) [a] [] _ => if f == "sorted" && gl sc f && nst a then some a else none
  | .sum, .Call (.Name f _) [a] [] _ => if f == "sum" && gl sc f && nst a then some a else none
  | .max, .Call (.Name f _) [a] [] _ => if f == "max" && gl sc f && nst a then some a else none
  | .min, .Call (.Name f _) [a] [] _ => if f == "min" && gl sc f && nst a then some a else none
  | .all, .Call (.Name f _) [a] [] _ => if f == "all" && gl sc f && nst a then some a else none
  | .any, .Call (.Name f _) [a] [] _ => if f == "any" && gl sc f && nst a then some a else none
  | .isBool, .Call (.Name f _) [a, .Name t _] [] _ => if f == "isinstance" && gl sc f && t == "bool" && gl sc t && nst a then some a else none
  | .isInt, .Call (.Name f _) [a, .Name t _] [] _ => if f == "isinstance" && gl sc f && t == "int" && gl sc t && nst a then some a else none
  | .isStr, .Call (.Name f _) [a, .Name t _] [] _ => if f == "isinstance" && gl sc f && t == "str" && gl sc t && nst a then some a else none
  | .isTuple, .Call (.Name f _) [a, .Name t _] [] _ => if f == "isinstance" && gl sc f && t == "tuple" && gl sc t && nst a then some a else none
  | .sset, .Call (.Name f _) [.Call (.Name t _) [a] [] _] [] _ => if f == "sorted" && gl sc f && t == "set" && gl sc t && nst a then some a else none
  | .sortedR, .Call (.Name f _) [a] [⟨some kw, .Constant (.bool true) _ _, _⟩] _ => if f == "sorted" && gl sc f && kw == "reverse" && nst a then some a else none
  | .nset, .Call (.Name f _) [.Call (.Name t _) [a] [] _] [] _ => if f == "len" && gl sc f && t == "set" && gl sc t && nst a then some a else none
  | _, _ => none

def Post (K : PySem.W.Frag) (fresh : Bool) (H : Hp) (d : Val) (v : V) (H' : Hp) : Prop :=
  (∀ a o, H a = some o → H' a = some o) ∧ ∃ F, Rep K H' d v F ∧ (own fresh d = true → Uni F ∧ ∀ a ∈ F, H a = none)
def vw (K : PySem.W.Frag) (H : Hp) (d : Val) (v : V) : Prop := ∃ F, Rep K H d v F
theorem vw.grow {K : PySem.W.Frag} {H H' : Hp} {d : Val} {v : V} (h : vw K H d v) (s : ∀ a o, H a = some o → H' a = some o) : vw K H' d v := let ⟨F, r⟩ := h; ⟨F, r.grow s⟩
/-- what owns nothing is handed out as it is -/
theorem Post.same {K : PySem.W.Frag} {fresh : Bool} {H : Hp} {d : Val} {v : V} {F : List Addr} (r : Rep K H d v F) (z : own fresh d = true → F = []) : Post K fresh H d v H :=
  ⟨fun _ _ e => e, F, r, fun h => by rw [z h]; exact ⟨fun a => by simp, fun a ha => by simp at ha⟩⟩
theorem Post.flat {K : PySem.W.Frag} {fresh : Bool} {H : Hp} {d : Val} {v : V} (r : Rep K H d v []) : Post K fresh H d v H := .same r fun _ => rfl
theorem own_imm {d : Val} (h : own false d = true) : imm d = true := by simpa [own] using h
theorem Post.view {K : PySem.W.Frag} {H : Hp} {d : Val} {v : V} {F : List Addr} (r : Rep K H d v F) : Post K false H d v H :=
  .same r fun h => Rep.imm0 64 _ _ _ (own_imm h) r

theorem upd_grow {H : Hp} {p : Addr} {o : HO} (h : H p = none) : ∀ a u, H a = some u → upd H p o a = some u := fun a u e => by
  rw [upd_ne (ne_of_none e h)]; exact e
theorem Post.tup {K : PySem.W.Frag} {fresh : Bool} {H : Hp} {ds : List Val} {vs : List V} {F : List Addr} {p : Addr} (h : H p = none) (r : AllP (Rep K H) ds vs F) : Post K fresh H (.tup ds) (.ref p) (upd H p (.tup vs)) := by
  have g := upd_grow (o := .tup vs) h
  have q : Rep K (upd H p (.tup vs)) (.tup ds) (.ref p) F := .tup (.of upd_same) (r.growR g)
  refine ⟨g, F, q, fun z => ?_⟩
  have e : F = [] := Rep.imm0 64 _ _ _ (by cases fresh <;> simpa [own] using z) q
  subst e
  exact ⟨fun a => by simp, fun a ha => by simp at ha⟩
theorem Post.row {K : PySem.W.Frag} {fresh : Bool} {H : Hp} {ds : List Val} {vs : List V} {F : List Addr} {p : Addr} {o : Obj} (h : H p = none) (hc : o.cls = .type "tuple") (hd : o.dict = none) (r : AllP (Rep K H) ds vs F) : Post K fresh H (.row ds) (.ref p) (upd H p (.frz o (.tup vs))) := by
  have g := upd_grow (o := .frz o (.tup vs)) h
  have q : Rep K (upd H p (.frz o (.tup vs))) (.row ds) (.ref p) F := .row ⟨o, upd_same, hc, hd⟩ (r.growR g)
  refine ⟨g, F, q, fun z => ?_⟩
  have e : F = [] := Rep.imm0 64 _ _ _ (by cases fresh <;> simpa [own] using z) q
  subst e
  exact ⟨fun a => by simp, fun a ha => by simp at ha⟩
theorem Post.newR {K : PySem.W.Frag} {fresh : Bool} {H : Hp} {ds : List Val} {vs : List V} {F : List Addr} {Q : VK} (r : AllP (Rep K H) ds vs F) (q : ∀ v H', Post K fresh H (.row ds) v H' → Q v H') : NewR H Q vs := fun p o hp hc hd => q _ _ (.row hp hc hd r)
theorem Post.lst {K : PySem.W.Frag} {fresh : Bool} {H : Hp} {ds : List Val} {vs : List V} {p : Addr} (h : H p = none) (r : AllP (Rep K H) ds vs []) : Post K fresh H (.lst ds) (.ref p) (upd H p (.lst vs)) := by
  have g := upd_grow (o := .lst vs) h
  have q : Rep K (upd H p (.lst vs)) (.lst ds) (.ref p) [p] := .lst upd_same (r.growR g)
  refine ⟨g, [p], q, fun z => ⟨fun a => ?_, fun a ha => ?_⟩⟩
  · rw [List.count_singleton]; split <;> omega
  · have e : a = p := by simpa using ha
    subst e; exact h

/-! ### what a value's items are -/
section
variable {K : PySem.W.Frag} {H : Hp}
theorem Rep.items {d : Val} {x : V} {F : List Addr} {ds : List Val} (r : Rep K H d x F) (e : items? d = some ds) : ∃ a vs G, x = .ref a ∧ (SqL K H a vs ∨ SqT K H a vs) ∧ AllP (Rep K H) ds vs G := by
  cases r with
  | tup h t => cases e; exact ⟨_, _, _, rfl, .inr h, t⟩
  | lst h t => cases e; exact ⟨_, _, _, rfl, .inl (.of h), t⟩
  | flst h => cases e; exact ⟨_, _, _, rfl, .inl h.sq, .ints⟩
  | row h t => cases e; exact ⟨_, _, _, rfl, .inr h.sq, t⟩
  | _ => cases e
theorem ints_vals : ∀ {ds : List Val} {ns : List Int} {vs : List V} {F : List Addr}, ints? ds = some ns → AllP (Rep K H) ds vs F → vs = ns.map V.int
  | [], ns, vs, F, e, r => by cases e; cases r; rfl
  | d :: ds, ns, vs, F, e, r => by
    cases r with
    | cons r t =>
      cases r with
      | int i =>
        simp only [ints?, Option.map_eq_some_iff] at e
        obtain ⟨ms, e1, rfl⟩ := e
        rw [ints_vals e1 t]; rfl
      | _ => simp [ints?] at e
theorem bools_vals : ∀ {ds : List Val} {ns : List Bool} {vs : List V} {F : List Addr}, bools? ds = some ns → AllP (Rep K H) ds vs F → vs = ns.map V.bl
  | [], ns, vs, F, e, r => by cases e; cases r; rfl
  | d :: ds, ns, vs, F, e, r => by
    cases r with
    | cons r t =>
      cases r with
      | bl i =>
        simp only [bools?, Option.map_eq_some_iff] at e
        obtain ⟨ms, e1, rfl⟩ := e
        rw [bools_vals e1 t]; rfl
      | _ => simp [bools?] at e
end

/-- the reading of a rule over one value -/
def R1 (K : PySem.W.Frag) (p : P1) (x : V) (H : Hp) (Q : VK) : Prop := ∃ d d', vw K H d x ∧ prim1 p d = some d' ∧ ∀ v H', Post K p.fresh H d' v H' → Q v H'
def R2' (K : PySem.W.Frag) (p : P2) (x y : V) (H : Hp) (Q : VK) : Prop := ∃ d e d', vw K H d x ∧ vw K H e y ∧ prim2 p d e = some d' ∧ ∀ v H', Post K p.fresh H d' v H' → Q v H'

theorem guard_eq {α : Type} {c : Prop} [Decidable c] {x y : α} (h : (if c then some x else none) = some y) : c ∧ x = y := by
  by_cases hc : c
  · rw [if_pos hc] at h; exact ⟨hc, Option.some.inj h⟩
  · rw [if_neg hc] at h; cases h
theorem isort_eq {ns ms : List Int} (h : ms.Perm ns) (s : ms.Pairwise (· ≤ ·)) : ms = isort ns := by
  have h1 : (isort ns).Perm ns := List.mergeSort_perm _ _
  have h2 : (isort ns).Pairwise (· ≤ ·) := by
    have := List.pairwise_mergeSort (le := fun a b : Int => decide (a ≤ b)) (by intro a b c; simp; omega) (by intro a b; simp; omega) ns
    simpa [isort] using this
  exact List.Perm.eq_of_pairwise (fun a b _ _ h1 h2 => by omega) s h2 (h.trans h1.symm)

section
variable {X : Cx} {N : List Str} {sc : Scope}
theorem Good.no (g : Good X N sc) {x : Str} (h : x ∈ bnames) : X.mg x = none := g.bn x h
variable {a b e : Expr} {ta tb : TE}

def rW (K : PySem.W.Frag) (p : P1) : List V → Hp → VK → Prop
  | [x], H, Q => R1 K p x H Q
  | _, _, _ => False
/-- a rule over one value, by its one way and its two: what is read, what comes -/
theorem cr_of {f : Value} {r : List V → Hp → VK → Prop} {p : P1} (h : CallR X f r) (k : ∀ x H Q d d', vw X.K H d x → prim1 p d = some d' → (∀ v H', Post X.K p.fresh H d' v H' → Q v H') → r [x] H Q) : CallR X f (rW X.K p) :=
  CallR_imp h fun xs H Q q => by
    match xs, q with
    | [x], ⟨d, d', v, e, q⟩ => exact k x H Q d d' v e q
theorem cr_len : CallR X (.builtin "len") (rW X.K .len) := cr_of call_len_seq fun x H Q d d' v e q => by
  obtain ⟨F, r⟩ := v
  cases r with
  | tup h t => cases e; exact ⟨_, _, rfl, .inr h, by rw [← t.len]; exact q _ _ (.flat (.int _))⟩
  | lst h t => cases e; exact ⟨_, _, rfl, .inl (.of h), by rw [← t.len]; exact q _ _ (.flat (.int _))⟩
  | flst h => cases e; exact ⟨_, _, rfl, .inl h.sq, by rw [List.length_map]; exact q _ _ (.flat (.int _))⟩
  | row h t => cases e; exact ⟨_, _, rfl, .inr h.sq, by rw [← t.len]; exact q _ _ (.flat (.int _))⟩
  | _ => cases e
theorem cr_int : CallR X (.type "int") (rW X.K .int) := cr_of call_int1 fun x H Q d d' v e q => by
  obtain ⟨F, r⟩ := v
  cases r with
  | int i => cases e; exact .inl ⟨_, rfl, q _ _ (.flat (.int _))⟩
  | bl i => cases e; exact .inr ⟨_, rfl, q _ _ (.flat (.int _))⟩
  | _ => cases e
theorem cr_abs : CallR X (.builtin "abs") (rW X.K .abs) := cr_of call_abs fun x H Q d d' v e q => by
  obtain ⟨F, r⟩ := v
  cases r with
  | int i => cases e; exact ⟨_, rfl, q _ _ (.flat (.int _))⟩
  | _ => cases e
theorem cr_tuple : CallR X (.type "tuple") (rW X.K .tuple) := cr_of cr_rowOf fun x H Q d d' v e q => by
  obtain ⟨F, r⟩ := v
  cases r with
  | tup h t => cases e; exact ⟨_, _, rfl, .inr ⟨h, q _ _ (.same (.tup h t) fun z => Rep.imm0 64 _ _ _ (by simpa [own] using z) (.tup h t))⟩⟩
  | row h t => cases e; exact ⟨_, _, rfl, .inr ⟨h.sq, q _ _ (.same (.row h t) fun z => Rep.imm0 64 _ _ _ (by simpa [own] using z) (.row h t))⟩⟩
  | @lst a vs ds F h t =>
    obtain ⟨hi, rfl⟩ := guard_eq (show (if immL ds = true then some (Val.row ds) else none) = some d' from e)
    have t0 := t.nils (t.imm0 hi)
    exact ⟨_, _, rfl, .inl ⟨.of h, Post.newR t0 q⟩⟩
  | flst h => cases e; exact ⟨_, _, rfl, .inl ⟨h.sq, Post.newR .ints q⟩⟩
  | _ => cases e
theorem cr_list : CallR X (.type "list") (rW X.K .list) := cr_of call_list_of fun x H Q d d' v e q => by
  obtain ⟨F, r⟩ := v
  cases r with
  | @tup a vs ds F h t =>
    obtain ⟨hi, rfl⟩ := guard_eq (show (if immL ds = true then some (Val.lst ds) else none) = some d' from e)
    have t0 := t.nils (t.imm0 hi)
    exact ⟨_, _, rfl, .inr h, fun l hl => q _ _ (.lst hl t0)⟩
  | @row a vs ds F h t =>
    obtain ⟨hi, rfl⟩ := guard_eq (show (if immL ds = true then some (Val.lst ds) else none) = some d' from e)
    have t0 := t.nils (t.imm0 hi)
    exact ⟨_, _, rfl, .inr h.sq, fun l hl => q _ _ (.lst hl t0)⟩
  | @lst a vs ds F h t =>
    obtain ⟨hi, rfl⟩ := guard_eq (show (if immL ds = true then some (Val.lst ds) else none) = some d' from e)
    have t0 := t.nils (t.imm0 hi)
    exact ⟨_, _, rfl, .inl (.of h), fun l hl => q _ _ (.lst hl t0)⟩
  | flst h => cases e; exact ⟨_, _, rfl, .inl h.sq, fun l hl => q _ _ (.lst hl .ints)⟩
  | _ => cases e
/-- a row of ints that is a list -/
theorem list_ints {K : PySem.W.Frag} {H : Hp} {d : Val} {x : V} {F : List Addr} {d' : Val} {f : List Int → Val} (r : Rep K H d x F) (e : ((items? d).bind fun ds => (ints? ds).bind fun ns => match d with | .tup _ => none | .row _ => none | _ => some (f ns)) = some d') :
    ∃ a ns, x = .ref a ∧ SqL K H a (ns.map V.int) ∧ d' = f ns := by
  cases r with
  | @lst a vs ds F h t =>
    simp only [items?, Option.bind_some] at e
    obtain ⟨ns, e1, e2⟩ := Option.bind_eq_some_iff.mp e
    cases e2
    exact ⟨a, ns, rfl, .of (by rw [← ints_vals e1 t]; exact h), rfl⟩
  | @flst a ns h =>
    simp only [items?, Option.bind_some] at e
    obtain ⟨ms, e1, e2⟩ := Option.bind_eq_some_iff.mp e
    cases e2
    have q : ns.map V.int = ms.map V.int := ints_vals e1 (AllP.ints (K := K) (H := H))
    exact ⟨a, ms, rfl, q ▸ h.sq, rfl⟩
  | tup h t =>
    simp only [items?, Option.bind_some] at e
    obtain ⟨ns, e1, e2⟩ := Option.bind_eq_some_iff.mp e
    cases e2
  | row h t =>
    simp only [items?, Option.bind_some] at e
    obtain ⟨ns, e1, e2⟩ := Option.bind_eq_some_iff.mp e
    cases e2
  | _ => cases e
/-- sum, max, min of a list or a tuple of ints -/
theorem seq_ints {K : PySem.W.Frag} {H : Hp} {d : Val} {x : V} {F : List Addr} {ds : List Val} {ns : List Int} (r : Rep K H d x F) (e1 : items? d = some ds) (e2 : ints? ds = some ns) : ∃ a, x = .ref a ∧ (SqL K H a (ns.map V.int) ∨ SqT K H a (ns.map V.int)) := by
  obtain ⟨a, vs, G, rfl, h, t⟩ := r.items e1
  rw [ints_vals e2 t] at h
  exact ⟨a, rfl, h⟩
def rSortA (K : PySem.W.Frag) : List V → Hp → VK → Prop := fun vs H Q => ∃ (a : Addr) (ns : List Int), vs = [V.ref a] ∧ (SqL K H a (ns.map V.int) ∨ SqT K H a (ns.map V.int)) ∧
  ∀ (ns' : List Int) (p : Addr), ns'.Perm ns → ns'.Pairwise (· ≤ ·) → H p = none → Q (.ref p) (upd H p (.lst (ns'.map V.int)))
theorem cr_sortA : CallR X (.builtin "sorted") (rSortA X.K) := fun pins s σ H vs us Q I r ⟨a, ns, e, hs, q⟩ => by
  subst e
  rcases hs with hs | hs
  · exact cr_sortedI pins s σ H _ us Q I r ⟨a, ns, rfl, hs, q⟩
  · exact cr_sortedTI pins s σ H _ us Q I r ⟨a, ns, rfl, hs, q⟩
theorem cr_sortedN : CallR X (.builtin "sorted") (rW X.K .sorted) := cr_of cr_sortA fun x H Q d d' v e q => by
  obtain ⟨F, r⟩ := v
  obtain ⟨ds, e1, e2⟩ := Option.bind_eq_some_iff.mp (show (items? d).bind (fun ds => (ints? ds).map fun ns => Val.lst ((isort ns).map Val.int)) = some d' by cases d <;> exact e)
  obtain ⟨ns, e3, e4⟩ := Option.map_eq_some_iff.mp e2
  subst e4
  obtain ⟨a, rfl, hs⟩ := seq_ints r e1 e3
  exact ⟨a, ns, rfl, hs, fun ms p hp hm hn => by
    have e := isort_eq hp hm
    subst e
    exact q _ _ (.lst hn .ints)⟩
def rSumA (K : PySem.W.Frag) : List V → Hp → VK → Prop := fun vs H Q => ∃ (a : Addr) (ns : List Int), vs = [V.ref a] ∧ (SqL K H a (ns.map V.int) ∨ SqT K H a (ns.map V.int)) ∧ Q (.int ns.sum) H
def rMaxA (K : PySem.W.Frag) : List V → Hp → VK → Prop := fun vs H Q => ∃ (a : Addr) (ns : List Int), vs = [V.ref a] ∧ (SqL K H a (ns.map V.int) ∨ SqT K H a (ns.map V.int)) ∧ 0 < ns.length ∧ ∀ m, m ∈ ns → (∀ y, y ∈ ns → y ≤ m) → Q (.int m) H
def rMinA (K : PySem.W.Frag) : List V → Hp → VK → Prop := fun vs H Q => ∃ (a : Addr) (ns : List Int), vs = [V.ref a] ∧ (SqL K H a (ns.map V.int) ∨ SqT K H a (ns.map V.int)) ∧ 0 < ns.length ∧ ∀ m, m ∈ ns → (∀ y, y ∈ ns → m ≤ y) → Q (.int m) H
theorem cr_sumA (hc : X.calm = true) : CallR X (.builtin "sum") (rSumA X.K) := fun pins s σ H vs us Q I r ⟨a, ns, e, hs, q⟩ => by
  subst e
  rcases hs with hs | hs
  · exact cr_sum hc pins s σ H _ us Q I r ⟨a, ns, rfl, hs, q⟩
  · obtain ⟨its, rv, hl, _⟩ := I.tuple hs
    rw [Vals.ref1 r]
    exact sum_tup (I.ok.hd hc) hl rv.ints fun h' tk t' hk => ⟨.int _, H, I.kept hk, ⟨_, rfl⟩, q⟩
theorem cr_maxA (hc : X.calm = true) : CallR X (.builtin "max") (rMaxA X.K) := fun pins s σ H vs us Q I r ⟨a, ns, e, hs, hne, q⟩ => by
  subst e
  rcases hs with hs | hs
  · exact cr_max hc pins s σ H _ us Q I r ⟨a, ns, rfl, hs, hne, q⟩
  · obtain ⟨its, rv, hl, _⟩ := I.tuple hs
    rw [Vals.ref1 r]
    exact max_tup (I.ok.hd hc) hl rv.ints hne fun h' tk m t' hk h1 h2 => ⟨.int _, H, I.kept hk, ⟨_, rfl⟩, q m h1 h2⟩
theorem cr_minA (hc : X.calm = true) : CallR X (.builtin "min") (rMinA X.K) := fun pins s σ H vs us Q I r ⟨a, ns, e, hs, hne, q⟩ => by
  subst e
  rcases hs with hs | hs
  · exact cr_min hc pins s σ H _ us Q I r ⟨a, ns, rfl, hs, hne, q⟩
  · obtain ⟨its, rv, hl, _⟩ := I.tuple hs
    rw [Vals.ref1 r]
    exact min_tup (I.ok.hd hc) hl rv.ints hne fun h' tk m t' hk h1 h2 => ⟨.int _, H, I.kept hk, ⟨_, rfl⟩, q m h1 h2⟩
theorem foldmax : ∀ (r : List Int) (n : Int), (r.foldl max n = n ∨ r.foldl max n ∈ r) ∧ n ≤ r.foldl max n ∧ ∀ y ∈ r, y ≤ r.foldl max n
  | [], n => ⟨.inl rfl, Int.le_refl _, fun y h => by simp at h⟩
  | x :: r, n => by
    obtain ⟨h1, h2, h3⟩ := foldmax r (max n x)
    rw [List.foldl_cons]
    refine ⟨?_, by omega, fun y hy => ?_⟩
    · rcases h1 with h1 | h1
      · rw [h1]
        by_cases q : n ≤ x
        · right; rw [show max n x = x by omega]; exact List.mem_cons_self
        · left; omega
      · right; exact List.mem_cons_of_mem _ h1
    · rcases List.mem_cons.mp hy with e | hy
      · subst e; omega
      · exact h3 y hy
theorem foldmin : ∀ (r : List Int) (n : Int), (r.foldl min n = n ∨ r.foldl min n ∈ r) ∧ r.foldl min n ≤ n ∧ ∀ y ∈ r, r.foldl min n ≤ y
  | [], n => ⟨.inl rfl, Int.le_refl _, fun y h => by simp at h⟩
  | x :: r, n => by
    obtain ⟨h1, h2, h3⟩ := foldmin r (min n x)
    rw [List.foldl_cons]
    refine ⟨?_, by omega, fun y hy => ?_⟩
    · rcases h1 with h1 | h1
      · rw [h1]
        by_cases q : n ≤ x
        · left; omega
        · right; rw [show min n x = x by omega]; exact List.mem_cons_self
      · right; exact List.mem_cons_of_mem _ h1
    · rcases List.mem_cons.mp hy with e | hy
      · subst e; omega
      · exact h3 y hy
theorem cr_sumN (hc : X.calm = true) : CallR X (.builtin "sum") (rW X.K .sum) := cr_of (cr_sumA hc) fun x H Q d d' v e q => by
  obtain ⟨F, r⟩ := v
  obtain ⟨ds, e1, e2⟩ := Option.bind_eq_some_iff.mp (show (items? d).bind (fun ds => (ints? ds).map fun ns => Val.int ns.sum) = some d' from e)
  obtain ⟨ns, e3, rfl⟩ := Option.map_eq_some_iff.mp e2
  obtain ⟨a, rfl, hs⟩ := seq_ints r e1 e3
  exact ⟨a, ns, rfl, hs, q _ _ (.flat (.int _))⟩
theorem cr_maxN (hc : X.calm = true) : CallR X (.builtin "max") (rW X.K .max) := cr_of (cr_maxA hc) fun x H Q d d' v e q => by
  obtain ⟨F, r⟩ := v
  obtain ⟨ds, e1, e2⟩ := Option.bind_eq_some_iff.mp (show (items? d).bind (fun ds => (ints? ds).bind fun ns => match ns with | [] => none | n :: r => some (Val.int (r.foldl max n))) = some d' from e)
  obtain ⟨ns, e3, e4⟩ := Option.bind_eq_some_iff.mp e2
  obtain ⟨a, rfl, hs⟩ := seq_ints r e1 e3
  cases ns with
  | nil => cases e4
  | cons n r =>
    cases e4
    obtain ⟨h1, h2, h3⟩ := foldmax r n
    refine ⟨a, n :: r, rfl, hs, by simp, fun m hm hy => ?_⟩
    have e5 : m = r.foldl max n := by
      have q1 : r.foldl max n ≤ m := hy _ (by rcases h1 with h1 | h1 <;> simp [h1])
      rcases List.mem_cons.mp hm with e | hm
      · omega
      · have := h3 m hm; omega
    subst e5
    exact q _ _ (.flat (.int _))
theorem cr_minN (hc : X.calm = true) (hu : X.A.units + 65 < cLine) : CallR X (.builtin "min") (rW X.K .min) := cr_of (CallR.or (cr_minA hc) (cr_minP hc hu)) fun x H Q d d' v e q => by
  obtain ⟨F, r⟩ := v
  obtain ⟨ds, e1, e2⟩ := Option.bind_eq_some_iff.mp (show (items? d).bind (fun ds => match ints? ds with
    | some [] => none
    | some (n :: r) => some (Val.int (r.foldl min n))
    | none => (pairs? ds).bind fun ps => match ps with
      | [] => none
      | p :: r => some (eP (PySem.W.minOf p r))) = some d' from e)
  cases e3 : ints? ds with
  | some ns =>
    rw [e3] at e2
    obtain ⟨a, rfl, hs⟩ := seq_ints r e1 e3
    cases ns with
    | nil => cases e2
    | cons n r =>
      cases e2
      obtain ⟨h1, h2, h3⟩ := foldmin r n
      refine .inl ⟨a, n :: r, rfl, hs, by simp, fun m hm hy => ?_⟩
      have e5 : m = r.foldl min n := by
        have q1 : m ≤ r.foldl min n := hy _ (by rcases h1 with h1 | h1 <;> simp [h1])
        rcases List.mem_cons.mp hm with e | hm
        · omega
        · have := h3 m hm; omega
      subst e5
      exact q _ _ (.flat (.int _))
  | none =>
    rw [e3] at e2
    obtain ⟨ps, e4, e5⟩ := Option.bind_eq_some_iff.mp (show (pairs? ds).bind (fun ps => match ps with
      | [] => none
      | p :: r => some (eP (PySem.W.minOf p r))) = some d' from e2)
    cases ps with
    | nil => cases e5
    | cons p r0 =>
      cases e5
      obtain ⟨a, vs, G, rfl, hs, ha⟩ := r.items e1
      exact .inr ⟨a, vs, ds, G, p, r0, rfl, hs, ha, e4, fun w G2 rw2 => q _ _ (.same rw2 fun z => Rep.imm0 64 _ _ _ (show immN 64 (eP _) = true from rfl) rw2)⟩
theorem cr_allN (hc : X.calm = true) : CallR X (.builtin "all") (rW X.K .all) := cr_of (cr_all hc) fun x H Q d d' v e q => by
  obtain ⟨F, r⟩ := v
  cases r with
  | @lst a vs ds F h t =>
    obtain ⟨bs, e1, rfl⟩ := Option.map_eq_some_iff.mp (show (bools? ds).map (fun bs => Val.bl (bs.all id)) = some d' from e)
    exact ⟨a, bs, rfl, .of (by rw [← bools_vals e1 t]; exact h), q _ _ (.flat (.bl _))⟩
  | _ => cases e
theorem cr_anyN (hc : X.calm = true) : CallR X (.builtin "any") (rW X.K .any) := cr_of (cr_any hc) fun x H Q d d' v e q => by
  obtain ⟨F, r⟩ := v
  cases r with
  | @lst a vs ds F h t =>
    obtain ⟨bs, e1, rfl⟩ := Option.map_eq_some_iff.mp (show (bools? ds).map (fun bs => Val.bl (bs.any id)) = some d' from e)
    exact ⟨a, bs, rfl, .of (by rw [← bools_vals e1 t]; exact h), q _ _ (.flat (.bl _))⟩
  | _ => cases e
/-- what type a value is of -/
inductive Ty where
  | non | bl | int | str | tup | lst | dic
def Ty.name : Ty → String
  | .non => "NoneType"
  | .bl => "bool"
  | .int => "int"
  | .str => "str"
  | .tup => "tuple"
  | .lst => "list"
  | .dic => "dict"
def tag : Val → Ty
  | .non => .non
  | .bl _ => .bl
  | .int _ => .int
  | .str _ => .str
  | .tup _ => .tup
  | .lst _ => .lst
  | .flst _ => .lst
  | .dic _ _ => .dic
  | .row _ => .tup
abbrev tyOf (d : Val) : String := (tag d).name
theorem ty_of {K : PySem.W.Frag} {H : Hp} {d : Val} {x : V} {F : List Addr} (r : Rep K H d x F) : TyX K H x (.type (tyOf d)) := by
  cases r with
  | non => exact .base .non
  | bl b => exact .base (.bl b)
  | int b => exact .base (.int b)
  | str b => exact .base (.str b)
  | tup h t =>
    rcases h with (h | ⟨o, h⟩) | ⟨o, its, n, h, c, _⟩
    · exact .base (.tup h)
    · exact .fTuple h
    · exact .kTuple h c
  | row h t =>
    obtain ⟨o, h, _⟩ := h
    exact .fTuple h
  | lst h t => exact .base (.lst h)
  | flst h =>
    rcases h with ⟨o, h⟩ | ⟨o, its, n, h, c, _⟩
    · exact .base (.frz h)
    · exact .kList h c
  | dic h t =>
    rcases h with ⟨_, _, _, h⟩ | ⟨_, _, _, h⟩
    · exact .base (.dK h)
    · exact .base (.dT h)
/-- isinstance(e, T), T a built-in type -/
theorem pe_isi (g : Good X N sc) {p : P1} {T : String} {f : Str} {x : Str} {q1 q2 q3 : Pos} (hf : f = "isinstance") (hg : gl sc f = true) (hx : gl sc x = true) (hm : X.mg x = none) (hv : bootBuiltins x = some (.type T)) (h1 : x ≠ "__name__") (h2 : (x == ("__debug__" : Str)) = false)
    (hn : nst a = true) (ha : PE X a ta) (tb : Ty → Bool) (hk0 : ∀ d : Val, prim1 p d = some (.bl (tb (tag d)))) (hk : ∀ t : Ty, kitB t.name T = some (tb t)) : PE X (.Call (.Name f q1) [a, .Name x q2] [] q3) (fun σ H Q => ta σ H fun y H1 => R1 X.K p y H1 Q) := by
  subst hf
  have hc : CallR X (.builtin "isinstance") (fun xs H Q => match xs with | [y, .ty t] => t = T ∧ R1 X.K p y H Q | _ => False) := by
    refine CallR_imp call_isi fun xs H Q q => ?_
    match xs, q with
    | [y, .ty t], ⟨e0, d, d', ⟨F, r⟩, e, q⟩ =>
      subst e0
      rw [hk0 d] at e
      cases e
      exact ⟨y, .ty t, _, _, _, rfl, .ty t, ty_of r, kit_ty (hk _), q _ _ (.flat (.bl _))⟩
  refine PE_imp (pe_callB hc (g.gl hg) (g.no (by decide)) (by decide +kernel) (pa_cons (PE_mcl ha) (pa_cons (pe_bltn (v := .ty T) (g.gl hx) hm hv rfl h1 h2) pa_nil) (nst_star hn _ _)) (he := nst_star hn _ _)) fun σ H Q h => ?_
  exact ⟨_, h, fun y H1 q => ⟨rfl, q⟩⟩

/-- the text of a rule over one value has its reading -/
theorem ins_mem {x k : Int} : ∀ {l : List Int}, k ∈ insI x l ↔ k = x ∨ k ∈ l
  | [] => by simp [insI]
  | y :: r => by
    unfold insI
    split
    · simp
    · split
      · rename_i h; subst h; simp
      · simp only [List.mem_cons, ins_mem (l := r)]
        constructor
        · rintro (h | h | h) <;> simp [h]
        · rintro (h | h | h) <;> simp [h]
theorem ins_pair {x : Int} : ∀ {l : List Int}, l.Pairwise (· < ·) → (insI x l).Pairwise (· < ·)
  | [], _ => by simp [insI]
  | y :: r, h => by
    obtain ⟨h1, h2⟩ := List.pairwise_cons.mp h
    unfold insI
    split
    · rename_i hx
      exact List.pairwise_cons.mpr ⟨fun z hz => by
        rcases List.mem_cons.mp hz with rfl | hz
        · exact hx
        · have := h1 z hz; omega, h⟩
    · split
      · exact h
      · exact List.pairwise_cons.mpr ⟨fun z hz => by
          rcases ins_mem.mp hz with rfl | hz
          · omega
          · exact h1 z hz, ins_pair h2⟩
theorem sset_mem {k : Int} : ∀ {l : List Int}, k ∈ sset l ↔ k ∈ l
  | [] => by simp [sset]
  | y :: r => by
    show k ∈ insI y (sset r) ↔ _
    rw [ins_mem, sset_mem (l := r), List.mem_cons]
theorem sset_pair : ∀ {l : List Int}, (sset l).Pairwise (· < ·)
  | [] => by simp [sset]
  | y :: r => ins_pair sset_pair
theorem asc_eq : ∀ {xs ys : List Int}, xs.Pairwise (· < ·) → ys.Pairwise (· < ·) → (∀ k, k ∈ xs ↔ k ∈ ys) → xs = ys
  | [], [], _, _, _ => rfl
  | [], y :: ys, _, _, h => by have := (h y).mpr (by simp); simp at this
  | x :: xs, [], _, _, h => by have := (h x).mp (by simp); simp at this
  | x :: xs, y :: ys, h1, h2, h => by
    obtain ⟨a1, a2⟩ := List.pairwise_cons.mp h1
    obtain ⟨b1, b2⟩ := List.pairwise_cons.mp h2
    have e : x = y := by
      rcases List.mem_cons.mp ((h x).mp (by simp)) with e | e
      · exact e
      · rcases List.mem_cons.mp ((h y).mpr (by simp)) with e2 | e2
        · exact e2.symm
        · have := a1 y e2; have := b1 x e; omega
    subst e
    rw [asc_eq a2 b2 fun k => ?_]
    constructor
    · intro hk
      rcases List.mem_cons.mp ((h k).mp (List.mem_cons_of_mem _ hk)) with e | e
      · subst e; have := a1 k hk; omega
      · exact e
    · intro hk
      rcases List.mem_cons.mp ((h k).mpr (List.mem_cons_of_mem _ hk)) with e | e
      · subst e; have := b1 k hk; omega
      · exact e
theorem p1_ok (g : Good X N sc) : ∀ (p : P1) (e a : Expr) (ta : TE), m1 sc p e = some a → PE X a ta → PE X e (fun σ H Q => ta σ H fun y H1 => R1 X.K p y H1 Q) := by
  intro p e a ta h ha
  unfold m1 at h
  split at h
  · -- neg
    cases h
    refine pe_un (r := R1 X.K .neg) (UnR_imp un_neg fun x H Q ⟨d, d', ⟨F, r⟩, e, q⟩ => ?_) ha
    cases r with
    | int i => cases e; exact ⟨_, rfl, q _ _ (.flat (.int _))⟩
    | _ => cases e
  · -- not
    cases h
    refine PE_imp (pe_not (PE_mcl ha)) fun σ H Q h => ⟨_, h, fun y H1 ⟨d, d', ⟨F, r⟩, e, q⟩ => ?_⟩
    cases r with
    | bl i => cases e; exact ⟨_, rfl, q _ _ (.flat (.bl _))⟩
    | _ => cases e
  rotate_right 1
  · cases h
  all_goals (obtain ⟨hh, rfl⟩ := guard_eq h; simp only [Bool.and_eq_true, beq_iff_eq] at hh)
  · obtain ⟨⟨rfl, hg⟩, hn⟩ := hh
    exact pe_callB cr_len (g.gl hg) (g.no (by decide)) boot_len (pa_cons ha pa_nil (nst_star hn _ _)) (he := nst_star hn _ _)
  · obtain ⟨⟨rfl, hg⟩, hn⟩ := hh
    exact pe_callTy cr_int (g.gl hg) (g.no (by decide)) (by decide +kernel) (pa_cons ha pa_nil (nst_star hn _ _)) (he := nst_star hn _ _)
  · obtain ⟨⟨rfl, hg⟩, hn⟩ := hh
    exact pe_callB cr_abs (g.gl hg) (g.no (by decide)) (by decide +kernel) (pa_cons ha pa_nil (nst_star hn _ _)) (he := nst_star hn _ _)
  · obtain ⟨⟨rfl, hg⟩, hn⟩ := hh
    exact pe_callTy cr_tuple (g.gl hg) (g.no (by decide)) (by decide +kernel) (pa_cons ha pa_nil (nst_star hn _ _)) (he := nst_star hn _ _)
  · obtain ⟨⟨rfl, hg⟩, hn⟩ := hh
    exact pe_callTy cr_list (g.gl hg) (g.no (by decide)) (by decide +kernel) (pa_cons ha pa_nil (nst_star hn _ _)) (he := nst_star hn _ _)
  · obtain ⟨⟨rfl, hg⟩, hn⟩ := hh
    exact pe_callB cr_sortedN (g.gl hg) (g.no (by decide)) (by decide +kernel) (pa_cons ha pa_nil (nst_star hn _ _)) (he := nst_star hn _ _)
  · obtain ⟨⟨rfl, hg⟩, hn⟩ := hh
    exact pe_callB (cr_sumN g.calm) (g.gl hg) (g.no (by decide)) (by decide +kernel) (pa_cons ha pa_nil (nst_star hn _ _)) (he := nst_star hn _ _)
  · obtain ⟨⟨rfl, hg⟩, hn⟩ := hh
    exact pe_callB (cr_maxN g.calm) (g.gl hg) (g.no (by decide)) (by decide +kernel) (pa_cons ha pa_nil (nst_star hn _ _)) (he := nst_star hn _ _)
  · obtain ⟨⟨rfl, hg⟩, hn⟩ := hh
    exact pe_callB (cr_minN g.calm g.hu) (g.gl hg) (g.no (by decide)) (by decide +kernel) (pa_cons ha pa_nil (nst_star hn _ _)) (he := nst_star hn _ _)
  · obtain ⟨⟨rfl, hg⟩, hn⟩ := hh
    exact pe_callB (cr_allN g.calm) (g.gl hg) (g.no (by decide)) (by decide +kernel) (pa_cons ha pa_nil (nst_star hn _ _)) (he := nst_star hn _ _)
  · obtain ⟨⟨rfl, hg⟩, hn⟩ := hh
    exact pe_callB (cr_anyN g.calm) (g.gl hg) (g.no (by decide)) (by decide +kernel) (pa_cons ha pa_nil (nst_star hn _ _)) (he := nst_star hn _ _)
  · obtain ⟨⟨⟨⟨rfl, hg⟩, rfl⟩, hx⟩, hn⟩ := hh
    exact pe_isi g (T := "bool") rfl hg hx (g.no (by decide)) (by decide +kernel) (by decide) (by decide) hn ha (fun t => match t with | .bl => true | _ => false) (fun d => by cases d <;> rfl) fun t => by cases t <;> decide +kernel
  · obtain ⟨⟨⟨⟨rfl, hg⟩, rfl⟩, hx⟩, hn⟩ := hh
    exact pe_isi g (T := "int") rfl hg hx (g.no (by decide)) (by decide +kernel) (by decide) (by decide) hn ha (fun t => match t with | .bl => true | .int => true | _ => false) (fun d => by cases d <;> rfl) fun t => by cases t <;> decide +kernel
  · obtain ⟨⟨⟨⟨rfl, hg⟩, rfl⟩, hx⟩, hn⟩ := hh
    exact pe_isi g (T := "str") rfl hg hx (g.no (by decide)) (by decide +kernel) (by decide) (by decide) hn ha (fun t => match t with | .str => true | _ => false) (fun d => by cases d <;> rfl) fun t => by cases t <;> decide +kernel
  · obtain ⟨⟨⟨⟨rfl, hg⟩, rfl⟩, hx⟩, hn⟩ := hh
    exact pe_isi g (T := "tuple") rfl hg hx (g.no (by decide)) (by decide +kernel) (by decide) (by decide) hn ha (fun t => match t with | .tup => true | _ => false) (fun d => by cases d <;> rfl) fun t => by cases t <;> decide +kernel
  · obtain ⟨⟨⟨⟨rfl, hg⟩, rfl⟩, hx⟩, hn⟩ := hh
    refine PE_imp (pe_callB (cr_sortedSet g.calm) (g.gl hg) (g.no (by decide)) (by decide +kernel) (pa_cons (pe_callTy (cr_setTI g.calm) (g.gl hx) (g.no (by decide)) (by decide +kernel) (pa_cons (PE_mcl ha) pa_nil (nst_star hn _ _)) (he := nst_star hn _ _)) pa_nil rfl)) fun σ H Q h => ⟨_, h, fun y H1 ⟨d, d', ⟨F, r⟩, e, q⟩ => ?_⟩
    cases r with
    | @row a vs ds F hs0 t =>
      have hs : SqT X.K H1 a vs := hs0.sq
      obtain ⟨ns, e1, e2⟩ := Option.bind_eq_some_iff.mp (show (ints? ds).bind (fun ns => if ns.length < 64 then some (Val.lst ((sset ns).map Val.int)) else none) = some d' from e)
      obtain ⟨hl, rfl⟩ := guard_eq e2
      rw [ints_vals e1 t] at hs
      refine ⟨a, ns, rfl, hs, hl, fun p n hp hn2 => ⟨p, _, n, rfl, upd_same, by omega, fun ns' z hpw hm hlen hz => ?_⟩⟩
      have ee : ns' = sset ns := asc_eq hpw sset_pair fun k => by rw [hm k, sset_mem]; simp
      subst ee
      have hz1 : H1 z = none := by
        by_cases hzp : z = p
        · subst hzp; rw [upd_same] at hz; cases hz
        · rw [upd_ne hzp] at hz; exact hz
      refine q _ _ ⟨fun b o hb => ?_, [z], .lst upd_same .ints, fun _ => ⟨fun b => ?_, fun b hb => ?_⟩⟩
      · rw [upd_ne (fun e => by subst e; rw [hz1] at hb; cases hb), upd_ne (fun e => by subst e; rw [hp] at hb; cases hb)]; exact hb
      · rw [List.count_cons, List.count_nil]; split <;> omega
      · rw [List.mem_singleton] at hb; subst hb; exact hz1
    | _ => cases e
  · obtain ⟨⟨⟨rfl, hg⟩, rfl⟩, hn⟩ := hh
    refine PE_imp (pe_callBK (cr_sortedRevS (b := true)) (g.gl hg) (g.no (by decide)) (by decide +kernel) (pa_cons (PE_mcl ha) pa_nil (nst_star hn _ _)) (pk_cons pe_bl pk_nil) (he := by rw [nst_star hn]; rfl) (hpl := by rw [nst_star hn]; rfl)) fun σ H Q h => ⟨_, h, fun y H1 ⟨d, d', ⟨F, r⟩, e, q⟩ => ?_⟩
    obtain ⟨ds, e1, e2⟩ := Option.bind_eq_some_iff.mp (show (items? d).bind (fun ds => (ints? ds).map fun ns => Val.lst ((isort ns).reverse.map Val.int)) = some d' by cases d <;> exact e)
    obtain ⟨ns, e3, e4⟩ := Option.map_eq_some_iff.mp e2
    subst e4
    obtain ⟨a, rfl, hs⟩ := seq_ints r e1 e3
    refine ⟨a, ns, rfl, rfl, hs, fun ms p hp hm hn => ?_⟩
    have e : ms.reverse = isort ns := isort_eq ((List.reverse_perm ms).trans hp) (List.pairwise_reverse.mpr hm)
    have e2 : ms = (isort ns).reverse := by rw [← e, List.reverse_reverse]
    subst e2
    exact q _ _ (.lst hn .ints)
  · obtain ⟨⟨⟨⟨rfl, hg⟩, rfl⟩, hx⟩, hn⟩ := hh
    refine PE_imp (pe_lenSetS g.calm (g.gl hg) (g.no (by decide)) (g.gl hx) (g.no (by decide)) (PE_mcl ha) (nst_star hn _ _)) fun σ H Q h => ⟨_, h, fun y H1 ⟨d, d', ⟨F, r⟩, e, q⟩ => ?_⟩
    obtain ⟨ds, e1, e2⟩ := Option.bind_eq_some_iff.mp (show (items? d).bind (fun ds => (ints? ds).bind fun ns => if ns.length < 1000 then some (Val.int (nset ns)) else none) = some d' by cases d <;> exact e)
    obtain ⟨ns, e3, e4⟩ := Option.bind_eq_some_iff.mp e2
    obtain ⟨hl, rfl⟩ := guard_eq e4
    obtain ⟨a, rfl, hs⟩ := seq_ints r e1 e3
    exact ⟨a, ns, rfl, hs, hl, q _ _ (.flat (.int _))⟩
end
end NV

set_option Elab.async false
set_option linter.all false
set_option maxRecDepth 100000
set_option maxHeartbeats 1000000
/-! Rules over two values; slices. -/
namespace NV
open PySem PySem.Spec L2

/-! ### plain data -/
theorem toPyL_map : ∀ ds : List Val, toPyL ds = ds.map toPy
  | [] => rfl
  | d :: ds => by rw [toPyL, toPyL_map ds]; rfl
theorem row_dp {K : PySem.W.Frag} {H : Hp} {n : Nat} (ih : ∀ (d : Val) (v : V) (F : List Addr), shp n d = true → Rep K H d v F → Dp K H v (toPy d)) : ∀ {ds : List Val} {vs : List V} {F : List Addr}, ds.all (shp n) = true → AllP (Rep K H) ds vs F → DpAll K H vs (toPyL ds)
  | [], _, _, _, h => by cases h; exact .nil
  | d :: ds, _, _, e, h => by
    cases h with
    | cons r t =>
      simp only [List.all_cons, Bool.and_eq_true] at e
      exact .cons (ih _ _ _ e.1 r) (row_dp ih e.2 t)
theorem rep_dp {K : PySem.W.Frag} {H : Hp} : ∀ (n : Nat) (d : Val) (v : V) (F : List Addr), shp n d = true → Rep K H d v F → Dp K H v (toPy d) := by
  intro n
  induction n with
  | zero =>
    intro d v F h r
    cases r with
    | non => exact .non
    | bl b => exact .bl b
    | int b => exact .int b
    | str b => exact .str b
    | _ => simp [shp] at h
  | succ n ih =>
    intro d v F h r
    cases r with
    | non => exact .non
    | bl b => exact .bl b
    | int b => exact .int b
    | str b => exact .str b
    | tup hs t => exact .tup hs (row_dp ih (by simpa [shp] using h) t)
    | row hs t => exact .tup hs.sq (row_dp ih (by simpa [shp] using h) t)
    | lst hs t => exact .lst (.of hs) (row_dp ih (by simpa [shp] using h) t)
    | _ => simp [shp] at h
theorem row_lay {n : Nat} (ih : ∀ d : Val, shp n d = true → (toPy d).canLay0 = true ∧ (toPy d).depth ≤ n) : ∀ {ds : List Val}, ds.all (shp n) = true → PyData.canLayAll0 (toPyL ds) = true ∧ PyData.depthAll (toPyL ds) ≤ n
  | [], _ => by simp [toPyL, PyData.canLayAll0, PyData.depthAll]
  | d :: ds, e => by
    simp only [List.all_cons, Bool.and_eq_true] at e
    have h1 := ih d e.1
    have h2 := row_lay ih e.2
    simp only [toPyL, PyData.canLayAll0, PyData.depthAll, h1.1, h2.1, Bool.and_self, true_and]
    omega
theorem shp_lay : ∀ (n : Nat) (d : Val), shp n d = true → (toPy d).canLay0 = true ∧ (toPy d).depth ≤ n := by
  intro n
  induction n with
  | zero =>
    intro d h
    cases d <;> first | (simp [toPy, PyData.canLay0, PyData.depth]; done) | (simp [shp] at h; simp [toPy, PyData.canLay0, PyData.depth, h]; done) | (simp [shp] at h)
  | succ n ih =>
    intro d h
    cases d with
    | tup ds =>
      have := row_lay ih (ds := ds) (by simpa [shp] using h)
      simp only [toPy, PyData.canLay0, PyData.depth]
      exact ⟨this.1, by omega⟩
    | row ds =>
      have := row_lay ih (ds := ds) (by simpa [shp] using h)
      simp only [toPy, PyData.canLay0, PyData.depth]
      exact ⟨this.1, by omega⟩
    | lst ds =>
      have := row_lay ih (ds := ds) (by simpa [shp] using h)
      simp only [toPy, PyData.canLay0, PyData.depth]
      exact ⟨this.1, by omega⟩
    | _ => first | (simp [toPy, PyData.canLay0, PyData.depth]; done) | (simp [shp] at h; simp [toPy, PyData.canLay0, PyData.depth, h]; done) | (simp [shp] at h)
theorem shp_shaped {d : Val} (h : shp 60 d = true) : SeqAt.shaped (toPy d) = true := by
  have q := shp_lay 60 d h
  unfold SeqAt.shaped
  rw [q.1, decide_eq_true (show (toPy d).depth ≤ 64 by omega)]
  rfl
mutual
theorem eqv_veq : ∀ (n : Nat) (a b : Val), shp n a = true → shp n b = true → PyData.eqv (toPy a) (toPy b) = veq a b
  | n, .non, b, _, h => by cases b <;> first | (simp [toPy, PyData.eqv, veq]; done) | (cases n <;> simp [shp] at h)
  | n, .bl x, b, _, h => by cases b <;> first | (simp [toPy, PyData.eqv, veq]; done) | (cases n <;> simp [shp] at h)
  | n, .int x, b, _, h => by cases b <;> first | (simp [toPy, PyData.eqv, veq]; done) | (cases n <;> simp [shp] at h)
  | n, .str x, b, _, h => by cases b <;> first | (simp [toPy, PyData.eqv, veq]; done) | (cases n <;> simp [shp] at h)
  | 0, .tup xs, b, h, _ => by simp [shp] at h
  | 0, .row xs, b, h, _ => by simp [shp] at h
  | 0, .lst xs, b, h, _ => by simp [shp] at h
  | n + 1, .tup xs, b, h, h' => by
    cases b with
    | tup ys =>
      simp only [toPy, PyData.eqv, veq]
      exact eqv_veqL n xs ys (by simpa [shp] using h) (by simpa [shp] using h')
    | row ys =>
      simp only [toPy, PyData.eqv, veq]
      exact eqv_veqL n xs ys (by simpa [shp] using h) (by simpa [shp] using h')
    | _ => first | (simp [toPy, PyData.eqv, veq]; done) | (simp [shp] at h')
  | n + 1, .row xs, b, h, h' => by
    cases b with
    | tup ys =>
      simp only [toPy, PyData.eqv, veq]
      exact eqv_veqL n xs ys (by simpa [shp] using h) (by simpa [shp] using h')
    | row ys =>
      simp only [toPy, PyData.eqv, veq]
      exact eqv_veqL n xs ys (by simpa [shp] using h) (by simpa [shp] using h')
    | _ => first | (simp [toPy, PyData.eqv, veq]; done) | (simp [shp] at h')
  | n + 1, .lst xs, b, h, h' => by
    cases b with
    | lst ys =>
      simp only [toPy, PyData.eqv, veq]
      exact eqv_veqL n xs ys (by simpa [shp] using h) (by simpa [shp] using h')
    | _ => first | (simp [toPy, PyData.eqv, veq]; done) | (simp [shp] at h')
  | n, .flst _, b, h, _ => by cases n <;> simp [shp] at h
  | n, .dic _ _, b, h, _ => by cases n <;> simp [shp] at h
theorem eqv_veqL : ∀ (n : Nat) (xs ys : List Val), xs.all (shp n) = true → ys.all (shp n) = true → PyData.eqvAll (toPyL xs) (toPyL ys) = veqL xs ys
  | n, [], [], _, _ => by simp [toPyL, PyData.eqvAll, veqL]
  | n, [], _ :: _, _, _ => by simp [toPyL, PyData.eqvAll, veqL]
  | n, _ :: _, [], _, _ => by simp [toPyL, PyData.eqvAll, veqL]
  | n, x :: xs, y :: ys, h, h' => by
    simp only [List.all_cons, Bool.and_eq_true] at h h'
    simp only [toPyL, PyData.eqvAll, veqL]
    rw [eqv_veq n x y h.1 h'.1, eqv_veqL n xs ys h.2 h'.2]
end
theorem any_veq {x : Val} : ∀ {ds : List Val}, shp 60 x = true → ds.all (shp 60) = true → (toPyL ds).any (fun z => PyData.eqv z (toPy x)) = memV x ds
  | [], _, _ => rfl
  | d :: ds, h, h' => by
    simp only [List.all_cons, Bool.and_eq_true] at h'
    have e := any_veq (ds := ds) h h'.2
    unfold memV at *
    rw [toPyL, List.any_cons, List.any_cons, eqv_veq 60 d x h'.1 h, e]
theorem shp_up : ∀ (n : Nat) (d : Val), shp n d = true → shp (n + 1) d = true := by
  intro n
  induction n with
  | zero => intro d h; cases d <;> first | rfl | (simpa [shp] using h) | (simp [shp] at h)
  | succ n ih =>
    intro d h
    cases d with
    | tup ds =>
      simp only [shp, List.all_eq_true] at h ⊢
      exact fun d hd => ih d (h d hd)
    | row ds =>
      simp only [shp, List.all_eq_true] at h ⊢
      exact fun d hd => ih d (h d hd)
    | lst ds =>
      simp only [shp, List.all_eq_true] at h ⊢
      exact fun d hd => ih d (h d hd)
    | _ => first | rfl | (simpa [shp] using h) | (simp [shp] at h)

/-! ### the text of a rule over two values -/
def m2 (sc : Scope) : P2 → Expr → Option (Expr × Expr)
  | .add, .BinOp a .Add b _ => some (a, b)
  | .sub, .BinOp a .Sub b _ => some (a, b)
  | .mul, .BinOp a .Mult b _ => some (a, b)
  | .mod, .BinOp a .Mod b _ => some (a, b)
  | .fdiv, .BinOp a .FloorDiv b _ => some (a, b)
  | .pow, .BinOp a .Pow b _ => some (a, b)
  | .lt, .Compare a [.Lt] [b] _ => some (a, b)
  | .le, .Compare a [.LtE] [b] _ => some (a, b)
  | .gt, .Compare a [.Gt] [b] _ => some (a, b)
  | .ge, .Compare a [.GtE] [b] _ => some (a, b)
  | .eq, .Compare a [.Eq] [b] _ => some (a, b)
  | .ne, .Compare a [.NotEq] [b] _ => some (a, b)
  | .isin, .Compare a [.In] [b] _ => if noSet b then some (a, b) else none
  | .notin, .Compare a [.NotIn] [b] _ => if noSet b then some (a, b) else none
  | .isN, .Compare a [.Is] [b] _ => some (a, b)
  | .notN, .Compare a [.IsNot] [b] _ => some (a, b)
  | .isB, .Compare a [.Is] [b] _ => some (a, b)
  | .notB, .Compare a [.IsNot] [b] _ => some (a, b)
  | .idx, .Subscript a b _ => if plainB b then some (a, b) else none
  | .min2, .Call (.Name f _) [a, b] [] _ => if f == "min" && gl sc f && nst a && nst b then some (a, b) else none
  | .max2, .Call (.Name f _) [a, b] [] _ => if f == "max" && gl sc f && nst a && nst b then some (a, b) else none
  | _, _ => none

section
variable {K : PySem.W.Frag} {H : Hp}
theorem atI_rep {R : Val → V → List Addr → Prop} {ds : List Val} {vs : List V} {F : List Addr} {i : Int} {d : Val} (h : AllP R ds vs F) (e : atI ds i = some d) : ∃ v G, atI vs i = some v ∧ R d v G := by
  unfold atI at e ⊢
  obtain ⟨j, h1, h2⟩ := Option.bind_eq_some_iff.mp e
  obtain ⟨v, G, h3, h4, _⟩ := h.at h2
  refine ⟨v, G, ?_, h4⟩
  rw [← h.len, h1]; exact h3
end

section
variable {X : Cx} {N : List Str} {sc : Scope}
theorem o_add : OpR X (binaryOp .Add) (R2' X.K .add) := OpR_imp (op_add.or (op_catR.or op_cat)) fun x y H Q ⟨d, e, d', ⟨F, r⟩, ⟨G, t⟩, q, k⟩ => by
  cases r with
  | int i =>
    cases t with
    | int j => cases q; exact .inl ⟨_, _, rfl, rfl, k _ _ (.flat (.int _))⟩
    | _ => cases q
  | @row a vs ds F h1 h2 =>
    cases t with
    | @row b ws es G h3 h4 =>
      obtain ⟨hl, rfl⟩ := guard_eq (show (if ds.length + es.length ≤ 16777216 then some (Val.row (ds ++ es)) else none) = some d' from q)
      refine .inr (.inl ⟨a, b, vs, ws, rfl, rfl, h1.sq, h3.sq, by rw [← h2.len, ← h4.len]; exact hl, fun e => ?_, fun _ e => ?_, fun _ _ => ?_⟩)
      · have e2 : ds = [] := List.length_eq_zero_iff.mp (by rw [h2.len, e]; rfl)
        subst e2
        exact k _ _ (.same (.row h3 h4) fun z => Rep.imm0 64 _ _ _ (by simpa [own] using z) (.row h3 h4))
      · have e2 : es = [] := List.length_eq_zero_iff.mp (by rw [h4.len, e]; rfl)
        subst e2
        rw [List.append_nil] at k
        exact k _ _ (.same (.row h1 h2) fun z => Rep.imm0 64 _ _ _ (by simpa [own] using z) (.row h1 h2))
      · exact Post.newR (h2.app h4) k
    | _ => cases q
  | @lst a vs ds F h1 h2 =>
    cases t with
    | @lst b ws es G h3 h4 =>
      obtain ⟨hl, rfl⟩ := guard_eq (show (if (ds.length + es.length ≤ 16777216 && immL ds && immL es) = true then some (Val.lst (ds ++ es)) else none) = some d' from q)
      simp only [Bool.and_eq_true, decide_eq_true_eq] at hl
      exact .inr (.inr ⟨a, b, vs, ws, rfl, rfl, h1, h3, by rw [← h2.len, ← h4.len]; exact hl.1.1, fun p hp => k _ _ (.lst hp (AllP.app (F := []) (G := []) (h2.nils (h2.imm0 hl.1.2)) (h4.nils (h4.imm0 hl.2))))⟩)
    | _ => cases q
  | _ => cases t <;> cases q
/-- a rule over two ints -/
theorem o_int {f : Value → Value → Sem Value} {C : Int → Int → Prop} {g : Int → Int → V} {g' : Int → Int → Val} {p : P2} (h : OpR X f (rI C g)) (hr : ∀ i j (H : Hp), Rep X.K H (g' i j) (g i j) [])
    (hp : ∀ d e d', prim2 p d e = some d' → ∃ i j, d = .int i ∧ e = .int j ∧ C i j ∧ d' = g' i j) : OpR X f (R2' X.K p) := OpR_imp h fun x y H Q ⟨d, e, d', ⟨F, r⟩, ⟨G, t⟩, q, k⟩ => by
  obtain ⟨i, j, rfl, rfl, hc, rfl⟩ := hp d e d' q
  cases r; cases t
  exact ⟨i, j, rfl, rfl, hc, k _ _ (.flat (hr i j H))⟩
theorem o_int0 {f : Value → Value → Sem Value} {g : Int → Int → V} {g' : Int → Int → Val} {p : P2} (h : OpR X f (rI0 g)) (hr : ∀ i j (H : Hp), Rep X.K H (g' i j) (g i j) [])
    (hp : ∀ d e d', prim2 p d e = some d' → ∃ i j, d = .int i ∧ e = .int j ∧ d' = g' i j) : OpR X f (R2' X.K p) := OpR_imp h fun x y H Q ⟨d, e, d', ⟨F, r⟩, ⟨G, t⟩, q, k⟩ => by
  obtain ⟨i, j, rfl, rfl, rfl⟩ := hp d e d' q
  cases r; cases t
  exact ⟨i, j, rfl, rfl, k _ _ (.flat (hr i j H))⟩
theorem o_sub : OpR X (binaryOp .Sub) (R2' X.K .sub) := o_int0 (g' := fun i j => .int (i - j)) op_sub (fun _ _ _ => .int _) fun d e d' q => by
  cases d <;> cases e <;> first | (cases q; exact ⟨_, _, rfl, rfl, rfl⟩) | cases q
theorem o_mod : OpR X (binaryOp .Mod) (R2' X.K .mod) := o_int (g' := fun i j => .int (i % j)) op_mod (fun _ _ _ => .int _) fun d e d' q => by
  cases d <;> cases e <;> first | (obtain ⟨h, rfl⟩ := guard_eq (show (if _ then some (Val.int _) else none) = some d' from q); exact ⟨_, _, rfl, rfl, h, rfl⟩) | cases q
theorem o_fdiv : OpR X (binaryOp .FloorDiv) (R2' X.K .fdiv) := o_int (g' := fun i j => .int (i / j)) op_fdivW (fun _ _ _ => .int _) fun d e d' q => by
  cases d <;> cases e <;> first | (obtain ⟨h, rfl⟩ := guard_eq (show (if _ then some (Val.int _) else none) = some d' from q); exact ⟨_, _, rfl, rfl, h, rfl⟩) | cases q
theorem o_pow : OpR X (binaryOp .Pow) (R2' X.K .pow) := o_int (g' := fun i j => .int (i ^ j.toNat)) op_pow (fun _ _ _ => .int _) fun d e d' q => by
  cases d <;> cases e <;> first | (obtain ⟨h, rfl⟩ := guard_eq (show (if _ then some (Val.int _) else none) = some d' from q); exact ⟨_, _, rfl, rfl, h, rfl⟩) | cases q
theorem o_lt (hu : X.A.units + 65 < cLine) : OpR X (compareOp .Lt) (R2' X.K .lt) := OpR_imp (op_lt.or (op_ltP hu)) fun x y H Q ⟨d, e, d', ⟨F, r⟩, ⟨G, t⟩, q, k⟩ => by
  cases r with
  | int i =>
    cases t with
    | int j => cases q; exact .inl ⟨_, _, rfl, rfl, k _ _ (.flat (.bl _))⟩
    | _ => cases q
  | @tup a vs ds F h1 h2 =>
    cases t with
    | @tup b ws es G h3 h4 =>
      obtain ⟨p, e1, e2⟩ := Option.bind_eq_some_iff.mp (show (pair? (.tup ds)).bind (fun p => (pair? (.tup es)).map fun q => Val.bl (ltP p q)) = some d' from q)
      obtain ⟨p2, e3, e4⟩ := Option.map_eq_some_iff.mp e2
      subst e4
      have pe : ∀ {zs : List Val} {p : Int × Int}, pair? (.tup zs) = some p → Val.tup zs = eP p := fun {zs p} h => by
        unfold pair? at h
        split at h
        · rename_i e5; cases h; rw [e5]; rfl
        · cases h
      have r1 : Rep X.K H (eP p) (.ref a) F := pe e1 ▸ Rep.tup h1 h2
      have r2 : Rep X.K H (eP p2) (.ref b) G := pe e3 ▸ Rep.tup h3 h4
      exact .inr ⟨p, p2, F, G, r1, r2, k _ _ (.flat (.bl _))⟩
    | _ => cases q
  | _ => cases t <;> cases q
theorem o_le : OpR X (compareOp .LtE) (R2' X.K .le) := o_int0 (g' := fun i j => .bl (decide (i ≤ j))) op_le (fun _ _ _ => .bl _) fun d e d' q => by
  cases d <;> cases e <;> first | (cases q; exact ⟨_, _, rfl, rfl, rfl⟩) | cases q
theorem o_gt : OpR X (compareOp .Gt) (R2' X.K .gt) := o_int0 (g' := fun i j => .bl (decide (j < i))) op_gt (fun _ _ _ => .bl _) fun d e d' q => by
  cases d <;> cases e <;> first | (cases q; exact ⟨_, _, rfl, rfl, rfl⟩) | cases q
theorem o_ge : OpR X (compareOp .GtE) (R2' X.K .ge) := o_int0 (g' := fun i j => .bl (decide (j ≤ i))) op_ge (fun _ _ _ => .bl _) fun d e d' q => by
  cases d <;> cases e <;> first | (cases q; exact ⟨_, _, rfl, rfl, rfl⟩) | cases q
theorem o_mul : OpR X (binaryOp .Mult) (R2' X.K .mul) := OpR_imp (op_mul.or (op_mulW.or (op_rep.or op_repR))) fun x y H Q ⟨d, e, d', ⟨F, r⟩, ⟨G, t⟩, q, k⟩ => by
  cases r with
  | int i =>
    cases t with
    | int j =>
      obtain ⟨h, rfl⟩ := guard_eq (show (if i.natAbs < 2 ^ 64 ∨ j.natAbs < 2 ^ 64 ∨ i.natAbs.log2 + j.natAbs.log2 < 1000000 then some (Val.int (i * j)) else none) = some d' from q)
      rcases h with h | h | h
      · exact .inl ⟨_, _, rfl, rfl, .inl ⟨by omega, by omega⟩, k _ _ (.flat (.int _))⟩
      · exact .inl ⟨_, _, rfl, rfl, .inr ⟨by omega, by omega⟩, k _ _ (.flat (.int _))⟩
      · exact .inr (.inl ⟨_, _, rfl, rfl, h, k _ _ (.flat (.int _))⟩)
    | _ => cases q
  | @lst a vs ds F h1 h2 =>
    cases t with
    | int j =>
      obtain ⟨h, rfl⟩ := guard_eq (show (if (immL ds && decide (-1000000 ≤ j) && decide (j ≤ 1000000) && decide (ds.length * j.toNat ≤ 1000000)) = true then some (Val.lst (List.replicate j.toNat ds).flatten) else none) = some d' from q)
      simp only [Bool.and_eq_true, decide_eq_true_eq] at h
      obtain ⟨⟨⟨h3, h4⟩, h5⟩, h6⟩ := h
      have hs := sizeLine_eq
      exact .inr (.inr (.inl ⟨a, j, vs, rfl, rfl, h1, by omega, by omega, by rw [← h2.len]; omega, fun p hp => k _ _ (.lst hp (AllP.reps _ (h2.nils (h2.imm0 h3))))⟩))
    | _ => cases q
  | @row a vs ds F h1 h2 =>
    cases t with
    | int j =>
      obtain ⟨h, rfl⟩ := guard_eq (show (if (decide (-1000000 ≤ j) && decide (j ≤ 1000) && decide (ds.length ≤ 1000)) = true then some (Val.row (List.replicate j.toNat ds).flatten) else none) = some d' from q)
      simp only [Bool.and_eq_true, decide_eq_true_eq] at h
      obtain ⟨⟨h3, h4⟩, h5⟩ := h
      refine .inr (.inr (.inr ⟨a, j, vs, rfl, rfl, h1.sq, h3, by omega, fun e => ?_, fun e1 e2 => ?_, fun e1 e2 => ⟨⟨h4, by rw [← h2.len]; exact h5⟩, ?_⟩⟩))
      · have e3 : (List.replicate j.toNat ds).flatten = ds := by
          rcases e with e | e
          · have : ds = [] := List.length_eq_zero_iff.mp (by rw [h2.len, e]; rfl)
            subst this; simp
          · subst e; simp
        rw [e3] at k
        exact k _ _ (.same (.row h1 h2) fun z => Rep.imm0 64 _ _ _ (by simpa [own] using z) (.row h1 h2))
      · have e3 : j.toNat = 0 := by omega
        rw [e3] at k
        exact Post.newR .nil k
      · by_cases hi : own true (Val.row (List.replicate j.toNat ds).flatten) = true
        · have hi2 : imm (.row (List.replicate j.toNat ds).flatten) = true := by simpa [own] using hi
          have hd : immL ds = true := by
            simp only [immN, List.all_eq_true] at hi2
            simp only [immL, List.all_eq_true]
            refine fun d hd => hi2 d ?_
            rw [List.mem_flatten]
            exact ⟨ds, List.mem_replicate.mpr ⟨by omega, rfl⟩, hd⟩
          exact Post.newR (AllP.reps _ (h2.nils (h2.imm0 hd))) k
        · obtain ⟨F2, r2⟩ : ∃ F2, AllP (Rep X.K H) (List.replicate j.toNat ds).flatten (List.replicate j.toNat vs).flatten F2 := by
            generalize j.toNat = n
            induction n with
            | zero => exact ⟨[], .nil⟩
            | succ n ih =>
              obtain ⟨F2, r2⟩ := ih
              rw [List.replicate_succ, List.replicate_succ, List.flatten_cons, List.flatten_cons]
              exact ⟨_, h2.app r2⟩
          exact Post.newR r2 k
    | _ => cases q
  | _ => cases t <;> cases q
theorem o_eq (hu : X.A.units + 65 < cLine) : OpR X (compareOp .Eq) (R2' X.K .eq) := OpR_imp (op_eqD (by omega)) fun x y H Q ⟨d, e, d', ⟨F, r⟩, ⟨G, t⟩, q, k⟩ => by
  obtain ⟨h, rfl⟩ := guard_eq (show (if (shp 60 d && shp 60 e) = true then some (Val.bl (veq d e)) else none) = some d' from q)
  rw [Bool.and_eq_true] at h
  refine ⟨toPy d, toPy e, rep_dp 60 _ _ _ h.1 r, rep_dp 60 _ _ _ h.2 t, shp_shaped h.1, shp_shaped h.2, ?_⟩
  rw [eqv_veq 60 d e h.1 h.2]
  exact k _ _ (.flat (.bl _))
theorem o_ne (hu : X.A.units + 65 < cLine) : OpR X (compareOp .NotEq) (R2' X.K .ne) := OpR_imp (op_neD (by omega)) fun x y H Q ⟨d, e, d', ⟨F, r⟩, ⟨G, t⟩, q, k⟩ => by
  obtain ⟨h, rfl⟩ := guard_eq (show (if (shp 60 d && shp 60 e) = true then some (Val.bl (!veq d e)) else none) = some d' from q)
  rw [Bool.and_eq_true] at h
  refine ⟨toPy d, toPy e, rep_dp 60 _ _ _ h.1 r, rep_dp 60 _ _ _ h.2 t, shp_shaped h.1, shp_shaped h.2, ?_⟩
  rw [eqv_veq 60 d e h.1 h.2]
  exact k _ _ (.flat (.bl _))
/-- in, not in: a tuple or a list of plain data -/
def rInT (K : PySem.W.Frag) (neg : Bool) : R2 := fun x y H Q => ∃ d ds, Dp K H x d ∧ Dp K H y (.tuple ds) ∧ SeqAt.shaped d = true ∧ SeqAt.shaped (.tuple ds) = true ∧ Q (.bl (if neg then !(ds.any fun z => PyData.eqv z d) else ds.any fun z => PyData.eqv z d)) H
theorem room_tup {A : Around} {d : PyData} {ds : List PyData} (h : SeqAt.shaped d = true) (hu : A.units + 65 < cLine) : A.units + 1 + min (PyData.depthAll ds) d.depth < cLine := by
  have h1 := SeqAt.depth_of_shaped h
  omega
theorem op_inT (hu : X.A.units + 65 < cLine) : OpR X (compareOp .In) (rInT X.K false) := fun pins s σ H x y v u Q I rx ry ⟨d, ds, hd, he, sd, se, q⟩ => by
  obtain ⟨as, q1⟩ := Dp.reads I d x v hd rx
  obtain ⟨bs, q2⟩ := Dp.reads I (.tuple ds) y u he ry
  exact SeqAt.in_tuple_reads q2 q1 (SeqAt.canLay_of_shaped se) (SeqAt.canLay_of_shaped sd) (room_tup sd hu) ⟨.bl _, H, I, rfl, q⟩
theorem op_notInT (hu : X.A.units + 65 < cLine) : OpR X (compareOp .NotIn) (rInT X.K true) := fun pins s σ H x y v u Q I rx ry ⟨d, ds, hd, he, sd, se, q⟩ => by
  obtain ⟨as, q1⟩ := Dp.reads I d x v hd rx
  obtain ⟨bs, q2⟩ := Dp.reads I (.tuple ds) y u he ry
  exact SeqAt.notIn_tuple_reads q2 q1 (SeqAt.canLay_of_shaped se) (SeqAt.canLay_of_shaped sd) (room_tup sd hu) ⟨.bl _, H, I, rfl, q⟩
theorem o_isin (hu : X.A.units + 65 < cLine) : OpR X (compareOp .In) (R2' X.K .isin) := OpR_imp ((op_inD hu).or (op_inT hu)) fun x y H Q ⟨d, e, d', ⟨F, r⟩, ⟨G, t⟩, q, k⟩ => by
  cases t with
  | @tup a vs ds F h1 h2 =>
    obtain ⟨h, rfl⟩ := guard_eq (show (if (shp 60 d && shp 60 (.tup ds)) = true then some (Val.bl (memV d ds)) else none) = some d' from q)
    rw [Bool.and_eq_true] at h
    have hall : ds.all (shp 60) = true := by
      have := h.2
      simp only [shp, List.all_eq_true] at this ⊢
      exact fun z hz => shp_up 59 z (this z hz)
    refine .inr ⟨toPy d, toPyL ds, rep_dp 60 _ _ _ h.1 r, rep_dp 60 _ _ _ h.2 (.tup h1 h2), shp_shaped h.1, shp_shaped h.2, ?_⟩
    rw [any_veq h.1 hall]
    exact k _ _ (.flat (.bl _))
  | @row a vs ds F h1 h2 =>
    obtain ⟨h, rfl⟩ := guard_eq (show (if (shp 60 d && shp 60 (.row ds)) = true then some (Val.bl (memV d ds)) else none) = some d' from q)
    rw [Bool.and_eq_true] at h
    have hall : ds.all (shp 60) = true := by
      have := h.2
      simp only [shp, List.all_eq_true] at this ⊢
      exact fun z hz => shp_up 59 z (this z hz)
    refine .inr ⟨toPy d, toPyL ds, rep_dp 60 _ _ _ h.1 r, rep_dp 60 _ _ _ h.2 (.row h1 h2), shp_shaped h.1, shp_shaped h.2, ?_⟩
    rw [any_veq h.1 hall]
    exact k _ _ (.flat (.bl _))
  | @lst a vs ds F h1 h2 =>
    obtain ⟨h, rfl⟩ := guard_eq (show (if (shp 60 d && shp 60 (.lst ds)) = true then some (Val.bl (memV d ds)) else none) = some d' from q)
    rw [Bool.and_eq_true] at h
    have hall : ds.all (shp 60) = true := by
      have := h.2
      simp only [shp, List.all_eq_true] at this ⊢
      exact fun z hz => shp_up 59 z (this z hz)
    refine .inl ⟨toPy d, toPyL ds, rep_dp 60 _ _ _ h.1 r, rep_dp 60 _ _ _ h.2 (.lst h1 h2), shp_shaped h.1, shp_shaped h.2, ?_⟩
    rw [any_veq h.1 hall]
    exact k _ _ (.flat (.bl _))
  | _ => cases d <;> cases q
theorem o_notin (hu : X.A.units + 65 < cLine) : OpR X (compareOp .NotIn) (R2' X.K .notin) := OpR_imp ((op_notInD hu).or (op_notInT hu)) fun x y H Q ⟨d, e, d', ⟨F, r⟩, ⟨G, t⟩, q, k⟩ => by
  cases t with
  | @tup a vs ds F h1 h2 =>
    obtain ⟨h, rfl⟩ := guard_eq (show (if (shp 60 d && shp 60 (.tup ds)) = true then some (Val.bl (!memV d ds)) else none) = some d' from q)
    rw [Bool.and_eq_true] at h
    have hall : ds.all (shp 60) = true := by
      have := h.2
      simp only [shp, List.all_eq_true] at this ⊢
      exact fun z hz => shp_up 59 z (this z hz)
    refine .inr ⟨toPy d, toPyL ds, rep_dp 60 _ _ _ h.1 r, rep_dp 60 _ _ _ h.2 (.tup h1 h2), shp_shaped h.1, shp_shaped h.2, ?_⟩
    rw [any_veq h.1 hall]
    exact k _ _ (.flat (.bl _))
  | @row a vs ds F h1 h2 =>
    obtain ⟨h, rfl⟩ := guard_eq (show (if (shp 60 d && shp 60 (.row ds)) = true then some (Val.bl (!memV d ds)) else none) = some d' from q)
    rw [Bool.and_eq_true] at h
    have hall : ds.all (shp 60) = true := by
      have := h.2
      simp only [shp, List.all_eq_true] at this ⊢
      exact fun z hz => shp_up 59 z (this z hz)
    refine .inr ⟨toPy d, toPyL ds, rep_dp 60 _ _ _ h.1 r, rep_dp 60 _ _ _ h.2 (.row h1 h2), shp_shaped h.1, shp_shaped h.2, ?_⟩
    rw [any_veq h.1 hall]
    exact k _ _ (.flat (.bl _))
  | @lst a vs ds F h1 h2 =>
    obtain ⟨h, rfl⟩ := guard_eq (show (if (shp 60 d && shp 60 (.lst ds)) = true then some (Val.bl (!memV d ds)) else none) = some d' from q)
    rw [Bool.and_eq_true] at h
    have hall : ds.all (shp 60) = true := by
      have := h.2
      simp only [shp, List.all_eq_true] at this ⊢
      exact fun z hz => shp_up 59 z (this z hz)
    refine .inl ⟨toPy d, toPyL ds, rep_dp 60 _ _ _ h.1 r, rep_dp 60 _ _ _ h.2 (.lst h1 h2), shp_shaped h.1, shp_shaped h.2, ?_⟩
    rw [any_veq h.1 hall]
    exact k _ _ (.flat (.bl _))
  | _ => cases d <;> cases q
theorem o_isN : OpR X (compareOp .Is) (R2' X.K .isN) := OpR_imp op_isN fun x y H Q ⟨d, e, d', ⟨F, r⟩, ⟨G, t⟩, q, k⟩ => by
  cases t with
  | non =>
    refine ⟨rfl, ?_⟩
    cases r <;> cases q <;> exact k _ _ (.flat (.bl _))
  | _ => cases d <;> cases q
theorem o_notN : OpR X (compareOp .IsNot) (R2' X.K .notN) := OpR_imp op_notN fun x y H Q ⟨d, e, d', ⟨F, r⟩, ⟨G, t⟩, q, k⟩ => by
  cases t with
  | non =>
    refine ⟨rfl, ?_⟩
    cases r <;> cases q <;> exact k _ _ (.flat (.bl _))
  | _ => cases d <;> cases q
theorem o_isB : OpR X (compareOp .Is) (R2' X.K .isB) := OpR_imp op_isBl fun x y H Q ⟨d, e, d', ⟨F, r⟩, ⟨G, t⟩, q, k⟩ => by
  cases r <;> cases t <;> first | (cases q; exact ⟨_, _, rfl, rfl, k _ _ (.flat (.bl _))⟩) | cases q
theorem o_notB : OpR X (compareOp .IsNot) (R2' X.K .notB) := OpR_imp op_notBl fun x y H Q ⟨d, e, d', ⟨F, r⟩, ⟨G, t⟩, q, k⟩ => by
  cases r <;> cases t <;> first | (cases q; exact ⟨_, _, rfl, rfl, k _ _ (.flat (.bl _))⟩) | cases q
theorem o_idx : IxR X (R2' X.K .idx) := IxR_imp ix_seq fun x y H Q ⟨d, e, d', ⟨F, r⟩, ⟨G, t⟩, q, k⟩ => by
  cases t with
  | int i =>
    obtain ⟨ds, h1, h2⟩ := Option.bind_eq_some_iff.mp (show (items? d).bind (fun ds => atI ds i) = some d' by cases d <;> exact q)
    obtain ⟨a, vs, G, rfl, hs, ha⟩ := r.items h1
    obtain ⟨v, F1, hv, rv⟩ := atI_rep ha h2
    rcases hs with hs | hs
    · exact .inl ⟨a, vs, i, v, rfl, rfl, hs, hv, k _ _ (.view rv)⟩
    · exact .inr (.inl ⟨a, vs, i, v, rfl, rfl, hs, hv, k _ _ (.view rv)⟩)
  | _ => cases d <;> cases q
def rW2 (K : PySem.W.Frag) (p : P2) : List V → Hp → VK → Prop
  | [x, y], H, Q => R2' K p x y H Q
  | _, _, _ => False
theorem cr_min2 (hc : X.calm = true) : CallR X (.builtin "min") (rW2 X.K .min2) := CallR_imp (call_min2 hc) fun xs H Q q => by
  match xs, q with
  | [x, y], ⟨d, e, d', ⟨F, r⟩, ⟨G, t⟩, q, k⟩ => cases r <;> cases t <;> first | (cases q; exact ⟨_, _, rfl, k _ _ (.flat (.int _))⟩) | cases q
theorem cr_max2 (hc : X.calm = true) : CallR X (.builtin "max") (rW2 X.K .max2) := CallR_imp (call_max2 hc) fun xs H Q q => by
  match xs, q with
  | [x, y], ⟨d, e, d', ⟨F, r⟩, ⟨G, t⟩, q, k⟩ => cases r <;> cases t <;> first | (cases q; exact ⟨_, _, rfl, k _ _ (.flat (.int _))⟩) | cases q

/-- the text of a rule over two values has its reading -/
theorem p2_ok (g : Good X N sc) : ∀ (p : P2) (e a b : Expr) (ta tb : TE), m2 sc p e = some (a, b) → PE X a ta → PE X b tb → PE X e (fun σ H Q => ta σ H fun x H1 => tb σ H1 fun y H2 => R2' X.K p x y H2 Q) := by
  intro p e a b ta tb h ha hb
  unfold m2 at h
  split at h
  · cases h; exact pe_op o_add ha hb
  · cases h; exact pe_op o_sub ha hb
  · cases h; exact pe_op o_mul ha hb
  · cases h; exact pe_op o_mod ha hb
  · cases h; exact pe_op o_fdiv ha hb
  · cases h; exact pe_op o_pow ha hb
  · cases h; exact pe_cmpR (o_lt g.hu) ha hb (nomark _)
  · cases h; exact pe_cmpR o_le ha hb (nomark _)
  · cases h; exact pe_cmpR o_gt ha hb (nomark _)
  · cases h; exact pe_cmpR o_ge ha hb (nomark _)
  · cases h; exact pe_cmpR (o_eq g.hu) ha hb (nomark _)
  · cases h; exact pe_cmpR (o_ne g.hu) ha hb (nomark _)
  · obtain ⟨hh, e2⟩ := guard_eq h
    cases e2
    exact pe_cmpR (o_isin g.hu) ha hb (noset_mark hh _)
  · obtain ⟨hh, e2⟩ := guard_eq h
    cases e2
    exact pe_cmpR (o_notin g.hu) ha hb (noset_mark hh _)
  · cases h; exact pe_cmpR o_isN ha hb (nomark _)
  · cases h; exact pe_cmpR o_notN ha hb (nomark _)
  · cases h; exact pe_cmpR o_isB ha hb (nomark _)
  · cases h; exact pe_cmpR o_notB ha hb (nomark _)
  · obtain ⟨hh, e2⟩ := guard_eq h
    cases e2
    exact pe_ix o_idx ha hb (plain_ix hh)
  · obtain ⟨hh, e2⟩ := guard_eq h
    cases e2
    simp only [Bool.and_eq_true, beq_iff_eq] at hh
    obtain ⟨⟨⟨rfl, hg⟩, h1⟩, h2⟩ := hh
    exact pe_callB (cr_min2 g.calm) (g.gl hg) (g.no (by decide)) (by decide +kernel) (pa_cons ha (pa_cons hb pa_nil (nst_star h2 _ _)) (nst_star h1 _ _)) (he := nst_star h1 _ _) (hpl := by rw [nst_star h2]; rfl)
  · obtain ⟨hh, e2⟩ := guard_eq h
    cases e2
    simp only [Bool.and_eq_true, beq_iff_eq] at hh
    obtain ⟨⟨⟨rfl, hg⟩, h1⟩, h2⟩ := hh
    exact pe_callB (cr_max2 g.calm) (g.gl hg) (g.no (by decide)) (by decide +kernel) (pa_cons ha (pa_cons hb pa_nil (nst_star h2 _ _)) (nst_star h1 _ _)) (he := nst_star h1 _ _) (hpl := by rw [nst_star h2]; rfl)
  · cases h
end
end NV

set_option Elab.async false
set_option linter.all false
set_option maxRecDepth 100000
set_option maxHeartbeats 1000000
/-! Slices; the simple texts. -/
namespace NV
open PySem PySem.Spec L2

section
variable {R : Val → V → List Addr → Prop}
theorem AllP.dropE {ds : List Val} {vs : List V} {F : List Addr} (h : AllP R ds vs F) : ∀ n, ∃ F', AllP R (ds.drop n) (vs.drop n) F' := by
  induction h with
  | nil => intro n; exact ⟨[], by simpa using .nil⟩
  | cons r t ih =>
    intro n
    cases n with
    | zero => exact ⟨_, .cons r t⟩
    | succ n => simpa using ih n
theorem AllP.takeE {ds : List Val} {vs : List V} {F : List Addr} (h : AllP R ds vs F) : ∀ n, ∃ F', AllP R (ds.take n) (vs.take n) F' := by
  induction h with
  | nil => intro n; exact ⟨[], by simpa using .nil⟩
  | cons r t ih =>
    intro n
    cases n with
    | zero => exact ⟨[], .nil⟩
    | succ n =>
      obtain ⟨F', h⟩ := ih n
      exact ⟨_, by simpa using .cons r h⟩
theorem AllP.cutE {ds : List Val} {vs : List V} {F : List Addr} (h : AllP R ds vs F) (lo hi : Option Int) : ∃ F', AllP R (cut ds lo hi) (cutV vs lo hi) F' := by
  unfold cut cutV
  rw [h.len]
  obtain ⟨G, q⟩ := h.dropE (HT.sIx vs.length 0 lo)
  exact q.takeE _
theorem AllP.cut0 {ds : List Val} {vs : List V} (h : AllP R ds vs []) (lo hi : Option Int) : AllP R (cut ds lo hi) (cutV vs lo hi) [] := by
  unfold cut cutV
  rw [h.len]
  exact (h.drop _).take _
end
theorem SlR_imp {X : Cx} {r r' : V → Option Int → Option Int → Hp → VK → Prop} (h : SlR X r) (k : ∀ x lo hi H Q, r' x lo hi H Q → r x lo hi H Q) : SlR X r' :=
  fun pins s σ H x v vl vu lo hi sl Q I rx hs p1 p2 q => h pins s σ H x v vl vu lo hi sl Q I rx hs p1 p2 (k x lo hi H Q q)
def RS (K : PySem.W.Frag) (x : V) (lo hi : Option Int) (H : Hp) (Q : VK) : Prop := ∃ d d', vw K H d x ∧ primS d lo hi = some d' ∧ ∀ v H', Post K true H d' v H' → Q v H'
theorem cut_whole {α : Type} {xs : List α} {lo hi : Option Int} (h : HT.sIx xs.length 0 lo = 0 ∧ HT.sIx xs.length xs.length hi = xs.length) : cut xs lo hi = xs := by
  unfold cut
  rw [h.1, h.2]; simp
theorem Post.tupF {K : PySem.W.Frag} {fresh : Bool} {H : Hp} {ds : List Val} {vs : List V} {F : List Addr} {p : Addr} {o : Obj} (h : H p = none) (r : AllP (Rep K H) ds vs F) : Post K fresh H (.tup ds) (.ref p) (upd H p (.frz o (.tup vs))) := by
  have g := upd_grow (o := .frz o (.tup vs)) h
  have q : Rep K (upd H p (.frz o (.tup vs))) (.tup ds) (.ref p) F := .tup (.inl (.inr ⟨o, upd_same⟩)) (r.growR g)
  refine ⟨g, F, q, fun z => ?_⟩
  have e : F = [] := Rep.imm0 64 _ _ _ (by cases fresh <;> simpa [own] using z) q
  subst e
  exact ⟨fun a => by simp, fun a ha => by simp at ha⟩
theorem o_sl {X : Cx} : SlR X (RS X.K) := SlR_imp (sl_list.or sl_rowA) fun x lo hi H Q ⟨d, d', ⟨F, r⟩, q, k⟩ => by
  cases r with
  | @tup a vs ds F h t =>
    cases q
    refine .inr ⟨a, vs, rfl, h, fun e => ?_, fun _ p o hp _ _ => ?_⟩
    · rw [← t.len] at e
      rw [cut_whole e] at k
      exact k _ _ (.same (.tup h t) fun z => Rep.imm0 64 _ _ _ (by simpa [own] using z) (.tup h t))
    · obtain ⟨G, t2⟩ := t.cutE lo hi
      exact k _ _ (.tupF hp t2)
  | @row a vs ds F h t =>
    cases q
    refine .inr ⟨a, vs, rfl, h.sq, fun e => ?_, fun _ => ?_⟩
    · rw [← t.len] at e
      rw [cut_whole e] at k
      exact k _ _ (.same (.row h t) fun z => Rep.imm0 64 _ _ _ (by simpa [own] using z) (.row h t))
    · obtain ⟨G, t2⟩ := t.cutE lo hi
      exact Post.newR t2 k
  | @lst a vs ds F h t =>
    obtain ⟨hi2, rfl⟩ := guard_eq (show (if immL ds = true then some (Val.lst (cut ds lo hi)) else none) = some d' from q)
    exact .inl ⟨a, vs, rfl, .of h, fun p hp => k _ _ (.lst hp ((t.nils (t.imm0 hi2)).cut0 lo hi))⟩
  | @flst a ns h =>
    cases q
    refine .inl ⟨a, _, rfl, h.sq, fun p hp => k _ _ (.lst hp ?_)⟩
    have e : (cut ns lo hi).map Val.int = cut (ns.map Val.int) lo hi := by
      unfold cut; simp only [List.length_map, List.map_take, List.map_drop]
    rw [e]
    exact AllP.ints.cut0 lo hi
  | _ => cases q

/-! ### simple texts -/
def cV : Const → Val → Bool
  | .none, .non => true
  | .bool b, .bl c => b == c
  | .int i, .int j => i == j
  | .str x, .str y => x == y
  | _, _ => false
def visB (sc : Scope) (x : Str) : Bool := match sc.names.lookup x with
  | some .local => true
  | some .cell => true
  | some .free => true
  | _ => false
def plainN (x : Str) : Bool := !(x == "__debug__") && !(x == "__classdict__")
def mV (N : List Str) (sc : Scope) (i : Nat) : Expr → Bool
  | .Name x _ => decide (N[i]? = some x) && visB sc x && plainN x
  | _ => false
def mQ (N : List Str) (sc : Scope) : Q → Expr → Bool
  | .c v, .Constant c _ _ => cV c v
  | .v i, e => mV N sc i e
  | .p1 p a, e => match m1 sc p e with
    | some a' => p != .not_ && mQ N sc a a'
    | none => false
  | .p2 p a b, e => match m2 sc p e with
    | some (a', b') => mQ N sc a a' && mQ N sc b b'
    | none => false
  | .l1 a, .List [x] _ => mQ N sc a x && nst x
  | _, _ => false
theorem vis_of {sc : Scope} {x : Str} (h : visB sc x = true) : Vis sc x := by
  unfold visB at h
  split at h
  · rename_i e; exact .inl e
  · rename_i e; exact .inr (.inl e)
  · rename_i e; exact .inr (.inr e)
  · cases h

def Ext (H H' : Hp) : Prop := ∀ a o, H a = some o → H' a = some o
def TQ (K : PySem.W.Frag) (q : Q) : TE := fun σ H Z => ∃ ρ F d, RepE K H ρ σ F ∧ pk q ρ = some d ∧ ∀ v H', Ext H H' → vw K H' d v → Z v H'
section
variable {X : Cx} {N : List Str} {sc : Scope}
/-- a name's slot, read -/
theorem pe_slot (g : Good X N sc) {i : Nat} {e : Expr} (h : mV N sc i e = true) : PE X e (tVar i) := by
  cases e with
  | Name x pos =>
    simp only [mV, plainN, Bool.and_eq_true, decide_eq_true_eq, Bool.not_eq_true'] at h
    obtain ⟨⟨h1, h2⟩, h3, h4⟩ := h
    exact pe_var (by rw [g.names]; exact h1) (by rw [g.sc]; exact vis_of h2) h3 h4
  | _ => simp [mV] at h
theorem q_ok (g : Good X N sc) : ∀ (q : Q) (e : Expr), mQ N sc q e = true → PE X e (TQ X.K q) := by
  intro q
  induction q with
  | c v =>
    intro e h
    cases e with
    | Constant c k pos =>
      simp only [mQ] at h
      unfold cV at h
      split at h
      · exact PE_imp pe_non fun σ H Z ⟨ρ, F, d, _, e, k⟩ => by cases e; exact k _ _ (fun _ _ h => h) ⟨_, .non⟩
      · have e := beq_iff_eq.mp h
        subst e
        exact PE_imp pe_bl fun σ H Z ⟨ρ, F, d, _, e, k⟩ => by cases e; exact k _ _ (fun _ _ h => h) ⟨_, .bl _⟩
      · have e := beq_iff_eq.mp h
        subst e
        exact PE_imp pe_int fun σ H Z ⟨ρ, F, d, _, e, k⟩ => by cases e; exact k _ _ (fun _ _ h => h) ⟨_, .int _⟩
      · have e := beq_iff_eq.mp h
        subst e
        exact PE_imp pe_str fun σ H Z ⟨ρ, F, d, _, e, k⟩ => by cases e; exact k _ _ (fun _ _ h => h) ⟨_, .str _⟩
      · cases h
    | _ => simp [mQ] at h
  | v i =>
    intro e h
    have h : mV N sc i e = true := by cases e <;> first | exact h | (simp [mQ, mV] at h)
    exact PE_imp (pe_slot g h) fun σ H Z ⟨ρ, F, d, r, e, k⟩ => by
      obtain ⟨v, F1, F2, h1, h2, _, _⟩ := r.take e
      exact ⟨v, h1, k _ _ (fun _ _ h => h) ⟨_, h2⟩⟩
  | p1 p a ih =>
    intro e h
    have h : (match m1 sc p e with | some a' => p != .not_ && mQ N sc a a' | none => false) = true := by cases e <;> exact h
    split at h
    · rename_i a' e1
      rw [Bool.and_eq_true] at h
      replace h := h.2
      exact PE_imp (p1_ok g p e a' _ e1 (ih a' h)) fun σ H Z ⟨ρ, F, d, r, e, k⟩ => by
        obtain ⟨x, h1, h2⟩ := Option.bind_eq_some_iff.mp e
        exact ⟨ρ, F, x, r, h1, fun v H' ex vv => ⟨x, d, vv, h2, fun v2 H2 ⟨g2, F2, r2, _⟩ => k _ _ (fun a o h => g2 a o (ex a o h)) ⟨F2, r2⟩⟩⟩
    · cases h
  | p2 p a b iha ihb =>
    intro e h
    have h : (match m2 sc p e with | some (a', b') => mQ N sc a a' && mQ N sc b b' | none => false) = true := by cases e <;> exact h
    split at h
    · rename_i a' b' e1
      rw [Bool.and_eq_true] at h
      exact PE_imp (p2_ok g p e a' b' _ _ e1 (iha a' h.1) (ihb b' h.2)) fun σ H Z ⟨ρ, F, d, r, e, k⟩ => by
        obtain ⟨x, h1, h2⟩ := Option.bind_eq_some_iff.mp e
        obtain ⟨y, h3, h4⟩ := Option.bind_eq_some_iff.mp h2
        exact ⟨ρ, F, x, r, h1, fun v H' ex vv => ⟨ρ, F, y, r.grow ex, h3, fun v2 H2 ex2 vv2 => ⟨x, y, d, vv.grow ex2, vv2, h4, fun v3 H3 ⟨g3, F3, r3, _⟩ => k _ _ (fun a o h => g3 a o (ex2 a o (ex a o h))) ⟨F3, r3⟩⟩⟩⟩
    · cases h
  | l1 a ih =>
    intro e h
    cases e with
    | List l pos =>
      match l, h with
      | [], h => simp [mQ] at h
      | _ :: _ :: _, h => simp [mQ] at h
      | [x], h =>
        simp only [mQ, Bool.and_eq_true] at h
        exact PE_imp (pe_lst (pa_cons (ih x h.1) pa_nil (nst_star h.2 _ _))) fun σ H Z ⟨ρ, F, d, r, e, k⟩ => by
          obtain ⟨x, h1, h2⟩ := Option.map_eq_some_iff.mp e
          subst h2
          refine ⟨ρ, F, x, r, h1, fun v H' ex ⟨G, vv⟩ => ⟨by show 1 ≤ sizeLine; decide, fun p hp => ?_⟩⟩
          have gr := upd_grow (o := .lst [v]) hp
          exact k _ _ (fun a o h => gr a o (ex a o h)) ⟨_, .lst upd_same (.cons (vv.grow gr) .nil)⟩
    | _ => simp [mQ] at h
end
end NV

set_option Elab.async false
set_option linter.all false
set_option maxRecDepth 100000
set_option maxHeartbeats 1000000
/-! The texts of the small language; targets, walks. -/
namespace NV
open PySem PySem.Spec L2

def tst : E → Bool
  | .ite_ .. => false
  | .and_ a b => tst a && tst b
  | .or_ a b => tst a && tst b
  | .not_ a => tst a
  | _ => true
/-! ### which text a tree is -/
def locB (sc : Scope) (x : Str) : Bool := match sc.names.lookup x with
  | some .local => true
  | some .cell => true
  | _ => false
def mT1 (N : List Str) (sc : Scope) (i : Nat) : Expr → Bool
  | .Name x _ => decide (N[i]? = some x) && locB sc x
  | _ => false
def mTs (N : List Str) (sc : Scope) : List Nat → List Expr → Bool
  | [], [] => true
  | i :: is, e :: es => mT1 N sc i e && mTs N sc is es
  | _, _ => false
def mTg (N : List Str) (sc : Scope) : Tg → Expr → Bool
  | .n i, e => mT1 N sc i e
  | .t is, .Tuple es _ _ => mTs N sc is es
  | _, _ => false
def mO (N : List Str) (sc : Scope) : OQ → Option Expr → Bool
  | .no, none => true
  | .yes q, some e => mQ N sc q e
  | _, _ => false
def opC : P2 → Option CmpOp
  | .lt => some .Lt
  | .le => some .LtE
  | .gt => some .Gt
  | .ge => some .GtE
  | .eq => some .Eq
  | .ne => some .NotEq
  | _ => none
def ownN (N : List Str) (ow : List Nat) : List (Str × Nat) := ow.map fun i => (N.getD i "", i)
def okBlk (N : List Str) (sc scope : Scope) (ow : List Nat) (tg : Tg) (it : Expr) : Bool :=
  blkC N sc scope (ownN N ow) && decide ow.Nodup && tg.all.all (fun i => decide (i ∈ ow)) && noSet it

/-- a name or a subscript -/
def plainO : Expr → Bool
  | .Name .. => true
  | .Subscript .. => true
  | _ => false
section
variable (T : List FnR) (N : List Str)
mutual
def mE : Scope → E → Expr → Bool
  | sc, .q q, e => mQ N sc q e
  | sc, .mv i, e => mV N sc i e
  | sc, .p1 p a, e => match m1 sc p e with
    | some a' => p != .not_ && mOp sc a a'
    | none => false
  | sc, .p2 p a b, e => match m2 sc p e with
    | some (a', b') => mOp sc a a' && mOp sc b b'
    | none => false
  | sc, .sl a lo hi, .Subscript v (.Slice l h none _) _ => mOp sc a v && mO N sc lo l && mO N sc hi h
  | sc, .and_ a b, .BoolOp .And (x :: y :: r) pos => mE sc a x && (match r with
    | [] => mE sc b y
    | z :: r => mE sc b (.BoolOp .And (y :: z :: r) pos))
  | sc, .or_ a b, .BoolOp .Or (x :: y :: r) pos => mE sc a x && (match r with
    | [] => mE sc b y
    | z :: r => mE sc b (.BoolOp .Or (y :: z :: r) pos))
  | sc, .ite_ c a b, .IfExp c' a' b' _ => tst c && mE sc c c' && mE sc a a' && mE sc b b'
  | sc, .not_ a, .UnaryOp .Not a' _ => mE sc a a'
  | sc, .chain p r a b c, .Compare a' [o1, o2] [b', c'] _ => opC p == some o1 && opC r == some o2 && mQ N sc a a' && mQ N sc b b' && mQ N sc c c'
  | sc, .tup es, .Tuple l _ _ => decide (l.length ≤ 1000) && mEs sc es l
  | sc, .rw es, .Tuple l _ _ => decide (l.length ≤ 1000) && mEs sc es l
  | sc, .index a b, .Call (.Attribute o m apos) [x] [] cpos => m == "index" && mQ N sc a o && apos.endLine == cpos.line && mQ N sc b x && nst x && plainO o
  | sc, .lst es, .List l _ => decide (l.length ≤ 1000) && mEs sc es l
  | sc, .call f as, .Call (.Name x _) l [] _ => (match T[f]? with
    | some r => r.name == x
    | none => false) && gl sc x && plainN x && mAs sc as l
  | sc, .pop i, .Call (.Attribute o m apos) [] [] cpos => m == "pop" && mV N sc i o && apos.endLine == cpos.line
  | sc, .min3 a b c, .Call (.Name f _) [x, y, z] [] _ => f == "min" && gl sc f && mQ N sc a x && mQ N sc b y && mQ N sc c z && nst x && nst y && nst z
  | sc, .lrg l a, .Call (.Name f _) [.Call (.Name r _) [x] [] _] [] _ => (f == if l then "list" else "tuple") && gl sc f && r == "range" && gl sc r && mE sc a x && nst x
  | sc, .popAt i a, .Call (.Attribute o m apos) [x] [] cpos => m == "pop" && mV N sc i o && apos.endLine == cpos.line && mE sc a x && nst x
  | sc, .comp ow tg it el, .ListComp elt [⟨t, i, [], s⟩] scope _ => s == 0 && okBlk N sc scope ow tg i && mTg N scope tg t && mIt sc it i && mE (relS scope sc) el elt
  | sc, .compIf ow tg it cd el, .ListComp elt [⟨t, i, [c], s⟩] scope _ => s == 0 && okBlk N sc scope ow tg i && mTg N scope tg t && mIt sc it i && tst cd && mE (relS scope sc) cd c && mE (relS scope sc) el elt
  | _, _, _ => false
def mOp : Scope → Op → Expr → Bool
  | sc, .v i, e => mV N sc i e
  | sc, .q q, e => mQ N sc q e
  | sc, .e a, e => mE sc a e
def mEs : Scope → Es → List Expr → Bool
  | _, .nil, [] => true
  | sc, .cons e es, x :: xs => mE sc e x && nst x && mEs sc es xs
  | _, _, _ => false
def mAs : Scope → As → List Expr → Bool
  | _, .nil, [] => true
  | sc, .v i as, x :: xs => mV N sc i x && mAs sc as xs
  | sc, .e e as, x :: xs => mE sc e x && nst x && mAs sc as xs
  | _, _, _ => false
def mIt : Scope → It → Expr → Bool
  | sc, .rng1 a, .Call (.Name f _) [x] [] _ => f == "range" && gl sc f && mE sc a x && nst x
  | sc, .rng2 a b, .Call (.Name f _) [x, y] [] _ => f == "range" && gl sc f && mE sc a x && nst x && mE sc b y && nst y
  | sc, .v i, e => mV N sc i e
  | sc, .e a, e => mE sc a e
  | _, _, _ => false
end
end

/-! ### the very same value -/
mutual
theorem same_eq : ∀ (a b : Val), same a b = true → a = b
  | .non, b, h => by cases b <;> first | rfl | (simp [same] at h)
  | .bl x, b, h => by cases b <;> first | (simp [same] at h; rw [h]; done) | (simp [same] at h)
  | .int x, b, h => by cases b <;> first | (simp [same] at h; rw [h]; done) | (simp [same] at h)
  | .str x, b, h => by cases b <;> first | (simp [same] at h; rw [h]; done) | (simp [same] at h)
  | .flst x, b, h => by cases b <;> first | (simp [same] at h; rw [h]; done) | (simp [same] at h)
  | .tup xs, b, h => by
    cases b with
    | tup ys => rw [sameL_eq xs ys (by simpa [same] using h)]
    | _ => simp [same] at h
  | .lst xs, b, h => by
    cases b with
    | lst ys => rw [sameL_eq xs ys (by simpa [same] using h)]
    | _ => simp [same] at h
  | .row xs, b, h => by
    cases b with
    | row ys => rw [sameL_eq xs ys (by simpa [same] using h)]
    | _ => simp [same] at h
  | .dic ks xs, b, h => by
    cases b with
    | dic js ys =>
      simp only [same, Bool.and_eq_true] at h
      rw [sameL_eq ks js h.1, sameL_eq xs ys h.2]
    | _ => simp [same] at h
theorem sameL_eq : ∀ (xs ys : List Val), sameL xs ys = true → xs = ys
  | [], [], _ => rfl
  | [], _ :: _, h => by simp [sameL] at h
  | _ :: _, [], h => by simp [sameL] at h
  | x :: xs, y :: ys, h => by
    simp only [sameL, Bool.and_eq_true] at h
    rw [same_eq x y h.1, sameL_eq xs ys h.2]
end
mutual
theorem same_self : ∀ a : Val, same a a = true
  | .non => rfl
  | .bl x => by simp [same]
  | .int x => by simp [same]
  | .str x => by simp [same]
  | .flst x => by simp [same]
  | .tup xs => by simp only [same]; exact sameL_self xs
  | .lst xs => by simp only [same]; exact sameL_self xs
  | .row xs => by simp only [same]; exact sameL_self xs
  | .dic ks xs => by simp only [same, sameL_self ks, sameL_self xs, Bool.and_self]
theorem sameL_self : ∀ xs : List Val, sameL xs xs = true
  | [] => rfl
  | x :: xs => by simp only [sameL, same_self x, sameL_self xs, Bool.and_self]
end

/-! ### targets -/
section
variable {K : PySem.W.Frag} {H : Hp}
theorem cnt_app {F G : List Addr} {a : Addr} : (F ++ G).count a = F.count a + G.count a := List.count_append
theorem setAll_rep : ∀ {is : List Nat} {ds : List Val} {vs : List V} {ρ ρ' : Env} {σ : St} {F G : List Addr}, RepE K H ρ σ F → AllP (Rep K H) ds vs G → is.all (· < ρ.length) = true → setAll ρ is ds = some ρ' →
    vs.length = is.length ∧ ∃ σ' F', RepE K H ρ' σ' F' ∧ (∀ a, F'.count a ≤ G.count a + F.count a) ∧ (∀ j, j ∉ is → σ'[j]? = σ[j]?) ∧ σ' = (is.zip vs).foldl (fun s p => s.set p.1 (some p.2)) σ
  | [], [], vs, ρ, ρ', σ, F, G, r, t, _, e => by
    cases t; cases e
    exact ⟨rfl, σ, F, r, fun a => by omega, fun _ _ => rfl, rfl⟩
  | i :: is, d :: ds, _, ρ, ρ', σ, F, _, r, t, hi, e => by
    cases t with
    | @cons _ _ v vs F1 G1 r1 t1 =>
      simp only [List.all_cons, Bool.and_eq_true, decide_eq_true_eq] at hi
      obtain ⟨F2, r2, c2⟩ := RepE.set r1 r hi.1
      obtain ⟨h1, σ', F', h2, h3, h4, h5⟩ := setAll_rep (is := is) r2 t1 (by simpa using hi.2) e
      refine ⟨by simp [h1], σ', F', h2, fun a => ?_, fun j hj => ?_, h5⟩
      · have := h3 a; have := c2 a; rw [cnt_app]; omega
      · simp only [List.mem_cons, not_or] at hj
        rw [h4 j hj.2, List.getElem?_set_ne (Ne.symm hj.1)]
  | [], _ :: _, _, _, _, _, _, _, _, _, _, e => by cases e
  | _ :: _, [], _, _, _, _, _, _, _, _, _, e => by cases e
end
/-- the reading of a target -/
def TGv (K : PySem.W.Frag) (tg : Tg) : TG := fun v σ H Z => ∃ ρ F d Fd ρ', RepE K H ρ σ F ∧ Rep K H d v Fd ∧ asg tg d ρ = some ρ' ∧
  ∀ σ' F', RepE K H ρ' σ' F' → (∀ a, F'.count a ≤ Fd.count a + F.count a) → (∀ j, j ∉ tg.all → σ'[j]? = σ[j]?) → σ'.length = σ.length → Z σ' H
theorem setAll_len : ∀ {is : List Nat} {ds : List Val} {ρ ρ' : Env}, setAll ρ is ds = some ρ' → ρ'.length = ρ.length
  | [], [], ρ, ρ', e => by cases e; rfl
  | i :: is, d :: ds, ρ, ρ', e => by have := setAll_len (is := is) (ds := ds) e; simpa using this
  | [], _ :: _, _, _, e => by cases e
  | _ :: _, [], _, _, e => by cases e
theorem asg_len {tg : Tg} {d : Val} {ρ ρ' : Env} (e : asg tg d ρ = some ρ') : ρ'.length = ρ.length := by
  cases tg with
  | n i => obtain ⟨_, e⟩ := guard_eq (show (if i < ρ.length then some (ρ.set i (some d)) else none) = some ρ' from e); subst e; simp
  | t is =>
    cases d with
    | tup ds =>
      by_cases h : is.all (· < ρ.length) = true
      · exact setAll_len (is := is) (ds := ds) (by simpa [asg, h] using e)
      · exact absurd e (by simp [asg, h])
    | row ds =>
      by_cases h : is.all (· < ρ.length) = true
      · exact setAll_len (is := is) (ds := ds) (by simpa [asg, h] using e)
      · exact absurd e (by simp [asg, h])
    | _ => cases e
section
variable {X : Cx} {N : List Str} {sc sc' : Scope}
theorem loc_of {x : Str} (h : locB sc' x = true) : Loc sc' x := by
  unfold locB at h
  split at h
  · rename_i e; exact .inl e
  · rename_i e; exact .inr e
  · cases h
/-- what names may be stored here -/
def Stores (X : Cx) (sc : Scope) : Prop := ∀ x, locB sc x = true → Loc X.env.scope x ∧ (X.fn x = true ∨ X.env.scope.names.lookup x = some .local)
theorem pg_one (g : Good X N sc) (hl : Stores X sc') {i : Nat} {e : Expr} (h : mT1 N sc' i e = true) : PG X e (gName i) := by
  cases e with
  | Name x pos =>
    simp only [mT1, Bool.and_eq_true, decide_eq_true_eq] at h
    obtain ⟨q1, q2⟩ := hl x h.2
    exact pg_name g.nd (by rw [g.names]; exact h.1) q1 q2
  | _ => simp [mT1] at h
theorem mT1_name {i : Nat} {e : Expr} (h : mT1 N sc' i e = true) : ∃ x pos, e = .Name x pos := by
  cases e with
  | Name x pos => exact ⟨x, pos, rfl⟩
  | _ => simp [mT1] at h
theorem mTs_each : ∀ {is : List Nat} {es : List Expr}, mTs N sc' is es = true → ∀ env : PySem.Env, (assignEach es env).length = is.length ∧ (assignEach es env).findIdx? (·.1) = none
  | [], [], _, env => ⟨rfl, rfl⟩
  | i :: is, e :: es, h, env => by
    simp only [mTs, Bool.and_eq_true] at h
    obtain ⟨x, pos, rfl⟩ := mT1_name h.1
    have q := mTs_each h.2 env
    refine ⟨by rw [show assignEach (.Name x pos :: es) env = (false, assign (.Name x pos) env) :: assignEach es env from rfl, List.length_cons, q.1]; rfl, ?_⟩
    rw [show assignEach (.Name x pos :: es) env = (false, assign (.Name x pos) env) :: assignEach es env from rfl, List.findIdx?_cons, q.2]
    rfl
  | [], _ :: _, h, _ => by cases h
  | _ :: _, [], h, _ => by cases h
/-- the reading of several names -/
def gNames : List Nat → TGs
  | [] => gNil
  | i :: is => gCons (gName i) (gNames is)
theorem pgs_names (g : Good X N sc) (hl : Stores X sc') : ∀ {is : List Nat} {es : List Expr}, mTs N sc' is es = true → PGs X es (gNames is)
  | [], [], _ => pgs_nil
  | i :: is, e :: es, h => by
    simp only [mTs, Bool.and_eq_true] at h
    have q := pg_one g hl h.1
    obtain ⟨x, pos, rfl⟩ := mT1_name h.1
    exact pgs_cons q (pgs_names g hl h.2)
  | [], _ :: _, h => by cases h
  | _ :: _, [], h => by cases h
theorem gNames_of {H : Hp} {Z : St → Hp → Prop} : ∀ {is : List Nat} {vs : List V} {σ : St}, vs.length = is.length → Z ((is.zip vs).foldl (fun s p => s.set p.1 (some p.2)) σ) H → gNames is vs σ H Z
  | [], [], σ, _, h => ⟨rfl, h⟩
  | i :: is, v :: vs, σ, e, h => ⟨v, vs, rfl, gNames_of (is := is) (vs := vs) (by simpa using e) h⟩
  | [], _ :: _, _, e, _ => by simp at e
  | _ :: _, [], _, e, _ => by simp at e
theorem PG_imp {e : Expr} {t t' : TG} (h : PG X e t) (k : ∀ v σ H Q, t' v σ H Q → t v σ H Q) : PG X e t' := ⟨fun pins s σ H v u Q I r q => h.run pins s σ H v u Q I r (k v σ H Q q)⟩
theorem tg_ok (g : Good X N sc) (hl : Stores X sc') (tg : Tg) (e : Expr) (h : mTg N sc' tg e = true) : PG X e (TGv X.K tg) := by
  cases tg with
  | n i =>
    have h : mT1 N sc' i e = true := by cases e <;> exact h
    refine PG_imp (pg_one g hl h) fun v σ H Z ⟨ρ, F, d, Fd, ρ', r, rd, ea, k⟩ => ?_
    obtain ⟨hi, rfl⟩ := guard_eq (show (if i < ρ.length then some (ρ.set i (some d)) else none) = some ρ' from ea)
    obtain ⟨F', r', c'⟩ := RepE.set rd r hi
    refine k _ F' r' (fun a => by have := c' a; omega) (fun j hj => ?_) (by simp)
    simp only [Tg.all, List.mem_singleton] at hj
    exact List.getElem?_set_ne (Ne.symm hj)
  | t is =>
    cases e with
    | Tuple es kk pos =>
      have h : mTs N sc' is es = true := h
      have q := mTs_each h X.env
      refine PG_imp (pg_tup (n := is.length) g.calm (pgs_names g hl h) q.1 q.2) fun v σ H Z ⟨ρ, F, d, Fd, ρ', r, rd, ea, k⟩ => ?_
      cases rd with
      | @tup a vs ds Fd hs ha =>
        have h2 : is.all (· < ρ.length) = true ∧ setAll ρ is ds = some ρ' := by
          by_cases h : is.all (· < ρ.length) = true
          · exact ⟨h, by simpa [asg, h] using ea⟩
          · exact absurd ea (by simp [asg, h])
        obtain ⟨h3, σ', F', r', c', h4, rfl⟩ := setAll_rep r ha h2.1 h2.2
        refine ⟨a, vs, rfl, hs, h3, gNames_of h3 (k _ F' r' c' h4 ?_)⟩
        rw [← r'.len, setAll_len h2.2, r.len]
      | @row a vs ds Fd hs ha =>
        have h2 : is.all (· < ρ.length) = true ∧ setAll ρ is ds = some ρ' := by
          by_cases h : is.all (· < ρ.length) = true
          · exact ⟨h, by simpa [asg, h] using ea⟩
          · exact absurd ea (by simp [asg, h])
        obtain ⟨h3, σ', F', r', c', h4, rfl⟩ := setAll_rep r ha h2.1 h2.2
        refine ⟨a, vs, rfl, hs.sq, h3, gNames_of h3 (k _ F' r' c' h4 ?_)⟩
        rw [← r'.len, setAll_len h2.2, r.len]
      | _ => cases ea
    | _ => cases h
end

/-! ### what is walked -/
inductive ItOk (K : PySem.W.Frag) (σ : St) (T : List Addr) (H : Hp) : L2.It → Itr → Prop where
  | rng (lo : Int) (n : Nat) : ItOk K σ T H (L2.Itr lo n) ⟨rngVals lo n, none⟩
  | tup {a : Addr} {vs : List V} {ds : List Val} : SqT K H a vs → AllP (Rep K H) ds vs [] → ItOk K σ T H (Itt K a) ⟨ds, none⟩
  | frz {a : Addr} {ns : List Int} : Froz K H a ns → ItOk K σ T H (Itl K a) ⟨ns.map Val.int, none⟩
  | tmp {a : Addr} {vs : List V} {ds : List Val} : H a = some (.lst vs) → AllP (Rep K H) ds vs [] → a ∈ T → ItOk K σ T H (Itl K a) ⟨ds, none⟩
  | own {i : Nat} {a : Addr} {ds : List Val} : σ[i]? = some (some (.ref a)) → immL ds = true → ItOk K σ T H (Itl K a) ⟨ds, some (i, .lst ds)⟩
theorem rng_len (lo : Int) (n : Nat) : (rngVals lo n).length = n := by simp [rngVals]
theorem rng_at {lo : Int} {n i : Nat} (h : i < n) : (rngVals lo n)[i]? = some (.int (lo + (i : Nat))) := by
  unfold rngVals
  rw [List.getElem?_map, List.getElem?_range h]
  rfl
/-- at a later turn it goes on, and gives the next of its values; at the end it stops -/
theorem ItOk.turn {K : PySem.W.Frag} {σ : St} {T : List Addr} {H : Hp} {J : L2.It} {w : Itr} (k : ItOk K σ T H J w) {ρi : Env} {σi : St} {Hi : Hp} {Fi : List Addr} (fix : ∀ a o, H a = some o → Fixed o → Hi a = some o)
    (tk : ∀ a ∈ T, ∀ o, H a = some o → Hi a = some o) (r : RepE K Hi ρi σi Fi) (hσ : ∀ i v, (w.ck.map (·.1)) = some i → σi[i]? = some (some v) → σ[i]? = some (some v)) (hh : w.held ρi = true) :
    (∀ i, i < w.vals.length → J.go i Hi ∧ ∀ x H', J.yld i Hi x H' → H' = Hi ∧ ∃ d, w.vals[i]? = some d ∧ Rep K Hi d x []) ∧ J.stop w.vals.length Hi := by
  have seq : ∀ {ds : List Val} {vs : List V} {a : Addr}, AllP (Rep K Hi) ds vs [] → SqL K Hi a vs → (∀ i, i < ds.length → (Itl K a).go i Hi ∧ ∀ x H', (Itl K a).yld i Hi x H' → H' = Hi ∧ ∃ d, ds[i]? = some d ∧ Rep K Hi d x []) ∧ (Itl K a).stop ds.length Hi := by
    intro ds vs a t hs
    have hl := t.len
    refine ⟨fun i hi => ?_, vs, hs, by omega⟩
    obtain ⟨v, F1, h1, h2, h3⟩ := t.at (List.getElem?_eq_getElem hi)
    have e : F1 = [] := List.eq_nil_iff_forall_not_mem.mpr fun a ha => by have q := h3 a; have p := cnt_mem ha; rw [List.count_nil] at q; omega
    subst e
    exact ⟨⟨vs, v, hs, h1⟩, fun x H' y => ⟨y.1, _, List.getElem?_eq_getElem hi, by have := y.2 vs hs; rw [h1] at this; cases this; exact h2⟩⟩
  cases k with
  | rng lo n =>
    simp only [rng_len]
    exact ⟨fun i hi => ⟨hi, fun x H' y => ⟨y.1, _, rng_at hi, by rw [y.2]; exact .int _⟩⟩, Nat.le_refl _⟩
  | @tup a vs ds hs t =>
    have hs' := SqT.step hs fix
    have t' : AllP (Rep K Hi) ds vs [] := t.keepR fix fun a ha => by simp at ha
    have hl := t.len
    refine ⟨fun i hi => ?_, vs, hs', by show vs.length ≤ ds.length; omega⟩
    obtain ⟨v, F1, h1, h2, h3⟩ := t'.at (List.getElem?_eq_getElem hi)
    have e : F1 = [] := List.eq_nil_iff_forall_not_mem.mpr fun a ha => by have q := h3 a; have p := cnt_mem ha; rw [List.count_nil] at q; omega
    subst e
    exact ⟨⟨vs, v, hs', h1⟩, fun x H' y => ⟨y.1, _, List.getElem?_eq_getElem hi, by have := y.2 vs hs'; rw [h1] at this; cases this; exact h2⟩⟩
  | frz hf => exact seq AllP.ints (hf.step fix).sq
  | @tmp a vs ds hs t ha => exact seq (t.keepR fix fun a ha => by simp at ha) (.of (tk a ha _ hs))
  | @own i a ds hs hm =>
    unfold Itr.held at hh
    simp only at hh
    split at hh
    · rename_i x ex
      have e := same_eq _ _ hh
      subst e
      obtain ⟨v, F1, F2, h1, h2, _, _⟩ := r.take ex
      have e := hσ i v rfl h1
      rw [hs] at e
      cases e
      cases h2 with
      | lst q1 q2 => exact seq (q2.nils (q2.imm0 hm)) (.of q1)
    · cases hh
end NV

set_option Elab.async false
set_option linter.all false
set_option maxRecDepth 100000
set_option maxHeartbeats 2000000
/-! What an expression comes to, told of the tracked heap: the readings and what joins them. -/
namespace NV
open PySem PySem.Spec L2

/-! ### tests -/
def plainT : Expr → Bool
  | .UnaryOp .Not _ _ => false
  | .BoolOp .. => false
  | .IfExp .. => false
  | .Compare .. => false
  | _ => true
theorem plain_he {X : Cx} {e : Expr} (h : plainT e = true) : ∀ whole, isTrue e X.env whole = (do let v ← whole; standAt e.pos; holding [v] (truthy v)) := by
  intro whole
  cases e with
  | UnaryOp op a p => cases op <;> first | rfl | (simp [plainT] at h)
  | _ => first | rfl | (simp [plainT] at h)
theorem PT_imp {X : Cx} {e : Expr} {t t' : TT} (h : PT X e t) (k : ∀ σ H Q, t' σ H Q → t σ H Q) : PT X e t' := ⟨fun pins s σ H Q I q => h.run pins s σ H Q I (k σ H Q q)⟩
theorem PW_imp {X : Cx} {e : Expr} {t t' : TT} (h : PW X e t) (k : ∀ σ H Q, t' σ H Q → t σ H Q) : PW X e t' := ⟨fun wh pins s σ H Q I q => h.run wh pins s σ H Q I (k σ H Q q)⟩
theorem PO_imp {X : Cx} {e : Option Expr} {t t' : TO} (h : PO X e t) (k : ∀ σ H Q, t' σ H Q → t σ H Q) : PO X e t' := ⟨fun pins s σ H Q I q => h.run pins s σ H Q I (k σ H Q q)⟩
theorem PA_imp {X : Cx} {e : List Expr} {t t' : TA} (h : PA X e t) (k : ∀ σ H Q, t' σ H Q → t σ H Q) : PA X e t' := ⟨fun pos pins s σ H Q I q => h.run pos pins s σ H Q I (k σ H Q q)⟩
theorem PI_imp {X : Cx} {tg e : Expr} {t t' : TI} (h : PI X tg e t) (k : ∀ σ H Q, t' σ H Q → t σ H Q) : PI X tg e t' := ⟨fun pins s σ H Q I q => h.run pins s σ H Q I (k σ H Q q)⟩
section
variable {X : Cx} {N : List Str} {sc : Scope}
theorem m1_plain {p : P1} {e a : Expr} (h : m1 sc p e = some a) (hp : p ≠ .not_) : plainT e = true := by
  unfold m1 at h
  split at h <;> first | rfl | exact absurd rfl hp | cases h
theorem p2_test (g : Good X N sc) (p : P2) (e a b : Expr) (ta tb : TE) (h : m2 sc p e = some (a, b)) (ha : PE X a ta) (hb : PE X b tb) :
    PT X e (fun σ H Z => ta σ H fun x H1 => tb σ H1 fun y H2 => R2' X.K p x y H2 fun v H3 => ∃ k, v = .bl k ∧ Z k H3) := by
  have hv := p2_ok g p e a b ta tb h ha hb
  unfold m2 at h
  split at h
  · exact pt_val hv (plain_he rfl)
  · exact pt_val hv (plain_he rfl)
  · exact pt_val hv (plain_he rfl)
  · exact pt_val hv (plain_he rfl)
  · exact pt_val hv (plain_he rfl)
  · exact pt_val hv (plain_he rfl)
  · cases h; exact pt_cmpR (o_lt g.hu) ha hb (nomark _)
  · cases h; exact pt_cmpR o_le ha hb (nomark _)
  · cases h; exact pt_cmpR o_gt ha hb (nomark _)
  · cases h; exact pt_cmpR o_ge ha hb (nomark _)
  · cases h; exact pt_cmpR (o_eq g.hu) ha hb (nomark _)
  · cases h; exact pt_cmpR (o_ne g.hu) ha hb (nomark _)
  · obtain ⟨hh, e2⟩ := guard_eq h
    cases e2
    exact pt_cmpR (o_isin g.hu) ha hb (noset_mark hh _)
  · obtain ⟨hh, e2⟩ := guard_eq h
    cases e2
    exact pt_cmpR (o_notin g.hu) ha hb (noset_mark hh _)
  · cases h; exact pt_cmpR o_isN ha hb (nomark _)
  · cases h; exact pt_cmpR o_notN ha hb (nomark _)
  · cases h; exact pt_cmpR o_isB ha hb (nomark _)
  · cases h; exact pt_cmpR o_notB ha hb (nomark _)
  · exact pt_val hv (plain_he rfl)
  · exact pt_val hv (plain_he rfl)
  · exact pt_val hv (plain_he rfl)
  · cases h
def TQT (K : PySem.W.Frag) (q : Q) : TT := fun σ H Z => ∃ ρ F b, RepE K H ρ σ F ∧ pk q ρ = some (.bl b) ∧ ∀ H', Ext H H' → Z b H'
theorem vw_bl {K : PySem.W.Frag} {H : Hp} {b : Bool} {v : V} (h : vw K H (.bl b) v) : v = .bl b := by
  obtain ⟨F, r⟩ := h; cases r; rfl
theorem q_test (g : Good X N sc) (q : Q) (e : Expr) (h : mQ N sc q e = true) : PT X e (TQT X.K q) := by
  have val : plainT e = true → PT X e (TQT X.K q) := fun hp => PT_imp (pt_val (q_ok g q e h) (plain_he hp)) fun σ H Z ⟨ρ, F, b, r, e, k⟩ =>
    ⟨ρ, F, .bl b, r, e, fun v H' ex vv => ⟨b, vw_bl vv, k H' ex⟩⟩
  cases q with
  | c v => exact val (by cases e <;> first | rfl | (simp [mQ] at h))
  | v i => exact val (by cases e <;> first | rfl | (simp [mQ, mV] at h))
  | l1 a => exact val (by cases e <;> first | rfl | (simp [mQ] at h))
  | p1 p a =>
    have h : (match m1 sc p e with | some a' => p != .not_ && mQ N sc a a' | none => false) = true := by cases e <;> exact h
    split at h
    · rename_i a' e1
      rw [Bool.and_eq_true] at h
      exact val (m1_plain e1 (by simpa using h.1))
    · cases h
  | p2 p a b =>
    have h : (match m2 sc p e with | some (a', b') => mQ N sc a a' && mQ N sc b b' | none => false) = true := by cases e <;> exact h
    split at h
    · rename_i a' b' e1
      rw [Bool.and_eq_true] at h
      refine PT_imp (p2_test g p e a' b' _ _ e1 (q_ok g a a' h.1) (q_ok g b b' h.2)) fun σ H Z ⟨ρ, F, d, r, e, k⟩ => ?_
      obtain ⟨x, h1, h2⟩ := Option.bind_eq_some_iff.mp e
      obtain ⟨y, h3, h4⟩ := Option.bind_eq_some_iff.mp h2
      exact ⟨ρ, F, x, r, h1, fun v H' ex vv => ⟨ρ, F, y, r.grow ex, h3, fun v2 H2 ex2 vv2 => ⟨x, y, .bl d, vv.grow ex2, vv2, h4, fun v3 H3 ⟨g3, F3, r3, _⟩ => ⟨d, vw_bl ⟨F3, r3⟩, k _ fun a o h => g3 a o (ex2 a o (ex a o h))⟩⟩⟩⟩
    · cases h
end

/-! ### readings -/
section
variable (K : PySem.W.Frag) (cf : Nat → List Val → Option (Val × List (Option Val)))
def TEv (e : E) : TE := fun σ H Z => ∃ ρ F d ρ', RepE K H ρ σ F ∧ Uni F ∧ ev cf e ρ = some (d, ρ') ∧
  ∀ v H' Fd F', RepE K H' ρ' σ F' → Rep K H' d v Fd → Uni (Fd ++ F') → Step H F H' (Fd ++ F') → Z v H'
def TTv (e : E) : TT := fun σ H Z => ∃ ρ F b ρ', RepE K H ρ σ F ∧ Uni F ∧ ev cf e ρ = some (.bl b, ρ') ∧
  ∀ H' F', RepE K H' ρ' σ F' → Uni F' → Step H F H' F' → Z b H'
def OpP (H : Hp) (σ : St) : Op → Opd → V → List Addr → Prop
  | .v i, .v j, v, F => i = j ∧ σ[i]? = some (some v) ∧ F = []
  | .q _, .d x, v, F => vw K H x v ∧ F = []
  | .e _, .d x, v, F => Rep K H x v F
  | _, _, _, _ => False
def TOp (a : Op) : TE := fun σ H Z => ∃ ρ F r ρ', RepE K H ρ σ F ∧ Uni F ∧ evOp cf a ρ = some (r, ρ') ∧
  ∀ v H' Fd F', RepE K H' ρ' σ F' → OpP K H' σ a r v Fd → Uni (Fd ++ F') → Step H F H' (Fd ++ F') → (a.isE = false → Ext H H') → Z v H'
def TOQ (o : OQ) : TO := fun σ H Z => ∃ ρ F l, RepE K H ρ σ F ∧ pkO o ρ = some l ∧ ∀ H', Ext H H' → Z l H'
def TEs (es : Es) : TA := fun σ H Z => ∃ ρ F ds ρ', RepE K H ρ σ F ∧ Uni F ∧ evEs cf es ρ = some (ds, ρ') ∧
  ∀ vs H' Fd F', RepE K H' ρ' σ F' → AllP (Rep K H') ds vs Fd → Uni (Fd ++ F') → Step H F H' (Fd ++ F') → Z vs H'
def WB (σ : St) : List (Option Nat) → List V → Prop
  | [], [] => True
  | some i :: js, v :: vs => σ[i]? = some (some v) ∧ WB σ js vs
  | none :: js, _ :: vs => WB σ js vs
  | _, _ => False
def TAs (as : As) : TA := fun σ H Z => ∃ ρ F r ρ', RepE K H ρ σ F ∧ Uni F ∧ evAs cf as ρ = some (r, ρ') ∧
  ∀ vs H' Fd F', RepE K H' ρ' σ F' → AllP (Rep K H') (r.map (·.1)) vs Fd → WB σ (r.map (·.2)) vs → Uni (Fd ++ F') → Step H F H' (Fd ++ F') → Z vs H'
def TIt (it : It) : TI := fun σ H R => ∃ ρ F w ρ', RepE K H ρ σ F ∧ Uni F ∧ evIt cf it ρ = some (w, ρ') ∧
  ∀ J H' Ft F', RepE K H' ρ' σ F' → ItOk K σ Ft H' J w → Uni (Ft ++ F') → Step H F H' (Ft ++ F') → (∀ a ∈ Ft, H' a ≠ none) → (∀ i, (w.ck.map (·.1)) = some i → it = .v i) → R J H'
end
/-- the promise of a def -/
def spF (K : PySem.W.Frag) (T : List FnR) (fu k i : Nat) : Sp := fun vs H Z _ => ∃ ds F d os, AllP (Rep K H) ds vs F ∧ Uni F ∧ run T fu k i ds = some (d, os) ∧
  ∀ v H' Fd Fo, Rep K H' d v Fd → RepE K H' os (vs.map some) Fo → Uni (Fd ++ Fo) → Step H F H' (Fd ++ Fo) → Z v H'
structure Calls (X : Cx) (T : List FnR) (fu k : Nat) : Prop where
  room : Room k X.A
  fns : ∀ i f, T[i]? = some f → ∃ a fd, FnOk X.prog X.w X.K X.mg X.base CX0 k a fd f.ps (spF X.K T fu k i) ∧ X.mg f.name = some (.ref a) ∧ PySem.W.keepIn X.K (.ref a) = true ∧ Binds X.K fd f.ps []

/-! ### steps and rows -/
section
variable {K : PySem.W.Frag} {H H' H1 H2 : Hp} {F F' G A B : List Addr}
theorem Step.less (s : Step H F H' (A ++ B)) : Step H F H' B := ⟨s.keep, s.fix, fun a => by
  rcases s.new a with q | q
  · exact .inl (by rw [cnt_app] at q; omega)
  · exact .inr q, s.dom⟩
theorem Step.frame (s : Step H F H' F') (A : List Addr) : Step H (A ++ F) H' (A ++ F') := ⟨fun a o h e => s.keep a o h (by rw [cnt_app] at e; omega), s.fix, fun a => by
  rw [cnt_app, cnt_app]
  rcases s.new a with q | q
  · exact .inl (by omega)
  · exact .inr q, s.dom⟩
theorem Step.to (s : Step H F H' F') (h : ∀ a, G.count a ≤ F'.count a) : Step H F H' G := ⟨s.keep, s.fix, fun a => by
  rcases s.new a with q | q
  · exact .inl (Nat.le_trans (h a) q)
  · exact .inr q, s.dom⟩
theorem Uni.right (u : Uni (A ++ B)) : Uni B := fun a => by have := u a; rw [cnt_app] at this; omega
theorem Uni.left (u : Uni (A ++ B)) : Uni A := fun a => by have := u a; rw [cnt_app] at this; omega
theorem Uni.to (u : Uni F) (h : ∀ a, G.count a ≤ F.count a) : Uni G := fun a => Nat.le_trans (h a) (u a)
theorem Uni.nil : Uni [] := fun a => by simp
/-- the rest of an owned row behind a step of its part -/
theorem Uni.step (u : Uni (A ++ F)) (m : ∀ a ∈ A, H a ≠ none) (s : Step H F H' F') (u' : Uni F') : Uni (A ++ F') := fun a => by
  rw [cnt_app]
  have h1 := u a
  rw [cnt_app] at h1
  have h2 := u' a
  by_cases ha : a ∈ A
  · rcases s.new a with q | q
    · omega
    · exact absurd q (m a ha)
  · rw [List.count_eq_zero.mpr ha]; omega
theorem Rep.some {d : Val} {v : V} {F : List Addr} (r : Rep K H d v F) : ∀ a ∈ F, H a ≠ none := fun a ha e => by
  obtain ⟨o, h, _⟩ := Rep.mem _ _ _ r a ha
  rw [e] at h; cases h
theorem AllP.some {ds : List Val} {vs : List V} {F : List Addr} (r : AllP (Rep K H) ds vs F) : ∀ a ∈ F, H a ≠ none := fun a ha e => by
  obtain ⟨o, h, _⟩ := r.mem a ha
  rw [e] at h; cases h
theorem RepE.some {ρ : Env} {σ : St} {F : List Addr} (r : RepE K H ρ σ F) : ∀ a ∈ F, H a ≠ none := fun a ha e => by
  obtain ⟨o, h, _⟩ := RepE.mem r a ha
  rw [e] at h; cases h
/-- a rule's value, taken as one's own -/
theorem Post.close {fresh : Bool} {d : Val} {v : V} {ρ : Env} {σ : St} (p : Post K fresh H1 d v H2) (ho : own fresh d = true) (r : RepE K H1 ρ σ F') (u : Uni F') (s : Step H F H1 F') :
    ∃ Fd, RepE K H2 ρ σ F' ∧ Rep K H2 d v Fd ∧ Uni (Fd ++ F') ∧ Step H F H2 (Fd ++ F') := by
  obtain ⟨g, Fd, rd, q⟩ := p
  obtain ⟨u1, n⟩ := q ho
  refine ⟨Fd, r.grow g, rd, fun a => ?_, s.trans (Step.ext g fun a => ?_)⟩
  · rw [cnt_app]
    by_cases ha : a ∈ Fd
    · have h0 : F'.count a = 0 := List.count_eq_zero.mpr fun hm => r.some a hm (n a ha)
      have := u1 a
      omega
    · rw [List.count_eq_zero.mpr ha]; have := u a; omega
  · rw [cnt_app]
    by_cases ha : a ∈ Fd
    · exact .inr (n a ha)
    · rw [List.count_eq_zero.mpr ha]; exact .inl (by omega)
theorem wback_rep : ∀ {js : List (Option Nat)} {vs : List V} {os : List (Option Val)} {ρ : Env} {σ : St} {F Fo : List Addr}, RepE K H ρ σ F → WB σ js vs → RepE K H os (vs.map .some) Fo →
    ∃ F3, RepE K H (wback js os ρ) σ F3 ∧ ∀ a, F3.count a ≤ Fo.count a + F.count a
  | [], [], os, ρ, σ, F, Fo, r, _, _ => ⟨F, by cases os <;> exact r, fun a => by omega⟩
  | .some i :: js, v :: vs, none :: os, ρ, σ, F, Fo, r, w, o => by
    obtain ⟨F1, r1, c1⟩ := r.drop (i := i)
    obtain ⟨F3, r3, c3⟩ := wback_rep (os := os) (Fo := Fo) r1 w.2 o
    exact ⟨F3, r3, fun a => by have := c1 a; have := c3 a; omega⟩
  | .some i :: js, v :: vs, .some d :: os, ρ, σ, F, Fo, r, w, ⟨v', G1, G2, e1, rd, o, e2⟩ => by
    cases e1
    obtain ⟨F1, r1, c1⟩ := r.put w.1 rd
    obtain ⟨F3, r3, c3⟩ := wback_rep (os := os) (Fo := G2) r1 w.2 o
    exact ⟨F3, r3, fun a => by have := c1 a; have := c3 a; subst e2; rw [cnt_app]; omega⟩
  | none :: js, v :: vs, none :: os, ρ, σ, F, Fo, r, w, o => wback_rep (js := js) (vs := vs) (os := os) (Fo := Fo) r w o
  | none :: js, v :: vs, .some d :: os, ρ, σ, F, Fo, r, w, ⟨v', G1, G2, e1, rd, o, e2⟩ => by
    obtain ⟨F3, r3, c3⟩ := wback_rep (js := js) (vs := vs) (os := os) (Fo := G2) r w o
    exact ⟨F3, r3, fun a => by have := c3 a; subst e2; rw [cnt_app]; omega⟩
  | none :: _, [], _, _, _, _, _, _, w, _ => w.elim
  | .some _ :: _, [], _, _, _, _, _, _, w, _ => w.elim
  | [], _ :: _, _, _, _, _, _, _, w, _ => w.elim
  | .some _ :: _, _ :: _, [], _, _, _, _, _, _, o => o.elim
  | none :: _, _ :: _, [], _, _, _, _, _, _, o => o.elim
/-! ### a comprehension's own slots -/
theorem RepE.reset {y : Option V} {x : Option Val} (hx : x = none ∨ ∃ d v, x = .some d ∧ y = .some v ∧ Rep K H d v []) : ∀ {ρ : Env} {σ : St} {F : List Addr} {i : Nat}, RepE K H ρ σ F →
    ∃ F', RepE K H (ρ.set i x) (σ.set i y) F' ∧ ∀ a, F'.count a ≤ F.count a := by
  intro ρ σ F i r
  rcases hx with rfl | ⟨d, v, rfl, rfl, rd⟩
  · exact r.drop2
  · by_cases hi : i < ρ.length
    · obtain ⟨F', r', c'⟩ := RepE.set rd r hi
      exact ⟨F', r', fun a => by have := c' a; simpa using this⟩
    · rw [List.set_eq_of_length_le (by omega), List.set_eq_of_length_le (by have := r.len; omega)]
      exact ⟨F, r, fun _ => Nat.le_refl _⟩
theorem wipeE_rep {ρ : Env} {σ : St} {F : List Addr} (r : RepE K H ρ σ F) : ∀ ow : List Nat, ∃ F', RepE K H (wipeE ρ ow) (wipe σ ow) F' ∧ ∀ a, F'.count a ≤ F.count a
  | [] => ⟨F, r, fun _ => Nat.le_refl _⟩
  | i :: ow => by
    obtain ⟨F1, r1, c1⟩ := wipeE_rep r ow
    obtain ⟨F2, r2, c2⟩ := r1.drop2 (i := i) (y := none)
    exact ⟨F2, r2, fun a => Nat.le_trans (c2 a) (c1 a)⟩
theorem set_set_self {α : Type} {l : List α} {i : Nat} {x y : α} (h : l[i]? = .some x) : (l.set i y).set i x = l := by
  rw [List.set_set, set_self h]
theorem backE_rep {old : Env} {σ : St} : ∀ {ow : List Nat} {ρ : Env} {F : List Addr}, ow.Nodup → RepE K H ρ (wipe σ ow) F → (∀ i ∈ ow, ∀ d, Env.get old i = .some d → imm d = true → ∃ v, σ[i]? = .some (.some v) ∧ Rep K H d v []) →
    ∃ F', RepE K H (backE old ρ ow) σ F' ∧ ∀ a, F'.count a ≤ F.count a
  | [], ρ, F, _, r, _ => ⟨F, r, fun _ => Nat.le_refl _⟩
  | i :: ow, ρ, F, nd, r, hold => by
    have r : RepE K H ρ ((wipe σ ow).set i none) F := r
    have hi : i ∉ ow := (List.nodup_cons.mp nd).1
    by_cases hl : i < (wipe σ ow).length
    · have e0 : (wipe σ ow)[i]? = σ[i]? := wipe_out hi
      obtain ⟨y, hy⟩ : ∃ y, (wipe σ ow)[i]? = .some y := ⟨_, List.getElem?_eq_getElem hl⟩
      have hx : keepI (Env.get old i) = none ∨ ∃ d v, keepI (Env.get old i) = .some d ∧ y = .some v ∧ Rep K H d v [] := by
        cases e : Env.get old i with
        | none => exact .inl rfl
        | some d =>
          by_cases hm : imm d = true
          · obtain ⟨v, h1, h2⟩ := hold i (by simp) d e hm
            rw [← e0, hy] at h1
            cases h1
            exact .inr ⟨d, v, by simp [keepI, hm], rfl, h2⟩
          · exact .inl (by simp [keepI, hm])
      obtain ⟨F1, r1, c1⟩ := r.reset (i := i) hx
      rw [set_set_self hy] at r1
      obtain ⟨F2, r2, c2⟩ := backE_rep (old := old) (List.nodup_cons.mp nd).2 r1 fun j hj => hold j (by simp [hj])
      exact ⟨F2, r2, fun a => Nat.le_trans (c2 a) (c1 a)⟩
    · rw [List.set_eq_of_length_le (by omega)] at r
      obtain ⟨F2, r2, c2⟩ := backE_rep (old := old) (ρ := ρ.set i (keepI (Env.get old i))) (List.nodup_cons.mp nd).2 (by
        rw [List.set_eq_of_length_le (by have := r.len; omega)]; exact r) fun j hj => hold j (by simp [hj])
      exact ⟨F2, r2, c2⟩
theorem wipe_at {σ : St} : ∀ {ow : List Nat} {j : Nat}, j ∈ ow → (wipe σ ow)[j]? = if j < σ.length then .some none else none
  | i :: ow, j, h => by
    show ((wipe σ ow).set i none)[j]? = _
    by_cases e : i = j
    · subst e
      rw [List.getElem?_set]
      simp [wipe_length]
    · rw [List.getElem?_set_ne e]
      exact wipe_at (by simpa [Ne.symm e] using h)
theorem wipe_ext {σ σ' : St} {ow : List Nat} (hl : σ'.length = σ.length) (h : ∀ j, j ∉ ow → σ'[j]? = σ[j]?) : wipe σ' ow = wipe σ ow := by
  apply List.ext_getElem?
  intro j
  by_cases hj : j ∈ ow
  · rw [wipe_at hj, wipe_at hj, hl]
  · rw [wipe_out hj, wipe_out hj, h j hj]
theorem wipe_twice (σ : St) (ow : List Nat) : wipe (wipe σ ow) ow = wipe σ ow := wipe_ext (wipe_length σ ow) fun j hj => wipe_out hj
end
end NV

set_option Elab.async false
set_option linter.all false
set_option maxRecDepth 100000
set_option maxHeartbeats 4000000
/-! Every expression of the small language is what it comes to. -/
namespace NV
open PySem PySem.Spec L2

theorem cnt_cons {a b : Addr} {F : List Addr} : (a :: F).count b = F.count b + if a = b then 1 else 0 := by
  rw [List.count_cons]
  simp only [beq_iff_eq]
section
variable {X : Cx} {N : List Str} {sc : Scope} {cf : Nat → List Val → Option (Val × List (Option Val))}
/-- an operand's value at its use -/
theorem OpP.now {K : PySem.W.Frag} {H : Hp} {ρ : Env} {σ : St} {F G : List Addr} {a : Op} {r : Opd} {v : V} {d : Val} (o : OpP K H σ a r v G) (e : r.res ρ = some d) (q : RepE K H ρ σ F) : vw K H d v := by
  cases a with
  | v i =>
    cases r with
    | v j =>
      obtain ⟨rfl, h1, _⟩ := o
      obtain ⟨v', F1, F2, h2, h3, _, _⟩ := q.take e
      rw [h1] at h2; cases h2
      exact ⟨F1, h3⟩
    | d x => exact o.elim
  | q a =>
    cases r with
    | v j => exact o.elim
    | d x => cases e; exact o.1
  | e a =>
    cases r with
    | v j => exact o.elim
    | d x => cases e; exact ⟨G, o⟩
/-- .. and behind another operand's reckoning -/
theorem OpP.later {K : PySem.W.Frag} {H H' : Hp} {σ : St} {F F' G : List Addr} {a b : Op} {r : Opd} {v : V} (o : OpP K H σ a r v G) (u : Uni (G ++ F)) (s : Step H F H' F') (x : b.isE = false → Ext H H')
    (hb : (b.isE && !r.firm && a.isQ) = false) : OpP K H' σ a r v G := by
  cases a with
  | v i =>
    cases r with
    | v j => exact o
    | d x => exact o.elim
  | q a =>
    cases r with
    | v j => exact o.elim
    | d z =>
      refine ⟨?_, o.2⟩
      cases hE : b.isE with
      | false => exact o.1.grow (x hE)
      | true =>
        obtain ⟨G1, q⟩ := o.1
        have hf : imm z = true := by
          rw [hE] at hb
          cases hz : Opd.firm (.d z) with
          | true => exact hz
          | false => rw [hz] at hb; simp [Op.isQ] at hb
        have e := Rep.imm0 64 _ _ _ hf q
        subst e
        exact ⟨[], Rep.keep s.fix _ _ _ q fun a ha => by simp at ha⟩
  | e a =>
    cases r with
    | v j => exact o.elim
    | d z =>
      have o : Rep K H z v G := o
      exact o.step s fun a ha => u.off ha
theorem okOQ (g : Good X N sc) (o : OQ) (e : Option Expr) (h : mO N sc o e = true) : PO X e (TOQ X.K o) := by
  cases o with
  | no =>
    cases e with
    | none => exact PO_imp po_none fun σ H Z ⟨ρ, F, l, r, q, k⟩ => by cases q; exact k H fun _ _ h => h
    | some e => cases h
  | yes q =>
    cases e with
    | none => cases h
    | some e =>
      exact PO_imp (po_some (q_ok g q e h)) fun σ H Z ⟨ρ, F, l, r, hq, k⟩ => by
        obtain ⟨x, h1, h2⟩ := Option.bind_eq_some_iff.mp hq
        cases x with
        | int i =>
          cases h2
          exact ⟨ρ, F, .int i, r, h1, fun v H' ex ⟨G, vv⟩ => by cases vv; exact ⟨i, rfl, k H' ex⟩⟩
        | _ => cases h2
theorem boolVal {K : PySem.W.Frag} {H : Hp} {b : Bool} {v : V} {F : List Addr} (r : Rep K H (.bl b) v F) : v = .bl b ∧ F = [] := by cases r; exact ⟨rfl, rfl⟩
theorem pt_of_pe {e : E} {ex : Expr} (h : PE X ex (TEv X.K cf e)) (hp : plainT ex = true) : PT X ex (TTv X.K cf e) :=
  PT_imp (pt_val h (plain_he hp)) fun σ H Z ⟨ρ, F, b, ρ', r, u, e, k⟩ => ⟨ρ, F, .bl b, ρ', r, u, e, fun v H' Fd F' r' rd u' s => by
    obtain ⟨rfl, rfl⟩ := boolVal rd
    exact ⟨b, rfl, k H' F' r' u'.right s.less⟩⟩
theorem o_cmp (g : Good X N sc) {p : P2} {o : CmpOp} (h : opC p = some o) : OpR X (compareOp o) (R2' X.K p) := by
  cases p <;> cases h
  · exact o_lt g.hu
  · exact o_le
  · exact o_gt
  · exact o_ge
  · exact o_eq g.hu
  · exact o_ne g.hu
theorem opC_mark {p : P2} {o : CmpOp} (h : opC p = some o) (b : Expr) : behindInMarks o b = false := by
  cases p <;> cases h <;> exact nomark _
theorem no_star {es : List Expr} {pos : Pos} {env : PySem.Env} (h : es.all nst = true) : (backTo pos (starEach es env)).any (·.1) = false := by
  induction es with
  | nil => rfl
  | cons e es ih =>
    simp only [List.all_cons, Bool.and_eq_true] at h
    rw [nst_star h.1]
    show (false || (backTo pos (starEach es env)).any (·.1)) = false
    rw [ih h.2]; rfl
theorem mV_nst {i : Nat} {e : Expr} (h : mV N sc i e = true) : nst e = true := by
  cases e <;> first | rfl | (simp [mV] at h)
theorem mAs_nst {T : List FnR} : ∀ {as : As} {es : List Expr}, mAs T N sc as es = true → es.all nst = true
  | .nil, [], _ => rfl
  | .v i as, e :: es, h => by
    simp only [mAs, Bool.and_eq_true] at h
    simp only [List.all_cons, Bool.and_eq_true]
    exact ⟨mV_nst h.1, mAs_nst h.2⟩
  | .e a as, e :: es, h => by
    simp only [mAs, Bool.and_eq_true] at h
    simp only [List.all_cons, Bool.and_eq_true]
    exact ⟨h.1.2, mAs_nst h.2⟩
  | .nil, _ :: _, h => by simp [mAs] at h
  | .v _ _, [], h => by simp [mAs] at h
  | .e _ _, [], h => by simp [mAs] at h
def Es.len : Es → Nat
  | .nil => 0
  | .cons _ es => es.len + 1
theorem evEs_len {cf : Nat → List Val → Option (Val × List (Option Val))} : ∀ {es : Es} {ρ ρ' : Env} {ds : List Val}, evEs cf es ρ = some (ds, ρ') → ds.length = es.len
  | .nil, ρ, ρ', ds, e => by cases e; rfl
  | .cons a es, ρ, ρ', ds, e => by
    obtain ⟨⟨d, ρ1⟩, e1, e2⟩ := Option.bind_eq_some_iff.mp (show (ev cf a ρ).bind _ = some (ds, ρ') from by simpa only [evEs] using e)
    obtain ⟨⟨ds', ρ2⟩, e3, e4⟩ := Option.map_eq_some_iff.mp e2
    cases e4
    rw [List.length_cons, evEs_len e3]; rfl
theorem mEs_len {T : List FnR} {N : List Str} {sc : Scope} : ∀ {es : Es} {l : List Expr}, mEs T N sc es l = true → l.length = es.len
  | .nil, [], _ => rfl
  | .cons a es, x :: l, h => by
    simp only [mEs, Bool.and_eq_true] at h
    rw [List.length_cons, mEs_len h.2]; rfl
  | .nil, _ :: _, h => by simp [mEs] at h
  | .cons _ _, [], h => by simp [mEs] at h
/-- a slot's list is another one now; a value taken out of it lies beside -/
theorem put_list {K : PySem.W.Frag} {H : Hp} {ρ0 : Env} {σ : St} {i : Nat} {a : Addr} {o : HO} {ds : List Val} {vs : List V} {z : Val} {y : V} {B F2 G1 G2 : List Addr} (uB : Uni B) (h5 : RepE K H ρ0 σ F2) (h3 : σ[i]? = some (some (.ref a))) (ho : H a = some o) (hf : ¬ Fixed o)
    (q3 : AllP (Rep K H) ds vs G2) (rz : Rep K H z y G1) (c : ∀ b, (G1.count b + G2.count b + F2.count b) + (if a = b then 1 else 0) ≤ B.count b) :
    ∃ Fp, RepE K (upd H a (.lst vs)) (ρ0.set i (some (.lst ds))) σ Fp ∧ Rep K (upd H a (.lst vs)) z y G1 ∧ Uni (G1 ++ Fp) ∧ Step H B (upd H a (.lst vs)) (G1 ++ Fp) := by
  have fix : ∀ b o', H b = some o' → Fixed o' → upd H a (.lst vs) b = some o' := fun b o' e h => by
    rw [upd_ne (fun q => by subst q; rw [ho] at e; cases e; exact hf h)]; exact e
  have ne : ∀ G : List Addr, (∀ b, G.count b + (if a = b then 1 else 0) ≤ B.count b) → ∀ b ∈ G, b ≠ a := fun G hG b hb q => by
    subst q
    have := hG b; have := uB b; have := cnt_mem hb
    rw [if_pos rfl] at *; omega
  have kp : ∀ G : List Addr, (∀ b, G.count b + (if a = b then 1 else 0) ≤ B.count b) → ∀ b ∈ G, ∀ o', H b = some o' → upd H a (.lst vs) b = some o' := fun G hG b hb o' e => by
    rw [upd_ne (ne G hG b hb)]; exact e
  have r2 := RepE.keep fix h5 (kp F2 fun b => by have := c b; omega)
  have rz' := Rep.keep fix _ _ _ rz (kp G1 fun b => by have := c b; omega)
  have ra := q3.keepR fix (kp G2 fun b => by have := c b; omega)
  obtain ⟨Fp, rp, cp⟩ := r2.put h3 (.lst upd_same ra)
  have cc : ∀ b, (G1 ++ Fp).count b ≤ B.count b := fun b => by
    have := c b; have := cp b
    rw [cnt_cons] at this
    rw [cnt_app]; omega
  refine ⟨Fp, rp, rz', uB.to cc, fun b o' e h => ?_, fix, fun b => .inl (cc b), fun b e => ?_⟩
  · have := c b
    rw [upd_ne (fun q => by subst q; rw [if_pos rfl] at this; omega)]; exact e
  · by_cases q : b = a
    · subst q; rw [upd_same] at e; cases e
    · rw [upd_ne q] at e; exact e
/-- a walk over what a value is -/
theorem pi_any {tg e : Expr} {t : TE} (h : PE X e t) : PI X tg e (fun σ H R => t σ H fun x H1 => ∃ a, x = .ref a ∧ (((∃ xs, SqL X.K H1 a xs) ∧ R (Itl X.K a) H1) ∨ ((∃ xs, SqT X.K H1 a xs) ∧ R (Itt X.K a) H1))) := by
  refine ⟨fun pins s σ H R I q => ?_⟩
  refine thn (h.run pins s σ H _ I q) fun v s1 ⟨x, H1, I1, r1, a, e, q1⟩ => ?_
  subst e
  cases r1
  rcases q1 with ⟨⟨xs, hq⟩, q⟩ | ⟨⟨xs, hq⟩, q⟩
  · obtain ⟨its, rv, p, hz⟩ := I1.list hq
    refine wpAny_pyIter_list p.isList ⟨s1.heap.objs.size, [s1.heap.objs.size], _, _, H1, rfl, I1.kept (t' := s1.toks) fun b o e => Heap.get?_push_of_some _ e, turn_list a _, ⟨_, Heap.get?_push_size _ rfl, rfl, rfl⟩, fun b hb => ?_, q⟩
    have e : b = s1.heap.objs.size := by simpa using hb
    subst e
    exact I1.fpOk (Nat.le_refl _) (I1.hok.fresh (Nat.le_refl _))
  · obtain ⟨its, rv, p, hz⟩ := I1.tuple hq
    refine wpAny_pyIter_tuple (show s1.heap.IsTuple a its.toArray from p) ⟨s1.heap.objs.size, [s1.heap.objs.size], _, _, H1, rfl, I1.kept (t' := s1.toks) fun b o e => Heap.get?_push_of_some _ e, turn_tuple a _, ⟨_, Heap.get?_push_size _ rfl, rfl, rfl⟩, fun b hb => ?_, q⟩
    have e : b = s1.heap.objs.size := by simpa using hb
    subst e
    exact I1.fpOk (Nat.le_refl _) (I1.hok.fresh (Nat.le_refl _))
end
end NV

set_option Elab.async false
set_option linter.all false
set_option maxRecDepth 100000
set_option maxHeartbeats 4000000
namespace NV
open PySem PySem.Spec L2

structure OkE (X : Cx) (cf : Nat → List Val → Option (Val × List (Option Val))) (e : E) (ex : Expr) : Prop where
  pe : PE X ex (TEv X.K cf e)
  pt : tst e = true → PT X ex (TTv X.K cf e)
  pw : tst e = true → ∀ op vs pos, ex = .BoolOp op vs pos → PW X ex (TTv X.K cf e)
theorem OkE.plain {X : Cx} {cf : Nat → List Val → Option (Val × List (Option Val))} {e : E} {ex : Expr} (h : PE X ex (TEv X.K cf e)) (hp : plainT ex = true) : OkE X cf e ex :=
  ⟨h, fun _ => pt_of_pe h hp, fun _ op vs pos e => by subst e; cases hp⟩
theorem OkE.cmp {X : Cx} {cf : Nat → List Val → Option (Val × List (Option Val))} {e : E} {ex : Expr} (h : PE X ex (TEv X.K cf e)) (ht : PT X ex (TTv X.K cf e)) (hp : ∀ op vs pos, ex ≠ .BoolOp op vs pos) : OkE X cf e ex :=
  ⟨h, fun _ => ht, fun _ op vs pos e => absurd e (hp op vs pos)⟩
section
variable {X : Cx} {N : List Str} {sc : Scope} {T : List FnR} {fu k : Nat}
theorem m2_nobool {p : P2} {e a b : Expr} (h : m2 sc p e = some (a, b)) : ∀ op vs pos, e ≠ .BoolOp op vs pos := by
  intro op vs pos he
  subst he
  unfold m2 at h
  split at h <;> first | (cases h; done) | (rename_i h2; cases h2; done) | simp_all
theorem mQ_nobool {q : Q} {e : Expr} (h : mQ N sc q e = true) : ∀ op vs pos, e ≠ .BoolOp op vs pos := by
  intro op vs pos he
  subst he
  cases q with
  | c v => simp [mQ] at h
  | v i => simp [mQ, mV] at h
  | l1 a => simp [mQ] at h
  | p1 p a => simp only [mQ] at h; cases p <;> simp [m1] at h
  | p2 p a b => simp only [mQ] at h; cases p <;> simp [m2] at h
/-- the context of a block is good again -/
theorem Good.blk (g : Good X N sc) {scope : Scope} {s : Shared} {H : Hp} {C : Addr} {cl : List (Str × Addr)} {fp : List Addr} : Good (X.blk s H scope (compEnvC scope cl C X.env) fp) N (relS scope sc) :=
  ⟨g.calm, g.names, g.nd, by show relabel scope X.env = relS scope sc; rw [← g.sc]; rfl, g.bn, g.hu⟩
theorem Calls.blk (c : Calls X T fu k) {scope : Scope} {s : Shared} {H : Hp} {env : PySem.Env} {fp : List Addr} : Calls (X.blk s H scope env fp) T fu k := ⟨c.room, c.fns⟩
theorem Stores.blk {scope : Scope} {s : Shared} {H : Hp} {C : Addr} {cl : List (Str × Addr)} {fp : List Addr} : Stores (X.blk s H scope (compEnvC scope cl C X.env) fp) scope := fun x h => by
  unfold locB at h
  have keep : ∀ kd, kd ≠ NameKind.free → scope.names.lookup x = some kd → (relabel scope X.env).names.lookup x = some kd := fun kd hk e => lookup_relS_keep (sc := X.env.scope) hk e
  split at h
  · rename_i e
    exact ⟨.inl (keep _ (by decide) e), .inr (keep _ (by decide) e)⟩
  · rename_i e
    exact ⟨.inr (keep _ (by decide) e), .inl (by show (scope.names.lookup x == some .cell) = true; rw [e]; rfl)⟩
  · cases h
theorem set_iter {e : Expr} (h : noSet e = true) (env : PySem.Env) : ∀ x, foldedSetIterable e env x = pure x := by
  intro x
  cases e <;> first | rfl | (simp [noSet] at h)
theorem ownN_snd (N : List Str) (ow : List Nat) : (ownN N ow).map (·.2) = ow := by
  unfold ownN; rw [List.map_map]; exact List.map_id' _
end
end NV

set_option Elab.async false
set_option linter.all false
set_option maxRecDepth 100000
set_option maxHeartbeats 4000000
/-! Comprehensions. -/
namespace NV
open PySem PySem.Spec L2
section
variable {K : PySem.W.Frag} {σw : St} {H0 : Hp} {F0 Ft : List Addr} {D : Addr}
/-- a comprehension between two turns: the new list at D -/
def CI (K : PySem.W.Frag) (σw : St) (H0 : Hp) (F0 Ft : List Addr) (D : Addr) (i : Nat) (Hc : Hp) (ρc : Env) (acc : List Val) : Prop := ∃ Fc av Fa, RepE K Hc ρc σw Fc ∧ Hc D = some (.lst av) ∧ AllP (Rep K Hc) acc av Fa ∧
  acc.length ≤ i ∧ Uni (Ft ++ (D :: (Fa ++ Fc))) ∧ Step H0 F0 Hc (D :: (Fa ++ Fc))
theorem CI.same {i : Nat} {Hc H3 : Hp} {ρc ρ3 : Env} {σ3 : St} {acc : List Val} {ow : List Nat} {Fc F3 Fa : List Addr} {av : List V} (r : RepE K Hc ρc σw Fc) (hD : Hc D = some (.lst av)) (ra : AllP (Rep K Hc) acc av Fa) (hl : acc.length ≤ i)
    (u : Uni (Ft ++ (D :: (Fa ++ Fc)))) (mt : ∀ a ∈ Ft, H0 a ≠ none) (s0 : Step H0 F0 Hc (D :: (Fa ++ Fc))) (s : Step Hc Fc H3 F3) (u3 : Uni F3) (r3 : RepE K H3 ρ3 σ3 F3) (hw : wipe σ3 ow = σw) : CI K σw H0 F0 Ft D (i + 1) H3 (wipeE ρ3 ow) acc := by
  obtain ⟨F5, r5, c5⟩ := wipeE_rep r3 ow
  rw [hw] at r5
  have fr := s.frame (D :: Fa)
  have hmem : ∀ a ∈ Ft ++ (D :: Fa), Hc a ≠ none := fun a ha => by
    rcases List.mem_append.mp ha with h | h
    · intro e; exact mt a h (s0.dom a e)
    · rcases List.mem_cons.mp h with rfl | h
      · rw [hD]; intro e; cases e
      · exact ra.some a h
  have u' : Uni ((Ft ++ (D :: Fa)) ++ F3) := Uni.step (H := Hc) (H' := H3) (F := Fc) (by simpa using u) hmem s u3
  refine ⟨F5, av, Fa, r5, s.keep D _ hD ?_, ra.keepR s.fix fun a ha o e => s.keep a o e ?_, by omega, ?_, ?_⟩
  · have := u D; simp only [cnt_app, cnt_cons, if_pos] at this; omega
  · have := u a; have := cnt_mem ha; simp only [cnt_app, cnt_cons] at *; omega
  · refine u'.to fun a => ?_
    have := c5 a
    simp only [cnt_app, cnt_cons]; omega
  · have s' : Step Hc (D :: (Fa ++ Fc)) H3 (D :: (Fa ++ F3)) := by simpa using fr
    refine (s0.trans s').to fun a => ?_
    have := c5 a
    simp only [cnt_app, cnt_cons]; omega
theorem CI.more {i : Nat} {Hc H4 : Hp} {ρc ρ4 : Env} {σ4 : St} {acc : List Val} {ow : List Nat} {Fc F4 Fd Fa : List Addr} {av : List V} {x : Val} {y : V} (r : RepE K Hc ρc σw Fc) (hD : Hc D = some (.lst av)) (ra : AllP (Rep K Hc) acc av Fa) (hl : acc.length ≤ i)
    (u : Uni (Ft ++ (D :: (Fa ++ Fc)))) (mt : ∀ a ∈ Ft, H0 a ≠ none) (s0 : Step H0 F0 Hc (D :: (Fa ++ Fc))) (s : Step Hc Fc H4 (Fd ++ F4)) (u4 : Uni (Fd ++ F4)) (r4 : RepE K H4 ρ4 σ4 F4) (rx : Rep K H4 x y Fd) (hw : wipe σ4 ow = σw) :
    H4 D = some (.lst av) ∧ CI K σw H0 F0 Ft D (i + 1) (upd H4 D (.lst (av ++ [y]))) (wipeE ρ4 ow) (acc ++ [x]) := by
  obtain ⟨F5, r5, c5⟩ := wipeE_rep r4 ow
  rw [hw] at r5
  have hD4 : H4 D = some (.lst av) := s.keep D _ hD (by have := u D; simp only [cnt_app, cnt_cons, if_pos] at this; omega)
  have hmem : ∀ a ∈ Ft ++ (D :: Fa), Hc a ≠ none := fun a ha => by
    rcases List.mem_append.mp ha with h | h
    · intro e; exact mt a h (s0.dom a e)
    · rcases List.mem_cons.mp h with rfl | h
      · rw [hD]; intro e; cases e
      · exact ra.some a h
  have u' : Uni ((Ft ++ (D :: Fa)) ++ (Fd ++ F4)) := Uni.step (H := Hc) (H' := H4) (F := Fc) (by simpa using u) hmem s u4
  have cD : (Fa ++ (Fd ++ F4)).count D = 0 := by have := u' D; simp only [cnt_app, cnt_cons, if_pos] at *; omega
  have neD : ∀ a, a ∈ Fa ++ (Fd ++ F4) → a ≠ D := fun a ha e => by subst e; have := cnt_mem ha; omega
  have fix : ∀ a o, H4 a = some o → Fixed o → upd H4 D (.lst (av ++ [y])) a = some o := fun a o e hf => by
    rw [upd_ne (fun z => by subst z; rw [hD4] at e; cases e; exact hf)]; exact e
  have kp : ∀ F : List Addr, (∀ a ∈ F, a ≠ D) → ∀ a ∈ F, ∀ o, H4 a = some o → upd H4 D (.lst (av ++ [y])) a = some o := fun F hF a ha o e => by rw [upd_ne (hF a ha)]; exact e
  have ra4 : AllP (Rep K H4) acc av Fa := ra.keepR s.fix fun a ha o e => s.keep a o e (by
    have := u a; have := cnt_mem ha; simp only [cnt_app, cnt_cons] at *; omega)
  refine ⟨hD4, F5, av ++ [y], Fa ++ (Fd ++ []), ?_, upd_same, ?_, ?_, ?_, ?_⟩
  · refine RepE.keep fix r5 (kp F5 fun a ha => ?_)
    refine neD a ?_
    have := cnt_mem ha
    have := c5 a
    refine List.mem_append_right _ (List.mem_append_right _ (List.count_pos_iff.mp (by omega)))
  · exact AllP.app (ra4.keepR fix (kp Fa fun a ha => neD a (List.mem_append_left _ ha))) (.cons (Rep.keep fix _ _ _ rx (kp Fd fun a ha => neD a (List.mem_append_right _ (List.mem_append_left _ ha)))) .nil)
  · simp; omega
  · refine u'.to fun a => ?_
    have := c5 a
    simp only [cnt_app, cnt_cons, List.append_nil]; omega
  · have fr := s.frame (D :: Fa)
    have s' : Step Hc (D :: (Fa ++ Fc)) H4 (D :: (Fa ++ (Fd ++ F4))) := by simpa using fr
    refine (s0.trans (s'.trans ⟨fun a o e hc => ?_, fix, fun a => .inl ?_, fun a e => ?_⟩))
    · rw [upd_ne (fun z => by subst z; simp only [cnt_cons, if_pos] at hc; omega)]; exact e
    · have := c5 a
      simp only [cnt_app, cnt_cons, List.append_nil]; omega
    · by_cases hz : a = D
      · subst hz; rw [upd_same] at e; cases e
      · rw [upd_ne hz] at e; exact e
end
end NV

set_option Elab.async false
set_option linter.all false
set_option maxRecDepth 100000
set_option maxHeartbeats 4000000
/-! Comprehensions, told. -/
namespace NV
open PySem PySem.Spec L2
theorem compL_nil {held : Env → Bool} {step : Val → Env → Option (Option Val × Env)} {ρ ρt : Env} {ds : List Val} (e : compL held step [] ρ = some (ds, ρt)) : held ρ = true ∧ ds = [] ∧ ρt = ρ := by
  obtain ⟨h1, h2⟩ := guard_eq (show (if held ρ = true then some (([] : List Val), ρ) else none) = some (ds, ρt) from e)
  cases h2
  exact ⟨h1, rfl, rfl⟩
theorem compL_cons {held : Env → Bool} {step : Val → Env → Option (Option Val × Env)} {v : Val} {vs : List Val} {ρ ρt : Env} {ds : List Val} (e : compL held step (v :: vs) ρ = some (ds, ρt)) :
    held ρ = true ∧ ∃ o ρ1 rest, step v ρ = some (o, ρ1) ∧ compL held step vs ρ1 = some (rest, ρt) ∧ ds = (match o with | some x => x :: rest | none => rest) := by
  by_cases h : held ρ = true
  · refine ⟨h, ?_⟩
    have e2 : (step v ρ).bind (fun r => (compL held step vs r.2).map fun t => (match r.1 with | some x => x :: t.1 | none => t.1, t.2)) = some (ds, ρt) := by
      have : compL held step (v :: vs) ρ = if held ρ = true then (step v ρ).bind (fun r => (compL held step vs r.2).map fun t => (match r.1 with | some x => x :: t.1 | none => t.1, t.2)) else none := rfl
      rw [this, if_pos h] at e; exact e
    obtain ⟨⟨o, ρ1⟩, h1, h2⟩ := Option.bind_eq_some_iff.mp e2
    obtain ⟨⟨rest, ρ2⟩, h3, h4⟩ := Option.map_eq_some_iff.mp h2
    cases h4
    exact ⟨o, ρ1, rest, h1, h3, rfl⟩
  · have : compL held step (v :: vs) ρ = if held ρ = true then (step v ρ).bind (fun r => (compL held step vs r.2).map fun t => (match r.1 with | some x => x :: t.1 | none => t.1, t.2)) else none := rfl
    rw [this, if_neg h] at e; cases e
section
variable {X : Cx} {N : List Str} {sc : Scope} {cf : Nat → List Val → Option (Val × List (Option Val))}
/-- the walk of a comprehension, from what one turn does -/
theorem lc_walk {σ : St} {ow : List Nat} {tg : TG} {tt : TT} {te : TE} {Z : VK} {ρ1 ρt : Env} {H H1 : Hp} {F F1 Ft : List Addr} {w : Itr} {J : L2.It} {step : Val → Env → Option (Option Val × Env)} {ds : List Val} {D : Addr}
    (nd : ow.Nodup) (r1 : RepE X.K H1 ρ1 σ F1) (ok : ItOk X.K σ Ft H1 J w) (u1 : Uni (Ft ++ F1)) (s1 : Step H F H1 (Ft ++ F1)) (mt : ∀ a ∈ Ft, H1 a ≠ none) (hn : w.vals.length < 16777216) (hD : H1 D = none)
    (hc : compL w.held step w.vals (wipeE ρ1 ow) = some (ds, ρt))
    (turn : ∀ (v : Val) (x : V) (ρc ρn : Env) (o : Option Val) (Hc : Hp) (Fc : List Addr) (R : Hp → Prop), step v ρc = some (o, ρn) → RepE X.K Hc ρc (wipe σ ow) Fc → Uni Fc → Rep X.K Hc v x [] →
      (match o with
        | none => ∀ ρ3 σ3 H3 F3, ρn = wipeE ρ3 ow → RepE X.K H3 ρ3 σ3 F3 → Uni F3 → Step Hc Fc H3 F3 → wipe σ3 ow = wipe σ ow → R H3
        | some z => ∀ ρ4 σ4 H4 F4 Fd y, ρn = wipeE ρ4 ow → RepE X.K H4 ρ4 σ4 F4 → Rep X.K H4 z y Fd → Uni (Fd ++ F4) → Step Hc Fc H4 (Fd ++ F4) → wipe σ4 ow = wipe σ ow → ∃ acc, H4 D = some (.lst acc) ∧ acc.length < sizeLine ∧ R (upd H4 D (.lst (acc ++ [y])))) →
      tg x (wipe σ ow) Hc fun σ2 H2 => wipe σ2 ow = wipe σ ow ∧ tt σ2 H2 fun b H3 => if b = true then te σ2 H3 fun y H4 => ∃ acc, H4 D = some (.lst acc) ∧ acc.length < sizeLine ∧ R (upd H4 D (.lst (acc ++ [y]))) else R H3)
    (k : ∀ v H' Fd F', RepE X.K H' (backE ρ1 ρt ow) σ F' → Rep X.K H' (.lst ds) v Fd → Uni (Fd ++ F') → Step H F H' (Fd ++ F') → Z v H') :
    ∃ W : Nat → Nat → Hp → Prop, (∃ m, W 0 m (upd H1 D (.lst []))) ∧ ∀ i m H, W i m H →
      (J.stop i H ∧ Z (.ref D) H) ∨ (J.go i H ∧ ∃ Nx : Hp → Prop, (∀ H', Nx H' → ∃ m', m' < m ∧ W (i + 1) m' H') ∧ ∀ x H', J.yld i H x H' → tg x (wipe σ ow) H' fun σ2 H2 => wipe σ2 ow = wipe σ ow ∧ tt σ2 H2 fun b H3 =>
        if b = true then te σ2 H3 fun y H4 => ∃ acc, H4 D = some (.lst acc) ∧ acc.length < sizeLine ∧ Nx (upd H4 D (.lst (acc ++ [y]))) else Nx H3) := by
  refine ⟨fun i m Hc => m = w.vals.length - i ∧ i ≤ w.vals.length ∧ ∃ ρc acc rest, CI X.K (wipe σ ow) H1 F1 Ft D i Hc ρc acc ∧ compL w.held step (w.vals.drop i) ρc = some (rest, ρt) ∧ ds = acc ++ rest, ⟨_, rfl, Nat.zero_le _, wipeE ρ1 ow, [], ds, ?_, by simpa using hc, rfl⟩, ?_⟩
  · obtain ⟨Fw, rw', cw⟩ := wipeE_rep r1 ow
    have g := upd_grow (o := .lst []) hD
    have c0 : (Ft ++ F1).count D = 0 := List.count_eq_zero.mpr fun hm => by
      rcases List.mem_append.mp hm with h | h
      · exact mt D h hD
      · exact r1.some D h hD
    refine ⟨Fw, [], [], rw'.grow g, upd_same, .nil, by simp, fun a => ?_, Step.ext g fun a => ?_⟩
    · have h1 := u1 a; have h2 := cw a
      simp only [cnt_app, cnt_cons, List.nil_append] at *
      split
      · rename_i e; subst e; omega
      · omega
    · by_cases e : a = D
      · subst e; exact .inr hD
      · have h2 := cw a
        left
        simp only [cnt_cons, List.nil_append, if_neg (Ne.symm e)]; omega
  rintro i m Hc ⟨rfl, hi, ρc, acc, rest, ⟨Fc, av, Fa, rc, hDc, ra, hl, u, s⟩, ec, ed⟩
  have fix : ∀ a o, H1 a = some o → Fixed o → Hc a = some o := s.fix
  have tk : ∀ a ∈ Ft, ∀ o, H1 a = some o → Hc a = some o := fun a ha o e => s.keep a o e (u1.off ha)
  have held : w.held ρc = true := by
    cases hd : w.vals.drop i with
    | nil => rw [hd] at ec; exact (compL_nil ec).1
    | cons v vs => rw [hd] at ec; exact (compL_cons ec).1
  have tn := ok.turn fix tk rc (fun j v hj e => (wipe_some e).1) held
  by_cases hlt : i < w.vals.length
  · refine .inr ⟨(tn.1 i hlt).1, fun H' => ∃ ρc acc rest, CI X.K (wipe σ ow) H1 F1 Ft D (i + 1) H' ρc acc ∧ compL w.held step (w.vals.drop (i + 1)) ρc = some (rest, ρt) ∧ ds = acc ++ rest, fun H' q => ⟨w.vals.length - (i + 1), by omega, rfl, hlt, q⟩, fun x H' hy => ?_⟩
    obtain ⟨rfl, v, hv, rv⟩ := (tn.1 i hlt).2 x H' hy
    have hd : w.vals.drop i = v :: w.vals.drop (i + 1) := by
      rw [List.drop_eq_getElem_cons hlt]
      rw [List.getElem?_eq_getElem hlt] at hv
      cases hv; rfl
    rw [hd] at ec
    obtain ⟨_, o, ρn, rest', hs, ec', er⟩ := compL_cons ec
    have uc : Uni Fc := fun a => by have := u a; simp only [cnt_app, cnt_cons] at this; omega
    refine turn v x ρc ρn o H' Fc _ hs rc uc rv ?_
    cases o with
    | none =>
      intro ρ3 σ3 H3 F3 en r3 u3 s3 hw
      subst en
      exact ⟨_, acc, rest', CI.same rc hDc ra hl u mt s s3 u3 r3 hw, ec', by rw [ed, er]⟩
    | some z =>
      intro ρ4 σ4 H4 F4 Fd y en r4 rz u4 s4 hw
      subst en
      obtain ⟨h1, h2⟩ := CI.more (x := z) (y := y) rc hDc ra hl u mt s s4 u4 r4 rz hw
      exact ⟨av, h1, by rw [← ra.len, sizeLine_eq]; omega, _, acc ++ [z], rest', h2, ec', by rw [ed, er]; simp⟩
  · have ei : i = w.vals.length := by omega
    subst ei
    rw [List.drop_length] at ec
    obtain ⟨_, e1, e2⟩ := compL_nil ec
    subst e1 e2
    rw [List.append_nil] at ed
    subst ed
    obtain ⟨Fb, rb, cb⟩ := backE_rep (old := ρ1) nd rc fun j hj d e hm => by
      obtain ⟨v, G1, G2, h1, h2, _, _⟩ := r1.take e
      have e0 := Rep.imm0 64 _ _ _ hm h2
      subst e0
      exact ⟨v, h1, Rep.keep fix _ _ _ h2 fun a ha => by simp at ha⟩
    refine .inl ⟨tn.2, k _ _ (D :: Fa) Fb rb (.lst hDc ra) (fun a => ?_) ((s1.less.trans s).to fun a => ?_)⟩
    · have h1 := u a; have h2 := cb a
      simp only [cnt_app, cnt_cons] at *; omega
    · have h2 := cb a
      simp only [cnt_app, cnt_cons] at *; omega
end
end NV

set_option Elab.async false
set_option linter.all false
set_option maxRecDepth 100000
set_option maxHeartbeats 8000000
/-! Every expression of the small language is what it comes to. -/
namespace NV
open PySem PySem.Spec L2
theorem guard2 {α : Type} {c : Prop} [Decidable c] {x : Option α} {y : α} (h : (if c then x else none) = some y) : c ∧ x = some y := by
  by_cases hc : c
  · rw [if_pos hc] at h; exact ⟨hc, h⟩
  · rw [if_neg hc] at h; cases h
theorem guard3 {α : Type} {c : Prop} [Decidable c] {x : Option α} {y : α} (h : (if c then none else x) = some y) : ¬ c ∧ x = some y := by
  by_cases hc : c
  · rw [if_pos hc] at h; cases h
  · rw [if_neg hc] at h; exact ⟨hc, h⟩
section
variable {X : Cx} {N : List Str} {sc : Scope} {cf : Nat → List Val → Option (Val × List (Option Val))}
theorem comp_read {ow : List Nat} {tg : Tg} {it : It} {el : E} {X : Cx} (nd : ow.Nodup) (htg : ∀ x ∈ tg.all, x ∈ ow) {σ : L2.St} {H : Hp} {Z : VK} (q : TEv X.K cf (.comp ow tg it el) σ H Z) : tLc (TIt X.K cf it) (TGv X.K tg) tYes (TEv X.K cf el) ow σ H Z := by
  obtain ⟨ρ, F, d, ρ', r, u, e, k⟩ := q
  obtain ⟨⟨w, ρ1⟩, e1, e2⟩ := Option.bind_eq_some_iff.mp (show (evIt cf it ρ).bind _ = some (d, ρ') from by simpa only [ev] using e)
  obtain ⟨hn, e3⟩ := guard2 e2
  obtain ⟨⟨ds, ρt⟩, e4, e5⟩ := Option.map_eq_some_iff.mp e3
  cases e5
  refine ⟨ρ, F, w, ρ1, r, u, e1, fun J H1 Ft F1 r1 ok u1 s1 mt _ D hD => ?_⟩
  refine lc_walk nd r1 ok u1 s1 mt hn hD e4 (fun v x ρc ρn o Hc Fc R hs rc uc rv post => ?_) k
  obtain ⟨ρa, e6, e7⟩ := Option.bind_eq_some_iff.mp hs
  obtain ⟨⟨z, ρb⟩, e8, e9⟩ := Option.map_eq_some_iff.mp e7
  cases e9
  refine ⟨ρc, Fc, v, [], ρa, rc, rv, e6, fun σ' F' r' c' hk hl => ⟨?_, ?_⟩⟩
  · rw [wipe_ext (σ := wipe σ ow) hl fun j hj => hk j fun hm => hj (htg j hm), wipe_twice]
  · refine ⟨ρa, F', z, ρb, r', uc.to fun a => by simpa using c' a, e8, fun y H4 Fd F4 r4 rz u4 s4 => ?_⟩
    refine post ρb σ' H4 F4 Fd y rfl r4 rz u4 (s4.le (fun a => by simpa using c' a) fun a => by omega) ?_
    rw [wipe_ext (σ := wipe σ ow) hl fun j hj => hk j fun hm => hj (htg j hm), wipe_twice]
theorem compIf_read {ow : List Nat} {tg : Tg} {it : It} {cd el : E} {X : Cx} (nd : ow.Nodup) (htg : ∀ x ∈ tg.all, x ∈ ow) {σ : L2.St} {H : Hp} {Z : VK} (q : TEv X.K cf (.compIf ow tg it cd el) σ H Z) : tLc (TIt X.K cf it) (TGv X.K tg) (TTv X.K cf cd) (TEv X.K cf el) ow σ H Z := by
  obtain ⟨ρ, F, d, ρ', r, u, e, k⟩ := q
  obtain ⟨⟨w, ρ1⟩, e1, e2⟩ := Option.bind_eq_some_iff.mp (show (evIt cf it ρ).bind _ = some (d, ρ') from by simpa only [ev] using e)
  obtain ⟨hn, e3⟩ := guard2 e2
  obtain ⟨⟨ds, ρt⟩, e4, e5⟩ := Option.map_eq_some_iff.mp e3
  cases e5
  refine ⟨ρ, F, w, ρ1, r, u, e1, fun J H1 Ft F1 r1 ok u1 s1 mt _ D hD => ?_⟩
  refine lc_walk nd r1 ok u1 s1 mt hn hD e4 (fun v x ρc ρn o Hc Fc R hs rc uc rv post => ?_) k
  obtain ⟨ρa, e6, e7⟩ := Option.bind_eq_some_iff.mp hs
  obtain ⟨⟨q, ρq⟩, e8, e9⟩ := Option.bind_eq_some_iff.mp e7
  have bool : ∃ b, q = .bl b := by
    cases q with
    | bl b => exact ⟨b, rfl⟩
    | _ => cases e9
  obtain ⟨b, rfl⟩ := bool
  refine ⟨ρc, Fc, v, [], ρa, rc, rv, e6, fun σ' F' r' c' hk hl => ?_⟩
  have hw : wipe σ' ow = wipe σ ow := by rw [wipe_ext (σ := wipe σ ow) hl fun j hj => hk j fun hm => hj (htg j hm), wipe_twice]
  refine ⟨hw, ρa, F', b, ρq, r', uc.to fun a => by simpa using c' a, e8, fun H3 F3 r3 u3 s3 => ?_⟩
  have s3' : Step Hc Fc H3 F3 := s3.le (fun a => by simpa using c' a) fun a => by omega
  cases b with
  | false =>
    cases e9
    exact post ρq σ' H3 F3 rfl r3 u3 s3' hw
  | true =>
    obtain ⟨⟨z, ρb⟩, e10, e11⟩ := Option.map_eq_some_iff.mp e9
    cases e11
    exact ⟨ρq, F3, z, ρb, r3, u3, e10, fun y H4 Fd F4 r4 rz u4 s4 => post ρb σ' H4 F4 Fd y rfl r4 rz u4 (s3'.trans s4) hw⟩
theorem comp_ok (g : Good X N sc) {scope : Scope} {ow : List Nat} {tg : Tg} {it : It} {el : E} {elt t i : Expr} {pos : Pos} (hb : okBlk N sc scope ow tg i = true) (ht : mTg N scope tg t = true) (hi : PI X t i (TIt X.K cf it))
    (he : ∀ (s : Shared) (H : Hp) (C : Addr) (cl : List (Str × Addr)) (fp : List Addr), PE (X.blk s H scope (compEnvC scope cl C X.env) fp) elt (TEv X.K cf el)) :
    PE X (.ListComp elt [⟨t, i, [], 0⟩] scope pos) (TEv X.K cf (.comp ow tg it el)) := by
  simp only [okBlk, Bool.and_eq_true, decide_eq_true_eq, List.all_eq_true] at hb
  obtain ⟨⟨⟨hbk, nd⟩, htg⟩, hns⟩ := hb
  have bk : BlkOk X.N X.env.scope scope (ownN N ow) := by rw [g.names, g.sc]; exact blkOk_by hbk
  refine PE_imp (pe_lc (g := TGv X.K tg) (te := TEv X.K cf el) g.calm g.nd hi bk (fun s H C cl fp => tg_ok g.blk Stores.blk tg t ht) (fun _ _ _ _ _ => pts_nil) he (set_iter hns X.env)) fun σ H Z q => ?_
  rw [ownN_snd]
  exact comp_read nd htg q
theorem compIf_ok (g : Good X N sc) {scope : Scope} {ow : List Nat} {tg : Tg} {it : It} {cd el : E} {elt t i c : Expr} {pos : Pos} (hb : okBlk N sc scope ow tg i = true) (ht : mTg N scope tg t = true) (hi : PI X t i (TIt X.K cf it))
    (hc : ∀ (s : Shared) (H : Hp) (C : Addr) (cl : List (Str × Addr)) (fp : List Addr), PT (X.blk s H scope (compEnvC scope cl C X.env) fp) c (TTv X.K cf cd))
    (he : ∀ (s : Shared) (H : Hp) (C : Addr) (cl : List (Str × Addr)) (fp : List Addr), PE (X.blk s H scope (compEnvC scope cl C X.env) fp) elt (TEv X.K cf el)) :
    PE X (.ListComp elt [⟨t, i, [c], 0⟩] scope pos) (TEv X.K cf (.compIf ow tg it cd el)) := by
  simp only [okBlk, Bool.and_eq_true, decide_eq_true_eq, List.all_eq_true] at hb
  obtain ⟨⟨⟨hbk, nd⟩, htg⟩, hns⟩ := hb
  have bk : BlkOk X.N X.env.scope scope (ownN N ow) := by rw [g.names, g.sc]; exact blkOk_by hbk
  refine PE_imp (pe_lc (g := TGv X.K tg) (te := TEv X.K cf el) (tt := TTv X.K cf cd) g.calm g.nd hi bk (fun s H C cl fp => tg_ok g.blk Stores.blk tg t ht) (fun s H C cl fp => pts_one (hc s H C cl fp)) he (set_iter hns X.env)) fun σ H Z q => ?_
  rw [ownN_snd]
  exact compIf_read nd htg q
/-- name = [..], where the name is stored within the list's own frame -/
theorem set_comp (g : Good X N sc) {scope : Scope} {ow : List Nat} {tg : Tg} {it : It} {el : E} {elt t i : Expr} {pos spos py : Pos} {x : Str} {n : Nat} (hb : okBlk N sc scope ow tg i = true) (ht : mTg N scope tg t = true) (hi : PI X t i (TIt X.K cf it))
    (he : ∀ (s : Shared) (H : Hp) (C : Addr) (cl : List (Str × Addr)) (fp : List Addr), PE (X.blk s H scope (compEnvC scope cl C X.env) fp) elt (TEv X.K cf el)) (hx : X.N[n]? = some x) (hl : X.env.scope.names.lookup x = some .local)
    (hsw : swapsWith (.ListComp elt [⟨t, i, [], 0⟩] scope pos) (some (.Name x py)) spos.line X.env = pure true) :
    PS X (.Assign [.Name x py] (.ListComp elt [⟨t, i, [], 0⟩] scope pos) spos) (tAsg (TEv X.K cf (.comp ow tg it el)) (gName n)) := by
  simp only [okBlk, Bool.and_eq_true, decide_eq_true_eq, List.all_eq_true] at hb
  obtain ⟨⟨⟨hbk, nd⟩, htg⟩, hns⟩ := hb
  have bk : BlkOk X.N X.env.scope scope (ownN N ow) := by rw [g.names, g.sc]; exact blkOk_by hbk
  have h := ps_setLc (g := TGv X.K tg) (te := TEv X.K cf el) g.calm g.nd hx hl hsw hi bk (fun s H C cl fp => tg_ok g.blk Stores.blk tg t ht) (fun _ _ _ _ _ => pts_nil) he (set_iter hns X.env)
  refine ⟨fun pins s σ H D I q => h.run pins s σ H D I ?_⟩
  rw [ownN_snd]
  exact comp_read nd htg q
theorem set_compIf (g : Good X N sc) {scope : Scope} {ow : List Nat} {tg : Tg} {it : It} {cd el : E} {elt t i c : Expr} {pos spos py : Pos} {x : Str} {n : Nat} (hb : okBlk N sc scope ow tg i = true) (ht : mTg N scope tg t = true) (hi : PI X t i (TIt X.K cf it))
    (hc : ∀ (s : Shared) (H : Hp) (C : Addr) (cl : List (Str × Addr)) (fp : List Addr), PT (X.blk s H scope (compEnvC scope cl C X.env) fp) c (TTv X.K cf cd))
    (he : ∀ (s : Shared) (H : Hp) (C : Addr) (cl : List (Str × Addr)) (fp : List Addr), PE (X.blk s H scope (compEnvC scope cl C X.env) fp) elt (TEv X.K cf el)) (hx : X.N[n]? = some x) (hl : X.env.scope.names.lookup x = some .local)
    (hsw : swapsWith (.ListComp elt [⟨t, i, [c], 0⟩] scope pos) (some (.Name x py)) spos.line X.env = pure true) :
    PS X (.Assign [.Name x py] (.ListComp elt [⟨t, i, [c], 0⟩] scope pos) spos) (tAsg (TEv X.K cf (.compIf ow tg it cd el)) (gName n)) := by
  simp only [okBlk, Bool.and_eq_true, decide_eq_true_eq, List.all_eq_true] at hb
  obtain ⟨⟨⟨hbk, nd⟩, htg⟩, hns⟩ := hb
  have bk : BlkOk X.N X.env.scope scope (ownN N ow) := by rw [g.names, g.sc]; exact blkOk_by hbk
  have h := ps_setLc (g := TGv X.K tg) (te := TEv X.K cf el) (tt := TTv X.K cf cd) g.calm g.nd hx hl hsw hi bk (fun s H C cl fp => tg_ok g.blk Stores.blk tg t ht) (fun s H C cl fp => pts_one (hc s H C cl fp)) he (set_iter hns X.env)
  refine ⟨fun pins s σ H D I q => h.run pins s σ H D I ?_⟩
  rw [ownN_snd]
  exact compIf_read nd htg q
end
end NV

set_option Elab.async false
set_option linter.all false
set_option maxRecDepth 100000
set_option maxHeartbeats 8000000
/-! Every expression of the small language is what it comes to. -/
namespace NV
open PySem PySem.Spec L2
section
variable (T : List FnR) (fu k : Nat) (N : List Str)
mutual
theorem okE : ∀ (e : E) (X : Cx) (sc : Scope) (ex : Expr), Good X N sc → Calls X T fu k → mE T N sc e ex = true → OkE X (run T fu k) e ex
  | .q q, X, sc, ex, g, c, h => by
    have h : mQ N sc q ex = true := by cases ex <;> exact h
    refine .cmp (PE_imp (q_ok g q ex h) fun σ H Z ⟨ρ, F, d, ρ', r, u, e, kk⟩ => ?_) (PT_imp (q_test g q ex h) fun σ H Z ⟨ρ, F, b, ρ', r, u, e, kk⟩ => ?_) (mQ_nobool h)
    · obtain ⟨d', e1, e2⟩ := Option.bind_eq_some_iff.mp (show (pk q ρ).bind _ = some (d, ρ') from by simpa only [ev] using e)
      obtain ⟨hm, e3⟩ := guard_eq e2
      cases e3
      refine ⟨ρ, F, d, r, e1, fun v H' ext ⟨G, rv⟩ => ?_⟩
      have e0 := Rep.imm0 64 _ _ _ hm rv
      subst e0
      exact kk v H' [] F (r.grow ext) rv u (Step.ext ext fun a => .inl (Nat.le_refl _))
    · obtain ⟨d', e1, e2⟩ := Option.bind_eq_some_iff.mp (show (pk q ρ).bind _ = some (Val.bl b, ρ') from by simpa only [ev] using e)
      obtain ⟨hm, e3⟩ := guard_eq e2
      cases e3
      exact ⟨ρ, F, b, r, e1, fun H' ext => kk H' F (r.grow ext) u (Step.ext ext fun a => .inl (Nat.le_refl _))⟩
  | .mv i, X, sc, ex, g, c, h => by
    have h : mV N sc i ex = true := by cases ex <;> exact h
    refine .plain (PE_imp (pe_slot g h) fun σ H Z ⟨ρ, F, d, ρ', r, u, e, kk⟩ => ?_) (by cases ex <;> first | rfl | (simp [mV] at h))
    obtain ⟨d', e1, e2⟩ := Option.map_eq_some_iff.mp (show (Env.get ρ i).map _ = some (d, ρ') from by simpa only [ev] using e)
    cases e2
    obtain ⟨v, F1, F2, h1, h2, h3, h4⟩ := r.take e1
    exact ⟨v, h1, kk v H F1 F2 h3 h2 (u.to fun a => by rw [cnt_app, h4 a]; omega) (Step.refl.to fun a => by rw [cnt_app, h4 a]; omega)⟩
  | .p1 p a, X, sc, ex, g, c, h => by
    have h : (match m1 sc p ex with | some a' => p != .not_ && mOp T N sc a a' | none => false) = true := by cases ex <;> exact h
    split at h
    · rename_i a' e1
      rw [Bool.and_eq_true] at h
      refine .plain (PE_imp (p1_ok g p ex a' _ e1 (okOp a X sc a' g c h.2)) fun σ H Z ⟨ρ, F, d, ρ', r, u, e, kk⟩ => ?_) (m1_plain e1 (by simpa using h.1))
      obtain ⟨⟨o, ρ1⟩, e2, e3⟩ := Option.bind_eq_some_iff.mp (show (evOp (run T fu k) a ρ).bind _ = some (d, ρ') from by simpa only [ev] using e)
      obtain ⟨x, e4, e5⟩ := Option.bind_eq_some_iff.mp e3
      obtain ⟨d', e6, e7⟩ := Option.bind_eq_some_iff.mp e5
      obtain ⟨ho, e8⟩ := guard_eq e7
      cases e8
      refine ⟨ρ, F, o, ρ1, r, u, e2, fun v H' Fd F' r' op u' s' _ => ⟨x, d, op.now e4 r', e6, fun v2 H2 p2 => ?_⟩⟩
      obtain ⟨Fe, q1, q2, q3, q4⟩ := p2.close ho r' u'.right s'.less
      exact kk v2 H2 Fe F' q1 q2 q3 q4
    · cases h
  | .p2 p a b, X, sc, ex, g, c, h => by
    have h : (match m2 sc p ex with | some (a', b') => mOp T N sc a a' && mOp T N sc b b' | none => false) = true := by cases ex <;> exact h
    split at h
    · rename_i a' b' e1
      rw [Bool.and_eq_true] at h
      have go : ∀ (σ : L2.St) (H : Hp) (Z : VK), TEv X.K (run T fu k) (.p2 p a b) σ H Z → TOp X.K (run T fu k) a σ H fun x H1 => TOp X.K (run T fu k) b σ H1 fun y H2 => R2' X.K p x y H2 Z := fun σ H Z ⟨ρ, F, d, ρ', r, u, e, kk⟩ => by
        obtain ⟨⟨o, ρ1⟩, e2, e3⟩ := Option.bind_eq_some_iff.mp (show (evOp (run T fu k) a ρ).bind _ = some (d, ρ') from by simpa only [ev] using e)
        obtain ⟨⟨o2, ρ2⟩, e4, e5⟩ := Option.bind_eq_some_iff.mp e3
        obtain ⟨hb, e6⟩ := guard3 e5
        obtain ⟨x, e7, e8⟩ := Option.bind_eq_some_iff.mp e6
        obtain ⟨y, e9, e10⟩ := Option.bind_eq_some_iff.mp e8
        obtain ⟨d', e11, e12⟩ := Option.bind_eq_some_iff.mp e10
        obtain ⟨ho, e13⟩ := guard_eq e12
        cases e13
        refine ⟨ρ, F, o, ρ1, r, u, e2, fun v H1 Fd F1 r1 op u1 s1 _ => ⟨ρ1, F1, o2, ρ2, r1, u1.right, e4, fun v2 H2 Fd2 F2 r2 op2 u2 s2 ext2 => ?_⟩⟩
        have op1 := op.later u1 s2 ext2 (by simpa using hb)
        refine ⟨x, y, d, op1.now e7 r2, op2.now e9 r2, e11, fun v3 H3 p3 => ?_⟩
        obtain ⟨Fe, q1, q2, q3, q4⟩ := p3.close ho r2 u2.right (s1.less.trans s2.less)
        exact kk v3 H3 Fe F2 q1 q2 q3 q4
      refine .cmp (PE_imp (p2_ok g p ex a' b' _ _ e1 (okOp a X sc a' g c h.1) (okOp b X sc b' g c h.2)) go) (PT_imp (p2_test g p ex a' b' _ _ e1 (okOp a X sc a' g c h.1) (okOp b X sc b' g c h.2)) fun σ H Z ⟨ρ, F, b, ρ', r, u, e, kk⟩ => ?_) (m2_nobool e1)
      exact go σ H (fun v H3 => ∃ b, v = .bl b ∧ Z b H3) ⟨ρ, F, .bl b, ρ', r, u, e, fun v H' Fd F' r' rv u' s' => by
        obtain ⟨rfl, rfl⟩ := boolVal rv
        exact ⟨b, rfl, kk H' F' r' u'.right s'.less⟩⟩
    · cases h
  | .sl a lo hi, X, sc, ex, g, c, h => by
    cases ex with
    | Subscript v s pos =>
      cases s with
      | Slice l hh st p2 =>
        cases st with
        | none =>
          simp only [mE, Bool.and_eq_true] at h
          refine .plain (PE_imp (pe_slice o_sl (okOp a X sc v g c h.1.1) (okOQ g lo l h.1.2) (okOQ g hi hh h.2)) fun σ H Z ⟨ρ, F, d, ρ', r, u, e, kk⟩ => ?_) rfl
          obtain ⟨⟨o, ρ1⟩, e2, e3⟩ := Option.bind_eq_some_iff.mp (show (evOp (run T fu k) a ρ).bind _ = some (d, ρ') from by simpa only [ev] using e)
          obtain ⟨x, e4, e5⟩ := Option.bind_eq_some_iff.mp e3
          obtain ⟨l1, e6, e7⟩ := Option.bind_eq_some_iff.mp e5
          obtain ⟨h1, e8, e9⟩ := Option.bind_eq_some_iff.mp e7
          obtain ⟨d', e10, e11⟩ := Option.bind_eq_some_iff.mp e9
          obtain ⟨ho, e12⟩ := guard_eq e11
          cases e12
          refine ⟨ρ, F, o, ρ1, r, u, e2, fun v H' Fd F' r' op u' s' _ => ⟨ρ1, F', l1, r', e6, fun H2 x2 => ⟨ρ1, F', h1, r'.grow x2, e8, fun H3 x3 => ?_⟩⟩⟩
          have x23 : Ext H' H3 := fun a o h => x3 a o (x2 a o h)
          refine ⟨x, d, (op.now e4 r').grow x23, e10, fun v2 H4 p4 => ?_⟩
          obtain ⟨Fe, q1, q2, q3, q4⟩ := p4.close ho (r'.grow x23) u'.right (s'.less.trans (Step.ext x23 fun a => .inl (Nat.le_refl _)))
          exact kk v2 H4 Fe F' q1 q2 q3 q4
        | some _ => simp [mE] at h
      | _ => simp [mE] at h
    | _ => simp [mE] at h
  | .and_ a b, X, sc, ex, g, c, h => by
    cases ex with
    | BoolOp op vs pos =>
      cases op with
      | Or => simp [mE] at h
      | And =>
        match vs, h with
        | [], h => simp [mE] at h
        | [x], h => simp [mE] at h
        | x :: y :: r, h =>
          simp only [mE, Bool.and_eq_true] at h
          have ia := okE a X sc x g c h.1
          have ib : ∃ ey, OkE X (run T fu k) b ey ∧ (PE X ey (TEv X.K (run T fu k) b) → PE X (.BoolOp .And (y :: r) pos) (TEv X.K (run T fu k) b)) ∧ (tst b = true → PW X (.BoolOp .And (y :: r) pos) (TTv X.K (run T fu k) b)) := by
            match r, h.2 with
            | [], h2 => exact ⟨y, okE b X sc y g c h2, fun q => pe_one q, fun t => pw_and1 ((okE b X sc y g c h2).pt t)⟩
            | z :: r, h2 => exact ⟨.BoolOp .And (y :: z :: r) pos, okE b X sc _ g c h2, fun q => q, fun t => (okE b X sc _ g c h2).pw t _ _ _ rfl⟩
          obtain ⟨ey, ib, pb, wb⟩ := ib
          have test : tst (.and_ a b) = true → PW X (.BoolOp .And (x :: y :: r) pos) (TTv X.K (run T fu k) (.and_ a b)) := fun t => by
            simp only [tst, Bool.and_eq_true] at t
            refine PW_imp (pw_and (ia.pt t.1) (wb t.2)) fun σ H Z ⟨ρ, F, bb, ρ', rr, u, e, kk⟩ => ?_
            obtain ⟨⟨d1, ρ1⟩, e1, e2⟩ := Option.bind_eq_some_iff.mp (show (ev (run T fu k) a ρ).bind _ = some (Val.bl bb, ρ') from by simpa only [ev] using e)
            cases d1 with
            | bl q =>
              cases q with
              | false =>
                cases e2
                exact ⟨ρ, F, false, ρ1, rr, u, e1, fun H' F' r' u' s' => by simp only [Bool.false_eq_true, if_false]; exact kk H' F' r' u' s'⟩
              | true => exact ⟨ρ, F, true, ρ1, rr, u, e1, fun H' F' r' u' s' => by simp only [if_true]; exact ⟨ρ1, F', bb, ρ', r', u', e2, fun H2 F2 r2 u2 s2 => kk H2 F2 r2 u2 (s'.trans s2)⟩⟩
            | _ => cases e2
          refine ⟨PE_imp (pe_and ia.pe (pb ib.pe)) fun σ H Z ⟨ρ, F, d, ρ', rr, u, e, kk⟩ => ?_, fun t => (test t).pt, fun t op vs pos e => by cases e; exact test t⟩
          obtain ⟨⟨d1, ρ1⟩, e1, e2⟩ := Option.bind_eq_some_iff.mp (show (ev (run T fu k) a ρ).bind _ = some (d, ρ') from by simpa only [ev] using e)
          refine ⟨ρ, F, d1, ρ1, rr, u, e1, fun v H' Fd F' r' rv u' s' => ?_⟩
          cases d1 with
          | bl q =>
            obtain ⟨rfl, rfl⟩ := boolVal rv
            refine ⟨q, rfl, ?_⟩
            cases q with
            | false =>
              cases e2
              simp only [Bool.false_eq_true, if_false]
              exact kk _ H' [] F' r' (.bl false) u' s'
            | true =>
              simp only [if_true]
              exact ⟨ρ1, F', d, ρ', r', u'.right, e2, fun v2 H2 Fd2 F2 r2 rv2 u2 s2 => kk v2 H2 Fd2 F2 r2 rv2 u2 (s'.less.trans s2)⟩
          | _ => cases e2
    | _ => simp [mE] at h
  | .or_ a b, X, sc, ex, g, c, h => by
    cases ex with
    | BoolOp op vs pos =>
      cases op with
      | And => simp [mE] at h
      | Or =>
        match vs, h with
        | [], h => simp [mE] at h
        | [x], h => simp [mE] at h
        | x :: y :: r, h =>
          simp only [mE, Bool.and_eq_true] at h
          have ia := okE a X sc x g c h.1
          have ib : ∃ ey, OkE X (run T fu k) b ey ∧ (PE X ey (TEv X.K (run T fu k) b) → PE X (.BoolOp .Or (y :: r) pos) (TEv X.K (run T fu k) b)) ∧ (tst b = true → PW X (.BoolOp .Or (y :: r) pos) (TTv X.K (run T fu k) b)) := by
            match r, h.2 with
            | [], h2 => exact ⟨y, okE b X sc y g c h2, fun q => pe_one q, fun t => pw_or1 ((okE b X sc y g c h2).pt t)⟩
            | z :: r, h2 => exact ⟨.BoolOp .Or (y :: z :: r) pos, okE b X sc _ g c h2, fun q => q, fun t => (okE b X sc _ g c h2).pw t _ _ _ rfl⟩
          obtain ⟨ey, ib, pb, wb⟩ := ib
          have test : tst (.or_ a b) = true → PW X (.BoolOp .Or (x :: y :: r) pos) (TTv X.K (run T fu k) (.or_ a b)) := fun t => by
            simp only [tst, Bool.and_eq_true] at t
            refine PW_imp (pw_or (ia.pt t.1) (wb t.2)) fun σ H Z ⟨ρ, F, bb, ρ', rr, u, e, kk⟩ => ?_
            obtain ⟨⟨d1, ρ1⟩, e1, e2⟩ := Option.bind_eq_some_iff.mp (show (ev (run T fu k) a ρ).bind _ = some (Val.bl bb, ρ') from by simpa only [ev] using e)
            cases d1 with
            | bl q =>
              cases q with
              | true =>
                cases e2
                exact ⟨ρ, F, true, ρ1, rr, u, e1, fun H' F' r' u' s' => by simp only [if_true]; exact kk H' F' r' u' s'⟩
              | false => exact ⟨ρ, F, false, ρ1, rr, u, e1, fun H' F' r' u' s' => by simp only [Bool.false_eq_true, if_false]; exact ⟨ρ1, F', bb, ρ', r', u', e2, fun H2 F2 r2 u2 s2 => kk H2 F2 r2 u2 (s'.trans s2)⟩⟩
            | _ => cases e2
          refine ⟨PE_imp (pe_or ia.pe (pb ib.pe)) fun σ H Z ⟨ρ, F, d, ρ', rr, u, e, kk⟩ => ?_, fun t => (test t).pt, fun t op vs pos e => by cases e; exact test t⟩
          obtain ⟨⟨d1, ρ1⟩, e1, e2⟩ := Option.bind_eq_some_iff.mp (show (ev (run T fu k) a ρ).bind _ = some (d, ρ') from by simpa only [ev] using e)
          refine ⟨ρ, F, d1, ρ1, rr, u, e1, fun v H' Fd F' r' rv u' s' => ?_⟩
          cases d1 with
          | bl q =>
            obtain ⟨rfl, rfl⟩ := boolVal rv
            refine ⟨q, rfl, ?_⟩
            cases q with
            | true =>
              cases e2
              simp only [if_true]
              exact kk _ H' [] F' r' (.bl true) u' s'
            | false =>
              simp only [Bool.false_eq_true, if_false]
              exact ⟨ρ1, F', d, ρ', r', u'.right, e2, fun v2 H2 Fd2 F2 r2 rv2 u2 s2 => kk v2 H2 Fd2 F2 r2 rv2 u2 (s'.less.trans s2)⟩
          | _ => cases e2
    | _ => simp [mE] at h
  | .ite_ t a b, X, sc, ex, g, c, h => by
    cases ex with
    | IfExp t' a' b' pos =>
      simp only [mE, Bool.and_eq_true] at h
      obtain ⟨⟨⟨h0, h1⟩, h2⟩, h3⟩ := h
      refine ⟨PE_imp (pe_ifExp ((okE t X sc t' g c h1).pt h0) (okE a X sc a' g c h2).pe (okE b X sc b' g c h3).pe) fun σ H Z ⟨ρ, F, d, ρ', rr, u, e, kk⟩ => ?_, fun q => (nomatch q), fun q => (nomatch q)⟩
      obtain ⟨⟨d1, ρ1⟩, e1, e2⟩ := Option.bind_eq_some_iff.mp (show (ev (run T fu k) t ρ).bind _ = some (d, ρ') from by simpa only [ev] using e)
      cases d1 with
      | bl q =>
        refine ⟨ρ, F, q, ρ1, rr, u, e1, fun H' F' r' u' s' => ?_⟩
        cases q with
        | true =>
          simp only [if_true]
          exact ⟨ρ1, F', d, ρ', r', u', e2, fun v2 H2 Fd2 F2 r2 rv2 u2 s2 => kk v2 H2 Fd2 F2 r2 rv2 u2 (s'.trans s2)⟩
        | false =>
          simp only [Bool.false_eq_true, if_false]
          exact ⟨ρ1, F', d, ρ', r', u', e2, fun v2 H2 Fd2 F2 r2 rv2 u2 s2 => kk v2 H2 Fd2 F2 r2 rv2 u2 (s'.trans s2)⟩
      | _ => cases e2
    | _ => simp [mE] at h
  | .not_ a, X, sc, ex, g, c, h => by
    cases ex with
    | UnaryOp op x pos =>
      cases op with
      | Not =>
        have h : mE T N sc a x = true := h
        have ia := okE a X sc x g c h
        refine ⟨PE_imp (pe_not ia.pe) fun σ H Z ⟨ρ, F, d, ρ', rr, u, e, kk⟩ => ?_, fun t => PT_imp (pt_not (ia.pt t)) fun σ H Z ⟨ρ, F, bb, ρ', rr, u, e, kk⟩ => ?_, fun _ op vs pos e => nomatch e⟩
        · obtain ⟨⟨d1, ρ1⟩, e1, e2⟩ := Option.bind_eq_some_iff.mp (show (ev (run T fu k) a ρ).bind _ = some (d, ρ') from by simpa only [ev] using e)
          refine ⟨ρ, F, d1, ρ1, rr, u, e1, fun v H' Fd F' r' rv u' s' => ?_⟩
          cases d1 with
          | bl q =>
            cases e2
            obtain ⟨rfl, rfl⟩ := boolVal rv
            exact ⟨q, rfl, kk _ H' [] F' r' (.bl _) u' s'⟩
          | _ => cases e2
        · obtain ⟨⟨d1, ρ1⟩, e1, e2⟩ := Option.bind_eq_some_iff.mp (show (ev (run T fu k) a ρ).bind _ = some (Val.bl bb, ρ') from by simpa only [ev] using e)
          cases d1 with
          | bl q =>
            cases e2
            exact ⟨ρ, F, q, ρ1, rr, u, e1, fun H' F' r' u' s' => kk H' F' r' u' s'⟩
          | _ => cases e2
      | _ => simp [mE] at h
    | _ => simp [mE] at h
  | .chain p r a b z, X, sc, ex, g, c, h => by
    cases ex with
    | Compare x ops xs pos =>
      match ops, xs, h with
      | [o1, o2], [y, w], h =>
        simp only [mE, Bool.and_eq_true, beq_iff_eq] at h
        obtain ⟨⟨⟨⟨h1, h2⟩, h3⟩, h4⟩, h5⟩ := h
        have lm : lastMarks [o1, o2] [y, w] = false := by
          show behindInMarks o2 w = false
          exact opC_mark h2 w
        have go : ∀ (σ : L2.St) (H : Hp) (Z : VK), TEv X.K (run T fu k) (.chain p r a b z) σ H Z → tChain (R2' X.K p) (R2' X.K r) (TQ X.K a) (TQ X.K b) (TQ X.K z) σ H Z := fun σ H Z ⟨ρ, F, d, ρ', rr, u, e, kk⟩ => by
          obtain ⟨vx, e1, e2⟩ := Option.bind_eq_some_iff.mp (show (pk a ρ).bind _ = some (d, ρ') from by simpa only [ev] using e)
          obtain ⟨vy, e3, e4⟩ := Option.bind_eq_some_iff.mp e2
          obtain ⟨d1, e5, e6⟩ := Option.bind_eq_some_iff.mp e4
          refine ⟨ρ, F, vx, rr, e1, fun x1 H1 ext1 vv1 => ⟨ρ, F, vy, rr.grow ext1, e3, fun y1 H2 ext2 vv2 => ⟨vx, vy, d1, vv1.grow ext2, vv2, e5, fun v3 H3 ⟨g3, F3, r3, _⟩ => ?_⟩⟩⟩
          have ext3 : Ext H H3 := fun a o h => g3 a o (ext2 a o (ext1 a o h))
          cases d1 with
          | bl q =>
            refine ⟨q, vw_bl ⟨F3, r3⟩, ?_⟩
            cases q with
            | false =>
              cases e6
              simp only [Bool.false_eq_true, if_false]
              exact kk _ H3 [] F (rr.grow ext3) (.bl false) u (Step.ext ext3 fun a => .inl (Nat.le_refl _))
            | true =>
              simp only [if_true]
              obtain ⟨vz, e7, e8⟩ := Option.bind_eq_some_iff.mp e6
              obtain ⟨d2, e9, e10⟩ := Option.bind_eq_some_iff.mp e8
              refine ⟨ρ, F, vz, rr.grow ext3, e7, fun z1 H4 ext4 vv4 => ⟨vy, vz, d2, vv2.grow fun a o h => ext4 a o (g3 a o h), vv4, e9, fun v5 H5 ⟨g5, F5, r5, _⟩ => ?_⟩⟩
              have ext5 : Ext H H5 := fun a o h => g5 a o (ext4 a o (ext3 a o h))
              cases d2 with
              | bl q2 =>
                cases e10
                have e0 := vw_bl ⟨F5, r5⟩
                subst e0
                exact kk _ H5 [] F (rr.grow ext5) (.bl q2) u (Step.ext ext5 fun a => .inl (Nat.le_refl _))
              | _ => cases e10
          | _ => cases e6
        refine .cmp (PE_imp (pe_chain (o_cmp g h1) (o_cmp g h2) (q_ok g a x h3) (q_ok g b y h4) (q_ok g z w h5) lm) go) (PT_imp (pt_chain (o_cmp g h1) (o_cmp g h2) (q_ok g a x h3) (q_ok g b y h4) (q_ok g z w h5) lm) fun σ H Z ⟨ρ, F, bb, ρ', rr, u, e, kk⟩ => ?_) (fun _ _ _ q => nomatch q)
        exact go σ H (fun v H3 => ∃ q, v = .bl q ∧ Z q H3) ⟨ρ, F, .bl bb, ρ', rr, u, e, fun v H' Fd F' r' rv u' s' => by
          obtain ⟨rfl, rfl⟩ := boolVal rv
          exact ⟨bb, rfl, kk H' F' r' u'.right s'.less⟩⟩
      | [], _, h => simp [mE] at h
      | [_], _, h => simp [mE] at h
      | _ :: _ :: _ :: _, _, h => simp [mE] at h
      | [_, _], [], h => simp [mE] at h
      | [_, _], [_], h => simp [mE] at h
      | [_, _], _ :: _ :: _ :: _, h => simp [mE] at h
    | _ => simp [mE] at h
  | .tup es, X, sc, ex, g, c, h => by
    cases ex with
    | Tuple l x1 pos =>
      simp only [mE, Bool.and_eq_true, decide_eq_true_eq] at h
      refine .plain (PE_imp (pe_tup (okEs es X sc l g c h.2)) fun σ H Z ⟨ρ, F, d, ρ', rr, u, e, kk⟩ => ?_) rfl
      obtain ⟨⟨ds, ρ1⟩, e1, e2⟩ := Option.map_eq_some_iff.mp (show (evEs (run T fu k) es ρ).map _ = some (d, ρ') from by simpa only [ev] using e)
      cases e2
      have hl := mEs_len h.2
      have hl2 := evEs_len e1
      refine ⟨ρ, F, ds, ρ1, rr, u, e1, fun vs H' Fd F' r' ra u' s' => ⟨by rw [← ra.len, sizeLine_eq]; omega, fun p hp => ?_⟩⟩
      have gr := upd_grow (o := .tup vs) hp
      exact kk _ _ Fd F' (r'.grow gr) (.tup (.of upd_same) (ra.growR gr)) u' (s'.trans (Step.ext gr fun a => .inl (Nat.le_refl _)))
    | _ => simp [mE] at h
  | .rw es, X, sc, ex, g, c, h => by
    cases ex with
    | Tuple l x1 pos =>
      simp only [mE, Bool.and_eq_true, decide_eq_true_eq] at h
      refine .plain (PE_imp (pe_row (okEs es X sc l g c h.2)) fun σ H Z ⟨ρ, F, d, ρ', rr, u, e, kk⟩ => ?_) rfl
      obtain ⟨⟨ds, ρ1⟩, e1, e2⟩ := Option.map_eq_some_iff.mp (show (evEs (run T fu k) es ρ).map _ = some (d, ρ') from by simpa only [ev] using e)
      cases e2
      have hl := mEs_len h.2
      have hl2 := evEs_len e1
      refine ⟨ρ, F, ds, ρ1, rr, u, e1, fun vs H' Fd F' r' ra u' s' => ⟨by rw [← ra.len, sizeLine_eq]; omega, fun p o hp hc hd => ?_⟩⟩
      have gr := upd_grow (o := .frz o (.tup vs)) hp
      exact kk _ _ Fd F' (r'.grow gr) (.row ⟨o, upd_same, hc, hd⟩ (ra.growR gr)) u' (s'.trans (Step.ext gr fun a => .inl (Nat.le_refl _)))
    | _ => simp [mE] at h
  | .index a b, X, sc, ex, g, c, h => by
    cases ex with
    | Call fn l kw pos =>
      cases fn with
      | Attribute o m apos =>
        match l, kw, h with
          | [], _, h => simp [mE] at h
          | _ :: _ :: _, _, h => simp [mE] at h
          | [_], _ :: _, h => simp [mE] at h
          | [x], [], h =>
            simp only [mE, Bool.and_eq_true, beq_iff_eq] at h
            obtain ⟨⟨⟨⟨⟨rfl, h1⟩, h2⟩, h7⟩, h8⟩, h9⟩ := h
            have hb : attributeBase o "index" X.env (eval o X.env) = eval o X.env := by cases o <;> first | rfl | (simp [plainO] at h9)
            refine .plain (PE_imp (pe_im F.plainAttrs_tuple F.slot_tuple_index F.type_tuple_index (mt_indexT (by have := g.hu; omega)) F.plainAttrs_list F.slot_list_index F.type_list_index (mt_indexD (by have := g.hu; omega)) (q_ok g a o h1) (pa_cons (q_ok g b x h7) pa_nil (nst_star h8 _ _)) hb (by rw [nst_star h8]; rfl) (by rw [h2]; simp) (nst_star h8 _ _)) fun σ H Z ⟨ρ, F, d, ρ', rr, u, e, kk⟩ => ?_) rfl
            obtain ⟨d1, e1, e2⟩ := Option.bind_eq_some_iff.mp (show (pk a ρ).bind _ = some (d, ρ') from by simpa only [ev] using e)
            obtain ⟨d2, e3, e4⟩ := Option.bind_eq_some_iff.mp e2
            obtain ⟨d3, e5, e6⟩ := Option.map_eq_some_iff.mp e4
            cases e6
            refine ⟨ρ, F, d1, rr, e1, fun v1 H1 s1 ⟨G1, w1⟩ => ?_⟩
            have fin : ∀ (ds : List Val) (v2 : V) (H2 : Hp), Ext H1 H2 → vw X.K H2 d2 v2 → shp 60 d2 = true → ds.all (shp 60) = true → (ds.findIdx? fun z => veq z d2).map (fun j => Val.int (j : Nat)) = some d →
                ∃ (j : Nat) (z : PyData), (toPyL ds)[j]? = some z ∧ PyData.eqv z (toPy d2) = true ∧ (∀ (m : Nat) (z' : PyData), m < j → (toPyL ds)[m]? = some z' → PyData.eqv z' (toPy d2) = false) ∧ Z (.int (j : Nat)) H2 := by
              intro ds v2 H2 s2 ⟨G2, w2⟩ hs hall hj
              obtain ⟨j, q1, q2⟩ := Option.map_eq_some_iff.mp hj
              subst q2
              obtain ⟨hlt, q3, q4⟩ := List.findIdx?_eq_some_iff_getElem.mp q1
              have ha : ∀ (i : Nat) (hi : i < ds.length), shp 60 ds[i] = true := fun i hi => List.all_eq_true.mp hall _ (List.getElem_mem hi)
              have at_ : ∀ (i : Nat) (hi : i < ds.length), (toPyL ds)[i]? = some (toPy ds[i]) := fun i hi => by rw [toPyL_map, List.getElem?_map, List.getElem?_eq_getElem hi]; rfl
              have gr : Ext H H2 := fun a o q => s2 a o (s1 a o q)
              refine ⟨j, toPy ds[j], at_ j hlt, by rw [eqv_veq 60 _ _ (ha j hlt) hs]; exact q3, fun m z' hm hz => ?_, kk _ _ [] F (rr.grow gr) (.int _) u (Step.ext gr fun _ => .inl (Nat.le_refl _))⟩
              have hml : m < ds.length := by omega
              rw [at_ m hml] at hz
              cases hz
              rw [eqv_veq 60 _ _ (ha m hml) hs]
              have := q4 m hm
              simpa using this
            cases w1 with
            | @row a1 vs ds G1 hr hp =>
              obtain ⟨hh, e7⟩ := guard2 (show (if (shp 60 d2 && shp 60 (.row ds)) = true then (ds.findIdx? fun z => veq z d2).map (fun j => Val.int (j : Nat)) else none) = some d from e5)
              rw [Bool.and_eq_true] at hh
              have hall : ds.all (shp 60) = true := by
                have := hh.2
                simp only [shp, List.all_eq_true] at this ⊢
                exact fun z hz => shp_up 59 z (this z hz)
              refine .inl ⟨⟨a1, vs, rfl, hr⟩, ρ, F, d2, rr.grow s1, e3, fun v2 H2 s2 w2 => ?_⟩
              obtain ⟨j, z, q1, q2, q3, q4⟩ := fin ds v2 H2 s2 w2 hh.1 hall e7
              obtain ⟨G2, w2⟩ := w2
              exact ⟨a1, v2, toPy d2, toPyL ds, j, z, rfl, rfl, rep_dp 60 _ _ _ hh.2 ((Rep.row hr hp).grow s2), rep_dp 60 _ _ _ hh.1 w2, shp_shaped hh.2, shp_shaped hh.1, q1, q2, q3, q4⟩
            | @lst a1 vs ds G1 hr hp =>
              obtain ⟨hh, e7⟩ := guard2 (show (if (shp 60 d2 && shp 60 (.lst ds)) = true then (ds.findIdx? fun z => veq z d2).map (fun j => Val.int (j : Nat)) else none) = some d from e5)
              rw [Bool.and_eq_true] at hh
              have hall : ds.all (shp 60) = true := by
                have := hh.2
                simp only [shp, List.all_eq_true] at this ⊢
                exact fun z hz => shp_up 59 z (this z hz)
              refine .inr ⟨.inl ⟨rfl, _, .of hr⟩, ρ, F, d2, rr.grow s1, e3, fun v2 H2 s2 w2 => ?_⟩
              obtain ⟨j, z, q1, q2, q3, q4⟩ := fin ds v2 H2 s2 w2 hh.1 hall e7
              obtain ⟨G2, w2⟩ := w2
              exact ⟨a1, v2, toPy d2, toPyL ds, j, z, rfl, rfl, rep_dp 60 _ _ _ hh.2 ((Rep.lst hr hp).grow s2), rep_dp 60 _ _ _ hh.1 w2, shp_shaped hh.2, shp_shaped hh.1, q1, q2, q3, q4⟩
            | _ => cases e5
      | _ => simp [mE] at h
    | _ => simp [mE] at h
  | .lst es, X, sc, ex, g, c, h => by
    cases ex with
    | List l pos =>
      simp only [mE, Bool.and_eq_true, decide_eq_true_eq] at h
      refine .plain (PE_imp (pe_lst (okEs es X sc l g c h.2)) fun σ H Z ⟨ρ, F, d, ρ', rr, u, e, kk⟩ => ?_) rfl
      obtain ⟨⟨ds, ρ1⟩, e1, e2⟩ := Option.map_eq_some_iff.mp (show (evEs (run T fu k) es ρ).map _ = some (d, ρ') from by simpa only [ev] using e)
      cases e2
      have hl := mEs_len h.2
      have hl2 := evEs_len e1
      refine ⟨ρ, F, ds, ρ1, rr, u, e1, fun vs H' Fd F' r' ra u' s' => ⟨by rw [← ra.len, sizeLine_eq]; omega, fun p hp => ?_⟩⟩
      have gr := upd_grow (o := .lst vs) hp
      have c0 : (Fd ++ F').count p = 0 := List.count_eq_zero.mpr fun hm => by
        rcases List.mem_append.mp hm with q | q
        · exact ra.some p q hp
        · exact r'.some p q hp
      refine kk _ _ (p :: Fd) F' (r'.grow gr) (.lst upd_same (ra.growR gr)) (fun a => ?_) (s'.trans (Step.ext gr fun a => ?_))
      · have := u' a
        rw [List.cons_append, cnt_cons]
        split
        · rename_i q; subst q; omega
        · omega
      · rw [List.cons_append, cnt_cons]
        by_cases q : p = a
        · subst q; exact .inr hp
        · rw [if_neg q]; exact .inl (by omega)
    | _ => simp [mE] at h
  | .call f as, X, sc, ex, g, c, h => by
    cases ex with
    | Call fn l kw pos =>
      cases fn with
      | Name x p =>
        cases kw with
        | nil =>
          simp only [mE, Bool.and_eq_true] at h
          obtain ⟨⟨⟨h1, h2⟩, h3⟩, h4⟩ := h
          split at h1
          · rename_i r e0
            have hx : r.name = x := by simpa using h1
            obtain ⟨a, fd, G, hm, hk, hb⟩ := c.fns f r e0
            rw [hx] at hm
            have hdb : (x == ("__debug__" : Str)) = false := by simp only [plainN, Bool.and_eq_true, Bool.not_eq_true'] at h3; exact h3.1
            have hA := okAs as X sc l g c h4
            have hns := mAs_nst h4
            have go : ∀ (σ : L2.St) (H : Hp) (Z : VK), TEv X.K (run T fu k) (.call f as) σ H Z → TAs X.K (run T fu k) as σ H fun vs H1 => spF X.K T fu k f (vs ++ []) H1 Z E0 := fun σ H Z ⟨ρ, F, d, ρ', rr, u, e, kk⟩ => by
              obtain ⟨⟨r0, ρ1⟩, e1, e2⟩ := Option.bind_eq_some_iff.mp (show (evAs (run T fu k) as ρ).bind _ = some (d, ρ') from by simpa only [ev] using e)
              obtain ⟨⟨d1, os⟩, e3, e4⟩ := Option.map_eq_some_iff.mp e2
              cases e4
              refine ⟨ρ, F, r0, ρ1, rr, u, e1, fun vs H1 Fd F1 r1 ra wb u1 s1 => ?_⟩
              show spF X.K T fu k f (vs ++ []) H1 Z E0
              rw [List.append_nil]
              refine ⟨_, Fd, d1, os, ra, u1.left, e3, fun v H2 Fr Fo rv ro u2 s2 => ?_⟩
              have r2 := r1.step s2 fun a ha => by have := u1 a; have := cnt_mem ha; rw [cnt_app] at *; omega
              obtain ⟨F3, r3, c3⟩ := wback_rep r2 wb ro
              have u3 : Uni (F1 ++ (Fr ++ Fo)) := Uni.step (H := H1) (H' := H2) (F := Fd) (u1.to fun a => by rw [cnt_app, cnt_app]; omega) r1.some s2 u2
              refine kk v H2 Fr F3 r3 rv (u3.to fun a => by have := c3 a; simp only [cnt_app]; omega) ?_
              have s3 := s1.trans ((s2.frame F1).le (G := Fd ++ F1) (G' := Fr ++ F3) (fun a => by simp only [cnt_app]; omega) fun a => by have := c3 a; simp only [cnt_app]; omega)
              exact s3
            cases l with
            | nil =>
              cases as with
              | nil => exact .plain (PE_imp (pe_call0 G c.room (g.gl h2) hm hk hb .nil pass0 hdb) fun σ H Z q => by
                  obtain ⟨ρ, F, r0, ρ1, rr, u, e1, kk⟩ := go σ H Z q
                  cases e1
                  exact kk [] H [] F rr .nil trivial u .refl) rfl
              | v _ _ => simp [mAs] at h4
              | e _ _ => simp [mAs] at h4
            | cons y ys =>
              have hn : nst y = true ∧ ys.all nst = true := by simpa using hns
              exact .plain (PE_imp (pe_call G c.room (g.gl h2) hm hk hb .nil pass0 hA hdb (nst_star hn.1 _ _) (no_star hn.2)) go) rfl
          · cases h1
        | cons _ _ => simp [mE] at h
      | _ => simp [mE] at h
    | _ => simp [mE] at h
  | .pop i, X, sc, ex, g, c, h => by
    cases ex with
    | Call fn l kw pos =>
      cases fn with
      | Attribute o m apos =>
        cases l with
        | nil =>
          cases kw with
          | nil =>
            simp only [mE, Bool.and_eq_true, beq_iff_eq] at h
            obtain ⟨⟨rfl, h1⟩, h2⟩ := h
            have hb : attributeBase o "pop" X.env (eval o X.env) = eval o X.env := by cases o <;> first | rfl | (simp [mV] at h1)
            refine .plain (PE_imp (pe_bm0 F.plainAttrs_list F.slot_list_pop F.type_list_pop mt_pop (pe_slot g h1) hb (by rw [h2]; simp)) fun σ H Z ⟨ρ, F, d, ρ', rr, u, e, kk⟩ => ?_) rfl
            obtain ⟨d1, e1, e2⟩ := Option.bind_eq_some_iff.mp (show (Env.get ρ i).bind _ = some (d, ρ') from by simpa only [ev] using e)
            cases d1 with
            | lst ds =>
              obtain ⟨z, e3, e4⟩ := Option.map_eq_some_iff.mp e2
              cases e4
              obtain ⟨v, F1, F2, h3, h4, h5, h6⟩ := rr.take e1
              cases h4 with
              | @lst a vs ds F1 hs ha =>
                obtain ⟨y, G1, G2, q1, q2, q3, q4⟩ := ha.last e3
                obtain ⟨Fp, w1, w2, w3, w4⟩ := put_list u h5 h3 hs (fun z => z) q3 q2 fun b => by
                  have := q4 b; have := h6 b
                  rw [cnt_cons] at this; omega
                rw [List.set_set] at w1
                exact ⟨.ref a, h3, .inl ⟨rfl, _, .of hs⟩, a, vs, y, rfl, rfl, hs, q1, kk y _ G1 Fp w1 w2 w3 w4⟩
            | _ => cases e2
          | cons _ _ => simp [mE] at h
        | cons _ _ => simp [mE] at h
      | _ => simp [mE] at h
    | _ => simp [mE] at h
  | .min3 a b cc, X, sc, ex, g, c, h => by
    cases ex with
    | Call fn xs kw pos =>
      cases fn with
      | Name f p =>
        match xs, kw, h with
          | [], _, h => simp [mE] at h
          | [_], _, h => simp [mE] at h
          | [_, _], _, h => simp [mE] at h
          | _ :: _ :: _ :: _ :: _, _, h => simp [mE] at h
          | [_, _, _], _ :: _, h => simp [mE] at h
          | [x, y, z], [], h =>
            simp only [mE, Bool.and_eq_true, beq_iff_eq] at h
            obtain ⟨⟨⟨⟨⟨⟨⟨rfl, h1⟩, h2⟩, h3⟩, h4⟩, n1⟩, n2⟩, n3⟩ := h
            refine .plain (PE_imp (pe_callB (cr_min3 g.calm) (g.gl h1) (g.no (by decide)) (by decide +kernel) (pa_cons (q_ok g a x h2) (pa_cons (q_ok g b y h3) (pa_cons (q_ok g cc z h4) pa_nil (nst_star n3 _ _)) (nst_star n2 _ _)) (nst_star n1 _ _)) (he := nst_star n1 _ _) (hpl := by rw [nst_star n2, nst_star n3]; rfl)) fun σ H Z ⟨ρ, F, d, ρ', rr, u, e, kk⟩ => ?_) rfl
            obtain ⟨d1, e1, e2⟩ := Option.bind_eq_some_iff.mp (show (pk a ρ).bind _ = some (d, ρ') from by simpa only [ev] using e)
            obtain ⟨d2, e3, e4⟩ := Option.bind_eq_some_iff.mp e2
            obtain ⟨d3, e5, e6⟩ := Option.bind_eq_some_iff.mp e4
            refine ⟨ρ, F, d1, rr, e1, fun v1 H1 s1 w1 => ⟨ρ, F, d2, rr.grow s1, e3, fun v2 H2 s2 w2 => ⟨ρ, F, d3, (rr.grow s1).grow s2, e5, fun v3 H3 s3 w3 => ?_⟩⟩⟩
            cases d1 with
            | int i =>
              cases d2 with
              | int j =>
                cases d3 with
                | int l =>
                  cases e6
                  obtain ⟨_, r1⟩ := w1
                  obtain ⟨_, r2⟩ := w2
                  obtain ⟨_, r3⟩ := w3
                  cases r1; cases r2; cases r3
                  have gr : Ext H H3 := fun a o h => s3 a o (s2 a o (s1 a o h))
                  exact ⟨i, j, l, rfl, kk _ H3 [] F (rr.grow gr) (.int _) u (Step.ext gr fun b => .inl (by simp))⟩
                | _ => cases e6
              | _ => cases e6
            | _ => cases e6
      | _ => simp [mE] at h
    | _ => simp [mE] at h
  | .lrg l a, X, sc, ex, g, c, h => by
    cases ex with
    | Call fn xs kw pos =>
      cases fn with
      | Name f p =>
        match xs, kw, h with
          | [], _, h => simp [mE] at h
          | _ :: _ :: _, _, h => simp [mE] at h
          | [_], _ :: _, h => simp [mE] at h
          | [y], [], h =>
            cases y with
            | Call fn2 xs2 kw2 pos2 =>
              cases fn2 with
              | Name r p2 =>
                match xs2, kw2, h with
                  | [], _, h => simp [mE] at h
                  | _ :: _ :: _, _, h => simp [mE] at h
                  | [_], _ :: _, h => simp [mE] at h
                  | [x], [], h =>
                    simp only [mE, Bool.and_eq_true, beq_iff_eq] at h
                    obtain ⟨⟨⟨⟨⟨hf, h1⟩, rfl⟩, h2⟩, h3⟩, h4⟩ := h
                    have pr := prg_1 (p := p2) (pos := pos2) (g.gl h2) (g.no (by decide)) (okE a X sc x g c h3).pe (nst_star h4 _ _)
                    have go : ∀ σ H Z, TEv X.K (run T fu k) (.lrg l a) σ H Z → tRg1 (TEv X.K (run T fu k) a) σ H fun i j H1 => RgOk i j ∧ (∀ q, H1 q = none → l = true → Z (.ref q) (upd H1 q (.lst (rgV i j)))) ∧ (l = false → NewR H1 Z (rgV i j)) := by
                      intro σ H Z ⟨ρ, F, d, ρ', rr, u, e, kk⟩
                      obtain ⟨⟨d1, ρ1⟩, e1, e2⟩ := Option.bind_eq_some_iff.mp (show (ev (run T fu k) a ρ).bind _ = some (d, ρ') from by simpa only [ev] using e)
                      refine ⟨ρ, F, d1, ρ1, rr, u, e1, fun v H' Fd F' r' rv u' s' => ?_⟩
                      cases d1 with
                      | int j =>
                        obtain ⟨hj, e3⟩ := guard_eq e2
                        cases e3
                        cases rv
                        have al : ∀ H2, AllP (Rep X.K H2) (rngVals 0 j.toNat) (rgV 0 j) [] := fun H2 => by
                          unfold rngVals rgV
                          rw [Int.sub_zero]
                          generalize List.range j.toNat = ls
                          induction ls with
                          | nil => exact .nil
                          | cons n ls ih => exact AllP.cons (F := []) (G := []) (.int _) ih
                        refine ⟨j, rfl, ⟨by omega, by omega, by omega, by omega, by omega⟩, fun q hq hl => ?_, fun hl q o hq hc hd => ?_⟩
                        · subst hl
                          have gr := upd_grow (o := .lst (rgV 0 j)) hq
                          have c0 : F'.count q = 0 := List.count_eq_zero.mpr fun hm => r'.some q hm hq
                          refine kk _ _ [q] F' (r'.grow gr) (.lst upd_same (al _)) (fun b => ?_) (s'.trans (Step.ext gr fun b => ?_))
                          · have := u' b
                            rw [List.cons_append, List.nil_append, cnt_cons]
                            rw [List.nil_append] at this
                            split
                            · rename_i z; subst z; omega
                            · omega
                          · rw [List.cons_append, List.nil_append, cnt_cons]
                            by_cases z : q = b
                            · subst z; exact .inr hq
                            · rw [if_neg z]; exact .inl (by simp)
                        · subst hl
                          have gr := upd_grow (o := .frz o (.tup (rgV 0 j))) hq
                          exact kk _ _ [] F' (r'.grow gr) (.row ⟨o, upd_same, hc, hd⟩ (al _)) u' (s'.trans (Step.ext gr fun b => .inl (Nat.le_refl _)))
                      | _ => cases e2
                    cases l with
                    | true =>
                      have hf : f = "list" := by simpa using hf
                      subst hf
                      exact .plain (PE_imp (pe_listRg g.calm (g.gl h1) (g.no (by decide)) pr rfl) fun σ H Z q => by
                        obtain ⟨ρ, F, d1, ρ1, rr, u, e1, kk⟩ := go σ H Z q
                        exact ⟨ρ, F, d1, ρ1, rr, u, e1, fun v H' Fd F' r' rv u' s' => by
                          obtain ⟨n, e, ok, z, _⟩ := kk v H' Fd F' r' rv u' s'
                          exact ⟨n, e, ok, fun q hq => z q hq rfl⟩⟩) rfl
                    | false =>
                      have hf : f = "tuple" := by simpa using hf
                      subst hf
                      exact .plain (PE_imp (pe_rowRg g.calm (g.gl h1) (g.no (by decide)) pr rfl) fun σ H Z q => by
                        obtain ⟨ρ, F, d1, ρ1, rr, u, e1, kk⟩ := go σ H Z q
                        exact ⟨ρ, F, d1, ρ1, rr, u, e1, fun v H' Fd F' r' rv u' s' => by
                          obtain ⟨n, e, ok, _, z⟩ := kk v H' Fd F' r' rv u' s'
                          exact ⟨n, e, ok, z rfl⟩⟩) rfl
              | _ => simp [mE] at h
            | _ => simp [mE] at h
      | _ => simp [mE] at h
    | _ => simp [mE] at h
  | .popAt i a, X, sc, ex, g, c, h => by
    cases ex with
    | Call fn l kw pos =>
      cases fn with
      | Attribute o m apos =>
        match l, kw, h with
          | [], _, h => simp [mE] at h
          | _ :: _ :: _, _, h => simp [mE] at h
          | [_], _ :: _, h => simp [mE] at h
          | [x], [], h =>
            simp only [mE, Bool.and_eq_true, beq_iff_eq] at h
            obtain ⟨⟨⟨⟨rfl, h1⟩, h2⟩, h7⟩, h8⟩ := h
            have hb : attributeBase o "pop" X.env (eval o X.env) = eval o X.env := by cases o <;> first | rfl | (simp [mV] at h1)
            refine .plain (PE_imp (pe_bm F.plainAttrs_list F.slot_list_pop F.type_list_pop mt_popAt (pe_slot g h1) (pa_cons (okE a X sc x g c h7).pe pa_nil (nst_star h8 _ _)) hb (by rw [nst_star h8]; rfl) (by rw [h2]; simp) (nst_star h8 _ _)) fun σ H Z ⟨ρ, F, d, ρ', rr, u, e, kk⟩ => ?_) rfl
            obtain ⟨hl, e0⟩ := guard3 (show (if (!isLst (Env.get ρ i)) = true then none else (ev (run T fu k) a ρ).bind _) = some (d, ρ') from by simpa only [ev] using e)
            obtain ⟨⟨d0, ρ1⟩, e0, e5⟩ := Option.bind_eq_some_iff.mp e0
            obtain ⟨d9, h9⟩ : ∃ ds, Env.get ρ i = some (.lst ds) := by
              cases hg : Env.get ρ i with
              | none => rw [hg] at hl; exact absurd rfl hl
              | some d9 => cases d9 <;> first | exact ⟨_, rfl⟩ | (rw [hg] at hl; exact absurd rfl hl)
            obtain ⟨v0, F8, F9, hv0, rv0, _, _⟩ := rr.take h9
            cases rv0 with
            | @lst a0 vs0 ds0 F8 hs0 _ =>
              refine ⟨.ref a0, hv0, .inl ⟨rfl, _, .of hs0⟩, ρ, F, d0, ρ1, rr, u, e0, fun v1 H1 Fd F1 r1 rv1 u1 s1 => ?_⟩
              cases d0 with
              | int j =>
                cases e1 : Env.get ρ1 i with
                | none => rw [e1] at e5; cases e5
                | some d1 =>
                  rw [e1] at e5
                  cases d1 with
                  | lst ds =>
                    obtain ⟨hj, e6⟩ := guard2 e5
                    obtain ⟨n, e7, e8⟩ := Option.bind_eq_some_iff.mp e6
                    obtain ⟨z, e9, e10⟩ := Option.map_eq_some_iff.mp e8
                    cases e10
                    cases rv1
                    obtain ⟨v, G, F2, h3, h4, h5, h6⟩ := r1.take e1
                    rw [hv0] at h3
                    cases h3
                    cases h4 with
                    | @lst _ vs ds G hs ha =>
                      obtain ⟨y, G1, G2, q1, q2, q3, q4⟩ := ha.erase e9
                      obtain ⟨Fp, w1, w2, w3, w4⟩ := put_list u1.right h5 hv0 hs (fun z => z) q3 q2 fun b => by
                        have := q4 b; have := h6 b
                        rw [cnt_cons] at this; omega
                      rw [List.set_set] at w1
                      exact ⟨a0, vs, j, n, y, rfl, rfl, hs, by omega, by omega, by rw [← ha.len]; exact (ixN_seq e7).1, q1, kk y _ G1 Fp w1 w2 w3 (s1.less.trans w4)⟩
                  | _ => cases e5
              | _ => cases e5
      | _ => simp [mE] at h
    | _ => simp [mE] at h
  | .comp ow tg it el, X, sc, ex, g, c, h => by
    cases ex with
    | ListComp elt gens scope pos =>
      match gens, h with
      | [], h => simp [mE] at h
      | _ :: _ :: _, h => simp [mE] at h
      | [⟨t, i, ifs, s⟩], h =>
        cases ifs with
        | cons _ _ => simp [mE] at h
        | nil =>
          simp only [mE, Bool.and_eq_true, beq_iff_eq] at h
          obtain ⟨⟨⟨⟨rfl, h1⟩, h2⟩, h3⟩, h4⟩ := h
          exact .plain (comp_ok g h1 h2 (okIt it X sc t i g c h3) fun s H C cl fp => (okE el _ _ elt g.blk c.blk h4).pe) rfl
    | _ => simp [mE] at h
  | .compIf ow tg it cd el, X, sc, ex, g, c, h => by
    cases ex with
    | ListComp elt gens scope pos =>
      match gens, h with
      | [], h => simp [mE] at h
      | _ :: _ :: _, h => simp [mE] at h
      | [⟨t, i, ifs, s⟩], h =>
        match ifs, h with
        | [], h => simp [mE] at h
        | _ :: _ :: _, h => simp [mE] at h
        | [cc], h =>
          simp only [mE, Bool.and_eq_true, beq_iff_eq] at h
          obtain ⟨⟨⟨⟨⟨⟨rfl, h1⟩, h2⟩, h3⟩, h0⟩, h4⟩, h5⟩ := h
          exact .plain (compIf_ok g h1 h2 (okIt it X sc t i g c h3) (fun s H C cl fp => (okE cd _ _ cc g.blk c.blk h4).pt h0) fun s H C cl fp => (okE el _ _ elt g.blk c.blk h5).pe) rfl
    | _ => simp [mE] at h
theorem okOp : ∀ (a : Op) (X : Cx) (sc : Scope) (ex : Expr), Good X N sc → Calls X T fu k → mOp T N sc a ex = true → PE X ex (TOp X.K (run T fu k) a)
  | .v i, X, sc, ex, g, c, h => PE_imp (pe_slot g (show mV N sc i ex = true from h)) fun σ H Z ⟨ρ, F, r, ρ', rr, u, e, kk⟩ => by
    obtain ⟨e0, d0, e1⟩ : (∃ d, Env.get ρ i = some d) ∧ ρ' = ρ ∧ r = .v i := by
      obtain ⟨d, h1, h2⟩ := Option.map_eq_some_iff.mp (show (Env.get ρ i).map (fun _ => (Opd.v i, ρ)) = some (r, ρ') from by simpa only [evOp] using e)
      cases h2
      exact ⟨⟨d, h1⟩, rfl, rfl⟩
    obtain ⟨d, e0⟩ := e0
    subst d0 e1
    obtain ⟨v, F1, F2, h3, h4, h5, h6⟩ := rr.take e0
    exact ⟨v, h3, kk v H [] F rr ⟨rfl, h3, rfl⟩ u .refl fun _ _ _ h => h⟩
  | .q q, X, sc, ex, g, c, h => PE_imp (q_ok g q ex h) fun σ H Z ⟨ρ, F, r, ρ', rr, u, e, kk⟩ => by
    obtain ⟨x, e1, e2⟩ := Option.map_eq_some_iff.mp (show (pk q ρ).map _ = some (r, ρ') from by simpa only [evOp] using e)
    cases e2
    exact ⟨ρ, F, x, rr, e1, fun v H' ext vv => kk v H' [] F (rr.grow ext) ⟨vv, rfl⟩ u (Step.ext ext fun a => .inl (Nat.le_refl _)) fun _ => ext⟩
  | .e a, X, sc, ex, g, c, h => PE_imp (okE a X sc ex g c h).pe fun σ H Z ⟨ρ, F, r, ρ', rr, u, e, kk⟩ => by
    obtain ⟨⟨x, ρ1⟩, e1, e2⟩ := Option.map_eq_some_iff.mp (show (ev (run T fu k) a ρ).map _ = some (r, ρ') from by simpa only [evOp] using e)
    cases e2
    exact ⟨ρ, F, x, ρ1, rr, u, e1, fun v H' Fd F' r' rv u' s' => kk v H' Fd F' r' rv u' s' fun q => nomatch q⟩
theorem okEs : ∀ (es : Es) (X : Cx) (sc : Scope) (exs : List Expr), Good X N sc → Calls X T fu k → mEs T N sc es exs = true → PA X exs (TEs X.K (run T fu k) es)
  | .nil, X, sc, [], g, c, h => PA_imp pa_nil fun σ H Z ⟨ρ, F, ds, ρ', rr, u, e, kk⟩ => by
    cases e
    exact kk [] H [] F rr .nil u .refl
  | .cons a es, X, sc, x :: xs, g, c, h => by
    simp only [mEs, Bool.and_eq_true] at h
    refine PA_imp (pa_cons (okE a X sc x g c h.1.1).pe (okEs es X sc xs g c h.2) (nst_star h.1.2 _ _)) fun σ H Z ⟨ρ, F, ds, ρ', rr, u, e, kk⟩ => ?_
    obtain ⟨⟨d, ρ1⟩, e1, e2⟩ := Option.bind_eq_some_iff.mp (show (ev (run T fu k) a ρ).bind _ = some (ds, ρ') from by simpa only [evEs] using e)
    obtain ⟨⟨ds', ρ2⟩, e3, e4⟩ := Option.map_eq_some_iff.mp e2
    cases e4
    refine ⟨ρ, F, d, ρ1, rr, u, e1, fun v H1 Fd F1 r1 rv u1 s1 => ⟨ρ1, F1, ds', ρ2, r1, u1.right, e3, fun vs H2 Fe F2 r2 ra u2 s2 => ?_⟩⟩
    have rv2 := rv.step s2 fun a ha => u1.off ha
    refine kk (v :: vs) H2 (Fd ++ Fe) F2 r2 (.cons rv2 ra) ?_ ?_
    · have := Uni.step u1 rv.some s2 u2
      simpa using this
    · have := s1.trans (s2.frame Fd)
      simpa using this
  | .nil, X, sc, _ :: _, g, c, h => by simp [mEs] at h
  | .cons _ _, X, sc, [], g, c, h => by simp [mEs] at h
theorem okAs : ∀ (as : As) (X : Cx) (sc : Scope) (exs : List Expr), Good X N sc → Calls X T fu k → mAs T N sc as exs = true → PA X exs (TAs X.K (run T fu k) as)
  | .nil, X, sc, [], g, c, h => PA_imp pa_nil fun σ H Z ⟨ρ, F, r, ρ', rr, u, e, kk⟩ => by
    cases e
    exact kk [] H [] F rr .nil trivial u .refl
  | .v i as, X, sc, x :: xs, g, c, h => by
    simp only [mAs, Bool.and_eq_true] at h
    refine PA_imp (pa_cons (pe_slot g h.1) (okAs as X sc xs g c h.2) (nst_star (mV_nst h.1) _ _)) fun σ H Z ⟨ρ, F, r, ρ', rr, u, e, kk⟩ => ?_
    obtain ⟨d, e1, e2⟩ := Option.bind_eq_some_iff.mp (show (Env.get ρ i).bind _ = some (r, ρ') from by simpa only [evAs] using e)
    obtain ⟨v, F1, F2, h3, h4, h5, h6⟩ := rr.take e1
    refine ⟨v, h3, ?_⟩
    by_cases hm : imm d = true
    · rw [if_pos hm] at e2
      obtain ⟨⟨r', ρ2⟩, e3, e4⟩ := Option.map_eq_some_iff.mp e2
      cases e4
      have e0 := Rep.imm0 64 _ _ _ hm h4
      subst e0
      refine ⟨ρ, F, r', ρ2, rr, u, e3, fun vs H2 Fd2 F3 r2 ra wb u2 s2 => ?_⟩
      have rv2 := Rep.keep s2.fix _ _ _ h4 fun a ha => by simp at ha
      exact kk (v :: vs) H2 Fd2 F3 r2 (AllP.cons (F := []) rv2 ra) wb u2 s2
    · rw [if_neg hm] at e2
      obtain ⟨⟨r', ρ2⟩, e3, e4⟩ := Option.bind_eq_some_iff.mp e2
      obtain ⟨d2, e5, e6⟩ := Option.map_eq_some_iff.mp e4
      cases e6
      refine ⟨ρ, F, r', ρ2, rr, u, e3, fun vs H2 Fd2 F3 r2 ra wb u2 s2 => ?_⟩
      obtain ⟨v2, G1, G2, q3, q4, q5, q6⟩ := r2.take e5
      rw [h3] at q3
      cases q3
      have cc : ∀ z, ((G1 ++ Fd2) ++ G2).count z ≤ (Fd2 ++ F3).count z := fun z => by
        have := q6 z
        simp only [cnt_app]; omega
      exact kk (v :: vs) H2 (G1 ++ Fd2) G2 q5 (.cons q4 ra) ⟨h3, wb⟩ (u2.to cc) (s2.to cc)
  | .e a as, X, sc, x :: xs, g, c, h => by
    simp only [mAs, Bool.and_eq_true] at h
    refine PA_imp (pa_cons (okE a X sc x g c h.1.1).pe (okAs as X sc xs g c h.2) (nst_star h.1.2 _ _)) fun σ H Z ⟨ρ, F, r, ρ', rr, u, e, kk⟩ => ?_
    obtain ⟨⟨d, ρ1⟩, e1, e2⟩ := Option.bind_eq_some_iff.mp (show (ev (run T fu k) a ρ).bind _ = some (r, ρ') from by simpa only [evAs] using e)
    obtain ⟨⟨r', ρ2⟩, e3, e4⟩ := Option.map_eq_some_iff.mp e2
    cases e4
    refine ⟨ρ, F, d, ρ1, rr, u, e1, fun v H1 Fd F1 r1 rv u1 s1 => ⟨ρ1, F1, r', ρ2, r1, u1.right, e3, fun vs H2 Fe F2 r2 ra wb u2 s2 => ?_⟩⟩
    have rv2 := rv.step s2 fun a ha => u1.off ha
    refine kk (v :: vs) H2 (Fd ++ Fe) F2 r2 (.cons rv2 ra) wb ?_ ?_
    · have := Uni.step u1 rv.some s2 u2
      simpa using this
    · have := s1.trans (s2.frame Fd)
      simpa using this
  | .nil, X, sc, _ :: _, g, c, h => by simp [mAs] at h
  | .v _ _, X, sc, [], g, c, h => by simp [mAs] at h
  | .e _ _, X, sc, [], g, c, h => by simp [mAs] at h
theorem okIt : ∀ (it : It) (X : Cx) (sc : Scope) (t ex : Expr), Good X N sc → Calls X T fu k → mIt T N sc it ex = true → PI X t ex (TIt X.K (run T fu k) it)
  | .rng1 a, X, sc, t, ex, g, c, h => by
    cases ex with
    | Call fn l kw pos =>
      cases fn with
      | Name f p =>
        match l, kw, h with
          | [], _, h => simp [mIt] at h
          | _ :: _ :: _, _, h => simp [mIt] at h
          | [_], _ :: _, h => simp [mIt] at h
          | [x], [], h =>
            simp only [mIt, Bool.and_eq_true, beq_iff_eq] at h
            obtain ⟨⟨⟨rfl, h1⟩, h2⟩, h3⟩ := h
            refine PI_imp (pi_range1 (g.gl h1) (g.no (by decide)) (pa_cons (okE a X sc x g c h2).pe pa_nil (nst_star h3 _ _)) (nst_star h3 _ _)) fun σ H R ⟨ρ, F, w, ρ', rr, u, e, kk⟩ => ?_
            obtain ⟨⟨d, ρ1⟩, e1, e2⟩ := Option.bind_eq_some_iff.mp (show (ev (run T fu k) a ρ).bind _ = some (w, ρ') from by simpa only [evIt] using e)
            refine ⟨ρ, F, d, ρ1, rr, u, e1, fun v H1 Fd F1 r1 rv u1 s1 => ?_⟩
            cases d with
            | int j =>
              obtain ⟨hj, e3⟩ := guard_eq e2
              cases e3
              cases rv
              exact ⟨j, rfl, by omega, by omega, kk _ H1 [] F1 r1 (.rng 0 j.toNat) u1 s1 (fun a ha => by simp at ha) fun i hi => nomatch hi⟩
            | _ => cases e2
      | _ => simp [mIt] at h
    | _ => simp [mIt] at h
  | .rng2 a b, X, sc, t, ex, g, c, h => by
    cases ex with
    | Call fn l kw pos =>
      cases fn with
      | Name f p =>
        match l, kw, h with
          | [], _, h => simp [mIt] at h
          | [_], _, h => simp [mIt] at h
          | _ :: _ :: _ :: _, _, h => simp [mIt] at h
          | [_, _], _ :: _, h => simp [mIt] at h
          | [x, y], [], h =>
            simp only [mIt, Bool.and_eq_true, beq_iff_eq] at h
            obtain ⟨⟨⟨⟨⟨rfl, h1⟩, h2⟩, h3⟩, h4⟩, h5⟩ := h
            refine PI_imp (pi_range2 (g.gl h1) (g.no (by decide)) (pa_cons (okE a X sc x g c h2).pe (pa_cons (okE b X sc y g c h4).pe pa_nil (nst_star h5 _ _)) (nst_star h3 _ _)) (by rw [nst_star h3, nst_star h5]; rfl) (nst_star h5 _ _)) fun σ H R ⟨ρ, F, w, ρ', rr, u, e, kk⟩ => ?_
            obtain ⟨⟨d, ρ1⟩, e1, e2⟩ := Option.bind_eq_some_iff.mp (show (ev (run T fu k) a ρ).bind _ = some (w, ρ') from by simpa only [evIt] using e)
            obtain ⟨⟨d2, ρ2⟩, e3, e4⟩ := Option.bind_eq_some_iff.mp e2
            refine ⟨ρ, F, d, ρ1, rr, u, e1, fun v H1 Fd F1 r1 rv u1 s1 => ⟨ρ1, F1, d2, ρ2, r1, u1.right, e3, fun v2 H2 Fd2 F2 r2 rv2 u2 s2 => ?_⟩⟩
            cases d with
            | int i =>
              cases d2 with
              | int j =>
                obtain ⟨hj, e5⟩ := guard_eq e4
                cases e5
                cases rv
                cases rv2
                exact ⟨i, j, rfl, ⟨by omega, by omega, by omega, by omega⟩, kk _ H2 [] F2 r2 (.rng i (j - i).toNat) u2 (s1.less.trans s2) (fun a ha => by simp at ha) fun i hi => nomatch hi⟩
              | _ => cases e4
            | _ => cases e4
      | _ => simp [mIt] at h
    | _ => simp [mIt] at h
  | .v i, X, sc, t, ex, g, c, h => by
    have h : mV N sc i ex = true := by cases ex <;> exact h
    refine PI_imp (pi_any (pe_slot g h)) fun σ H R ⟨ρ, F, w, ρ', rr, u, e, kk⟩ => ?_
    obtain ⟨d, e1, e2⟩ := Option.bind_eq_some_iff.mp (show (Env.get ρ i).bind _ = some (w, ρ') from by simpa only [evIt] using e)
    obtain ⟨w', e3, e4⟩ := Option.map_eq_some_iff.mp e2
    cases e4
    obtain ⟨v, F1, F2, h3, h4, h5, h6⟩ := rr.take e1
    refine ⟨v, h3, ?_⟩
    cases h4 with
    | @tup a vs ds F1 hs ha =>
      obtain ⟨hm, e5⟩ := guard_eq (show (if immL ds = true then some (⟨ds, none⟩ : Itr) else none) = some w from e3)
      subst e5
      exact ⟨a, rfl, .inr ⟨⟨vs, hs⟩, kk _ H [] F rr (.tup hs (ha.nils (ha.imm0 hm))) u .refl (fun a ha => by simp at ha) fun i hi => nomatch hi⟩⟩
    | @row a vs ds F1 hs ha =>
      obtain ⟨hm, e5⟩ := guard_eq (show (if immL ds = true then some (⟨ds, none⟩ : Itr) else none) = some w from e3)
      subst e5
      exact ⟨a, rfl, .inr ⟨⟨vs, hs.sq⟩, kk _ H [] F rr (.tup hs.sq (ha.nils (ha.imm0 hm))) u .refl (fun a ha => by simp at ha) fun i hi => nomatch hi⟩⟩
    | @lst a vs ds F1 hs ha =>
      obtain ⟨hm, e5⟩ := guard_eq (show (if immL ds = true then some (⟨ds, some (i, .lst ds)⟩ : Itr) else none) = some w from e3)
      subst e5
      exact ⟨a, rfl, .inl ⟨⟨vs, .of hs⟩, kk _ H [] F rr (.own h3 hm) u .refl (fun a ha => by simp at ha) fun j hj => by cases hj; rfl⟩⟩
    | @flst a ns hs =>
      cases e3
      exact ⟨a, rfl, .inl ⟨⟨_, hs.sq⟩, kk _ H [] F rr (.frz hs) u .refl (fun a ha => by simp at ha) fun i hi => nomatch hi⟩⟩
    | _ => cases e3
  | .e a, X, sc, t, ex, g, c, h => by
    have h : mE T N sc a ex = true := by cases ex <;> exact h
    refine PI_imp (pi_any (okE a X sc ex g c h).pe) fun σ H R ⟨ρ, F, w, ρ', rr, u, e, kk⟩ => ?_
    obtain ⟨⟨d, ρ1⟩, e1, e2⟩ := Option.bind_eq_some_iff.mp (show (ev (run T fu k) a ρ).bind _ = some (w, ρ') from by simpa only [evIt] using e)
    obtain ⟨w', e3, e4⟩ := Option.map_eq_some_iff.mp e2
    cases e4
    refine ⟨ρ, F, d, ρ1, rr, u, e1, fun v H1 Fd F1 r1 rv u1 s1 => ?_⟩
    cases rv with
    | @tup a vs ds F1 hs ha =>
      obtain ⟨hm, e5⟩ := guard_eq (show (if immL ds = true then some (⟨ds, none⟩ : Itr) else none) = some w from e3)
      subst e5
      have e0 := ha.imm0 hm
      subst e0
      exact ⟨a, rfl, .inr ⟨⟨vs, hs⟩, kk _ H1 [] _ r1 (.tup hs ha) u1 s1 (fun a ha => by simp at ha) fun i hi => nomatch hi⟩⟩
    | @row a vs ds F1 hs ha =>
      obtain ⟨hm, e5⟩ := guard_eq (show (if immL ds = true then some (⟨ds, none⟩ : Itr) else none) = some w from e3)
      subst e5
      have e0 := ha.imm0 hm
      subst e0
      exact ⟨a, rfl, .inr ⟨⟨vs, hs.sq⟩, kk _ H1 [] _ r1 (.tup hs.sq ha) u1 s1 (fun a ha => by simp at ha) fun i hi => nomatch hi⟩⟩
    | @lst a vs ds F1 hs ha =>
      obtain ⟨hm, e5⟩ := guard_eq (show (if immL ds = true then some (⟨ds, none⟩ : Itr) else none) = some w from e3)
      subst e5
      have e0 := ha.imm0 hm
      subst e0
      have mt : ∀ b ∈ [a], H1 b ≠ none := by
        intro b hb q
        have q2 : b = a := by simpa using hb
        rw [q2, hs] at q
        cases q
      exact ⟨a, rfl, .inl ⟨⟨vs, .of hs⟩, kk _ H1 [a] _ r1 (.tmp hs ha (by simp)) u1 s1 mt fun i hi => nomatch hi⟩⟩
    | @flst a ns hs =>
      cases e3
      exact ⟨a, rfl, .inl ⟨⟨_, hs.sq⟩, kk _ H1 [] _ r1 (.frz hs) u1 s1 (fun a ha => by simp at ha) fun i hi => nomatch hi⟩⟩
    | _ => cases e3
end
end
end NV

set_option Elab.async false
set_option linter.all false
set_option maxRecDepth 100000
set_option maxHeartbeats 8000000
/-! Statements: their texts and readings. -/
namespace NV
open PySem PySem.Spec L2

def noComp : Expr → Bool
  | .ListComp .. => false
  | .SetComp .. => false
  | .DictComp .. => false
  | _ => true
def swNames (sc : Scope) (ts : List Expr) : List Str :=
  let line := (ts.head?.map (·.pos.line)).getD 0
  ts.filterMap fun
    | .Name id pos => if sc.names.lookup id == some .local && pos.line == line then some id else none
    | _ => none
/-- the pair is made, then taken apart -/
def swNo (sc : Scope) (ts vs : List Expr) : Bool :=
  !(ts.length == 2 || ts.length == 3) || vs.length != ts.length || (swNames sc ts).length != ts.length || vs.all (foldedForSure 8)
def okAsg (sc : Scope) : Expr → Expr → Nat → Bool
  | .Name x px, .ListComp _ _ scope p, _ => (sc.names.lookup x == some .local && px.line == p.line && !(scope.names.any fun (n, k) => n == x && (k == .local || k == .cell))) || sc.names.lookup x == some .cell
  | .Name _ _, v, _ => noComp v
  | .Tuple ts _ _, .Tuple vs _ _, _ => swNo sc ts vs
  | .Tuple _ _ _, _, _ => true
  | _, _, _ => false
def opA : P2 → Option Operator
  | .add => some .Add
  | .sub => some .Sub
  | _ => none
def itSlot : It → List Nat
  | .v i => [i]
  | _ => []
def names2 : List Expr → Option (Str × Pos × Str × Pos)
  | [.Tuple [.Name x px, .Name y py] _ _] => some (x, px, y, py)
  | _ => none
def exprs2 : Expr → Option (Expr × Expr)
  | .Tuple [v, w] _ _ => some (v, w)
  | _ => none
def names3 : List Expr → Option (Str × Pos × Str × Pos × Str × Pos)
  | [.Tuple [.Name x px, .Name y py, .Name z pz] _ _] => some (x, px, y, py, z, pz)
  | _ => none
def exprs3 : Expr → Option (Expr × Expr × Expr)
  | .Tuple [v, w, u] _ _ => some (v, w, u)
  | _ => none
section
variable (T : List FnR) (N : List Str)
mutual
def mS : Scope → S → Stmt → Bool
  | sc, .asg tg e, .Assign [t] v pos => mTg N sc tg t && mE T N sc e v && okAsg sc t v pos.line
  | sc, .par2 i j a b, .Assign ts vv _ => match names2 ts, exprs2 vv with
    | some (x, px, y, py), some (v, w) => decide (N[i]? = some x) && decide (N[j]? = some y) && decide (i ≠ j) && sc.names.lookup x == some .local && sc.names.lookup y == some .local && px.line == py.line && x != y &&
      mE T N sc a v && nst v && mE T N sc b w && nst w && !(([v, w] : List Expr).all (foldedForSure 8)) && !(([v, w] : List Expr).all (constantsAlone 8))
    | _, _ => false
  | sc, .par3 i j l a b c, .Assign ts vv _ => match names3 ts, exprs3 vv with
    | some (x, px, y, py, z, pz), some (v, w, u) => decide (N[i]? = some x) && decide (N[j]? = some y) && decide (N[l]? = some z) && decide (i ≠ j) && decide (i ≠ l) && decide (j ≠ l) &&
      sc.names.lookup x == some .local && sc.names.lookup y == some .local && sc.names.lookup z == some .local && px.line == py.line && px.line == pz.line && x != y && x != z && y != z &&
      mE T N sc a v && nst v && mE T N sc b w && nst w && mE T N sc c u && nst u && !(([v, w, u] : List Expr).all (foldedForSure 8)) && !(([v, w, u] : List Expr).all (constantsAlone 8))
    | _, _ => false
  | sc, .sset2 i ix e, .Assign [.Subscript o x _] v _ => mV N sc i o && mE T N sc ix x && mE T N sc e v && noComp v && plainB x
  | sc, .sset i ix e, .Assign [.Subscript o x _] v _ => mV N sc i o && mQ N sc ix x && mE T N sc e v && noComp v && plainB x
  | sc, .aug i p e, .AugAssign t op v _ => mT1 N sc i t && opA p == some op && mE T N sc e v
  | sc, .app i e, .Expr (.Call (.Attribute o m apos) [x] [] cpos) _ => m == "append" && mV N sc i o && apos.endLine == cpos.line && mE T N sc e x && nst x
  | sc, .rev i, .Expr (.Call (.Attribute o m apos) [] [] cpos) _ => m == "reverse" && mV N sc i o && apos.endLine == cpos.line
  | sc, .ex e, .Expr v _ => mE T N sc e v && noComp v
  | sc, .if_ c a b, .If c' a' b' _ => tst c && mE T N sc c c' && mSs sc a a' && mSs sc b b'
  | sc, .for_ tg it b, .For t i body [] _ => mTg N sc tg t && mIt T N sc it i && noSet i && (itSlot it).all (fun i => !(tg.all ++ tgSs b).contains i) && mSs sc b body
  | sc, .while_ c b, .While c' body [] _ => tst c && mE T N sc c c' && mSs sc b body
  | sc, .ret e, .Return (some v) _ => mE T N sc e v
  | _, .retN, .Return none _ => true
  | _, .brk, .Break _ => true
  | _, .cont, .Continue _ => true
  | _, .pass, .Pass _ => true
  | _, _, _ => false
def mSs : Scope → Ss → List Stmt → Bool
  | _, .nil, [] => true
  | sc, .cons s r, x :: xs => mS sc s x && mSs sc r xs
  | _, _, _ => false
end
end

theorem sw_none {v : Expr} (h : noComp v = true) (t : Option Expr) (l : Nat) (env : PySem.Env) : swapsWith v t l env = pure false := by
  cases v <;> first | rfl | (simp [noComp] at h)
theorem sw_tuple (v : Expr) (ts : List Expr) (k : Nat) (p : Pos) (l : Nat) (env : PySem.Env) : swapsWithSole [.Tuple ts k p] v l env = pure false := by
  cases v <;> rfl
theorem st_name (x : Str) (p : Pos) (v : Expr) (env : PySem.Env) : swappedStores [.Name x p] v env = pure none := by
  cases v <;> rfl
theorem st_sub (a b : Expr) (p : Pos) (v : Expr) (env : PySem.Env) : swappedStores [.Subscript a b p] v env = pure none := by
  cases v <;> rfl
theorem kind_fun {env : PySem.Env} (h : env.scope.kind = .function) : env.blockKind = .function := by
  unfold PySem.Env.blockKind
  rw [h]; rfl
theorem st_no {sc : Scope} {env : PySem.Env} (hs : env.scope = sc) {ts vs : List Expr} (h : swNo sc ts vs = true) (k k' : Nat) (p p' : Pos) : swappedStores [.Tuple ts k p] (.Tuple vs k' p') env = pure none := by
  subst hs
  unfold swappedStores
  dsimp only
  split
  · rfl
  rename_i h1
  split
  · rfl
  split
  · rfl
  rename_i h3
  split
  · rfl
  rename_i h4
  have h3' : ¬ ((swNames env.scope ts).length != ts.length || ((swNames env.scope ts).eraseDups.length != (swNames env.scope ts).length)) = true := h3
  exfalso
  simp only [swNo, Bool.or_eq_true, not_or] at h h1 h3'
  rcases h with ((h | h) | h) | h
  · exact h1.1.1 h
  · exact h1.1.2 h
  · exact h3'.1 h
  · exact h4 h
theorem nst_any {vs : List Expr} (h : vs.all nst = true) : (vs.any fun | .Starred .. => true | _ => false) = false := by
  induction vs with
  | nil => rfl
  | cons v vs ih =>
    simp only [List.all_cons, Bool.and_eq_true] at h
    rw [List.any_cons, ih h.2]
    cases v <;> first | rfl | (simp [nst] at h)
theorem st_two {env : PySem.Env} {x y : Str} {px py pt p2 : Pos} {k k2 : Nat} {v w : Expr} (hk : env.scope.kind = .function) (hx : env.scope.names.lookup x = some .local) (hy : env.scope.names.lookup y = some .local) (hp : px.line = py.line) (hne : x ≠ y)
    (hv : nst v = true) (hw : nst w = true) (h1 : (([v, w] : List Expr).all (foldedForSure 8)) = false) (h2 : (([v, w] : List Expr).all (constantsAlone 8)) = false) :
    swappedStores [.Tuple [.Name x px, .Name y py] k pt] (.Tuple [v, w] k2 p2) env = pure (some [x, y]) := by
  have kx : env.kindOf x = some .local := hx
  have ky : env.kindOf y = some .local := hy
  have hf : ([.Name x px, .Name y py] : List Expr).filterMap (fun
    | .Name id pos => if env.kindOf id == some .local && pos.line == px.line then some id else none
    | _ => none) = [x, y] := by
    simp [kx, ky, hp]
  have he : [x, y].eraseDups = [x, y] := by
    simp [List.eraseDups_cons, hne.symm]
  have hb := kind_fun hk
  unfold swappedStores
  dsimp only
  split
  · rename_i h; rw [hb] at h; exact absurd h (by simp)
  split
  · rename_i h; exact absurd (h.symm.trans (nst_any (vs := [v, w]) (by simp [hv, hw]))) (by decide)
  split
  · rename_i h
    have h' : (([x, y] : List Str).length != 2 || ([x, y] : List Str).eraseDups.length != ([x, y] : List Str).length) = true := by
      rw [← hf]; exact h
    rw [he] at h'
    exact absurd h' (by simp)
  split
  · rename_i h; rw [h1] at h; cases h
  split
  · rename_i h; rw [h2] at h; cases h
  · show pure (some _) = pure (some [x, y])
    rw [← hf]; rfl
theorem st_three {env : PySem.Env} {x y z : Str} {px py pz pt p2 : Pos} {k k2 : Nat} {v w u : Expr} (hk : env.scope.kind = .function) (hx : env.scope.names.lookup x = some .local) (hy : env.scope.names.lookup y = some .local) (hz : env.scope.names.lookup z = some .local)
    (hp : px.line = py.line) (hq : px.line = pz.line) (hne : x ≠ y) (hne2 : x ≠ z) (hne3 : y ≠ z) (hv : nst v = true) (hw : nst w = true) (hu : nst u = true) (h1 : (([v, w, u] : List Expr).all (foldedForSure 8)) = false) (h2 : (([v, w, u] : List Expr).all (constantsAlone 8)) = false) :
    swappedStores [.Tuple [.Name x px, .Name y py, .Name z pz] k pt] (.Tuple [v, w, u] k2 p2) env = pure (some [x, y, z]) := by
  have kx : env.kindOf x = some .local := hx
  have ky : env.kindOf y = some .local := hy
  have kz : env.kindOf z = some .local := hz
  have hf : ([.Name x px, .Name y py, .Name z pz] : List Expr).filterMap (fun
    | .Name id pos => if env.kindOf id == some .local && pos.line == px.line then some id else none
    | _ => none) = [x, y, z] := by
    simp [kx, ky, kz, ← hp, ← hq]
  have he : [x, y, z].eraseDups = [x, y, z] := by
    simp [List.eraseDups_cons, hne.symm, hne2.symm, hne3.symm]
  have hb := kind_fun hk
  unfold swappedStores
  dsimp only
  split
  · rename_i h; rw [hb] at h; exact absurd h (by simp)
  split
  · rename_i h; exact absurd (h.symm.trans (nst_any (vs := [v, w, u]) (by simp [hv, hw, hu]))) (by decide)
  split
  · rename_i h
    have h' : (([x, y, z] : List Str).length != 3 || ([x, y, z] : List Str).eraseDups.length != ([x, y, z] : List Str).length) = true := by
      rw [← hf]; exact h
    rw [he] at h'
    exact absurd h' (by simp)
  split
  · rename_i h; rw [h1] at h; cases h
  split
  · rename_i h; rw [h2] at h; cases h
  · show pure (some _) = pure (some [x, y, z])
    rw [← hf]; rfl

/-! ### readings -/
def Keeps (tg : List Nat) (σ σ' : L2.St) : Prop := σ'.length = σ.length ∧ ∀ j, j ∉ tg → σ'[j]? = σ[j]?
theorem Keeps.refl {tg : List Nat} {σ : L2.St} : Keeps tg σ σ := ⟨rfl, fun _ _ => rfl⟩
theorem Keeps.trans {t1 t2 tg : List Nat} {σ σ1 σ2 : L2.St} (a : Keeps t1 σ σ1) (b : Keeps t2 σ1 σ2) (h1 : ∀ j ∈ t1, j ∈ tg) (h2 : ∀ j ∈ t2, j ∈ tg) : Keeps tg σ σ2 :=
  ⟨b.1.trans a.1, fun j hj => (b.2 j fun m => hj (h2 j m)).trans (a.2 j fun m => hj (h1 j m))⟩
theorem Keeps.up {t1 tg : List Nat} {σ σ1 : L2.St} (a : Keeps t1 σ σ1) (h1 : ∀ j ∈ t1, j ∈ tg) : Keeps tg σ σ1 := ⟨a.1, fun j hj => a.2 j fun m => hj (h1 j m)⟩
section
variable (K : PySem.W.Frag) (cf : Nat → List Val → Option (Val × List (Option Val))) (fu : Nat)
/-- what is wanted behind a statement that came to o -/
def FinO (D : Ends) (σ : L2.St) (H : Hp) (F : List Addr) (tg : List Nat) : Out → Prop
  | .nx ρ' => ∀ σ' H' F', RepE K H' ρ' σ' F' → Uni F' → Step H F H' F' → Keeps tg σ σ' → D.nx σ' H'
  | .bk ρ' => ∀ σ' H' F', RepE K H' ρ' σ' F' → Uni F' → Step H F H' F' → Keeps tg σ σ' → D.bk σ' H'
  | .ct ρ' => ∀ σ' H' F', RepE K H' ρ' σ' F' → Uni F' → Step H F H' F' → Keeps tg σ σ' → D.ct σ' H'
  | .rt d ρ' => ∀ v σ' H' Fd F', RepE K H' ρ' σ' F' → Rep K H' d v Fd → Uni (Fd ++ F') → Step H F H' (Fd ++ F') → Keeps tg σ σ' → D.rt v H'
def TSv (s : S) : TS := fun D σ H => ∃ ρ F o, RepE K H ρ σ F ∧ Uni F ∧ exS cf fu s ρ = some o ∧ FinO K D σ H F (tgS s) o
def TSs (s : Ss) : TS := fun D σ H => ∃ ρ F o, RepE K H ρ σ F ∧ Uni F ∧ exSs cf fu s ρ = some o ∧ FinO K D σ H F (tgSs s) o
end
theorem FinO.shift {K : PySem.W.Frag} {D : Ends} {σ σ' : L2.St} {H H' : Hp} {F F' : List Addr} {tg t1 t2 : List Nat} {o : Out} (f : FinO K D σ H F tg o) (s : Step H F H' F') (k : Keeps t1 σ σ') (h1 : ∀ j ∈ t1, j ∈ tg) (h2 : ∀ j ∈ t2, j ∈ tg) : FinO K D σ' H' F' t2 o := by
  cases o with
  | nx ρ => exact fun σ2 H2 F2 r u s2 k2 => f σ2 H2 F2 r u (s.trans s2) (k.trans k2 h1 h2)
  | bk ρ => exact fun σ2 H2 F2 r u s2 k2 => f σ2 H2 F2 r u (s.trans s2) (k.trans k2 h1 h2)
  | ct ρ => exact fun σ2 H2 F2 r u s2 k2 => f σ2 H2 F2 r u (s.trans s2) (k.trans k2 h1 h2)
  | rt d ρ => exact fun v σ2 H2 Fd F2 r rd u s2 k2 => f v σ2 H2 Fd F2 r rd u (s.trans s2) (k.trans k2 h1 h2)
theorem PS_imp {X : Cx} {s : Stmt} {t t' : TS} (h : PS X s t) (k : ∀ D σ H, t' D σ H → t D σ H) : PS X s t' := ⟨fun pins s σ H D I q => h.run pins s σ H D I (k D σ H q)⟩
theorem PSs_imp {X : Cx} {s : List Stmt} {t t' : TS} (h : PSs X s t) (k : ∀ D σ H, t' D σ H → t D σ H) : PSs X s t' := ⟨fun pins s σ H D I q => h.run pins s σ H D I (k D σ H q)⟩
end NV

set_option Elab.async false
set_option linter.all false
set_option maxRecDepth 100000
set_option maxHeartbeats 4000000
/-! What tree a statement's text can be. -/
namespace NV
open PySem PySem.Spec L2
section
variable {T : List FnR} {N : List Str} {sc : Scope} {st : Stmt}
theorem inv_asg {tg : Tg} {e : E} (h : mS T N sc (.asg tg e) st = true) : ∃ t v pos, st = .Assign [t] v pos ∧ (mTg N sc tg t && mE T N sc e v && okAsg sc t v pos.line) = true := by
  cases st with
  | Assign ts v pos =>
    cases ts with
    | nil => cases h
    | cons t ts =>
      cases ts with
      | nil => exact ⟨t, v, pos, rfl, h⟩
      | cons _ _ => cases h
  | _ => cases h
theorem names2_eq {ts : List Expr} {x y : Str} {px py : Pos} (h : names2 ts = some (x, px, y, py)) : ∃ k pt, ts = [.Tuple [.Name x px, .Name y py] k pt] := by
  unfold names2 at h
  split at h
  · cases h; exact ⟨_, _, rfl⟩
  · cases h
theorem exprs2_eq {e v w : Expr} (h : exprs2 e = some (v, w)) : ∃ k p, e = .Tuple [v, w] k p := by
  unfold exprs2 at h
  split at h
  · cases h; exact ⟨_, _, rfl⟩
  · cases h
theorem names3_eq {ts : List Expr} {x y z : Str} {px py pz : Pos} (h : names3 ts = some (x, px, y, py, z, pz)) : ∃ k pt, ts = [.Tuple [.Name x px, .Name y py, .Name z pz] k pt] := by
  unfold names3 at h
  split at h
  · cases h; exact ⟨_, _, rfl⟩
  · cases h
theorem exprs3_eq {e v w u : Expr} (h : exprs3 e = some (v, w, u)) : ∃ k p, e = .Tuple [v, w, u] k p := by
  unfold exprs3 at h
  split at h
  · cases h; exact ⟨_, _, rfl⟩
  · cases h
theorem inv_par2 {i j : Nat} {a b : E} (h : mS T N sc (.par2 i j a b) st = true) : ∃ x px y py k pt v w k2 p2 pos, st = .Assign [.Tuple [.Name x px, .Name y py] k pt] (.Tuple [v, w] k2 p2) pos ∧
    (decide (N[i]? = some x) && decide (N[j]? = some y) && decide (i ≠ j) && sc.names.lookup x == some .local && sc.names.lookup y == some .local && px.line == py.line && x != y &&
      mE T N sc a v && nst v && mE T N sc b w && nst w && !(([v, w] : List Expr).all (foldedForSure 8)) && !(([v, w] : List Expr).all (constantsAlone 8))) = true := by
  cases st with
  | Assign ts vv pos =>
    simp only [mS] at h
    split at h
    · rename_i x px y py v w h1 h2
      obtain ⟨k, pt, rfl⟩ := names2_eq h1
      obtain ⟨k2, p2, rfl⟩ := exprs2_eq h2
      exact ⟨x, px, y, py, k, pt, v, w, k2, p2, pos, rfl, h⟩
    · cases h
  | _ => cases h
theorem inv_par3 {i j l : Nat} {a b c : E} (h : mS T N sc (.par3 i j l a b c) st = true) : ∃ x px y py z pz k pt v w u k2 p2 pos, st = .Assign [.Tuple [.Name x px, .Name y py, .Name z pz] k pt] (.Tuple [v, w, u] k2 p2) pos ∧
    (decide (N[i]? = some x) && decide (N[j]? = some y) && decide (N[l]? = some z) && decide (i ≠ j) && decide (i ≠ l) && decide (j ≠ l) &&
      sc.names.lookup x == some .local && sc.names.lookup y == some .local && sc.names.lookup z == some .local && px.line == py.line && px.line == pz.line && x != y && x != z && y != z &&
      mE T N sc a v && nst v && mE T N sc b w && nst w && mE T N sc c u && nst u && !(([v, w, u] : List Expr).all (foldedForSure 8)) && !(([v, w, u] : List Expr).all (constantsAlone 8))) = true := by
  cases st with
  | Assign ts vv pos =>
    simp only [mS] at h
    split at h
    · rename_i x px y py z pz v w u h1 h2
      obtain ⟨k, pt, rfl⟩ := names3_eq h1
      obtain ⟨k2, p2, rfl⟩ := exprs3_eq h2
      exact ⟨x, px, y, py, z, pz, k, pt, v, w, u, k2, p2, pos, rfl, h⟩
    · cases h
  | _ => cases h
theorem inv_sset {i : Nat} {ix : Q} {e : E} (h : mS T N sc (.sset i ix e) st = true) : ∃ o x p v pos, st = .Assign [.Subscript o x p] v pos ∧ (mV N sc i o && mQ N sc ix x && mE T N sc e v && noComp v && plainB x) = true := by
  cases st with
  | Assign ts v pos =>
    cases ts with
    | nil => cases h
    | cons t ts =>
      cases ts with
      | cons _ _ => cases t <;> cases h
      | nil =>
        cases t with
        | Subscript o x p => exact ⟨o, x, p, v, pos, rfl, h⟩
        | _ => cases h
  | _ => cases h
theorem inv_sset2 {i : Nat} {ix e : E} (h : mS T N sc (.sset2 i ix e) st = true) : ∃ o x p v pos, st = .Assign [.Subscript o x p] v pos ∧ (mV N sc i o && mE T N sc ix x && mE T N sc e v && noComp v && plainB x) = true := by
  cases st with
  | Assign ts v pos =>
    cases ts with
    | nil => cases h
    | cons t ts =>
      cases ts with
      | cons _ _ => cases t <;> cases h
      | nil =>
        cases t with
        | Subscript o x p => exact ⟨o, x, p, v, pos, rfl, h⟩
        | _ => cases h
  | _ => cases h
theorem inv_aug {i : Nat} {p : P2} {e : E} (h : mS T N sc (.aug i p e) st = true) : ∃ t op v pos, st = .AugAssign t op v pos ∧ (mT1 N sc i t && opA p == some op && mE T N sc e v) = true := by
  cases st with
  | AugAssign t op v pos => exact ⟨t, op, v, pos, rfl, h⟩
  | _ => cases h
theorem inv_app {i : Nat} {e : E} (h : mS T N sc (.app i e) st = true) : ∃ o m apos x cpos pos, st = .Expr (.Call (.Attribute o m apos) [x] [] cpos) pos ∧ (m == "append" && mV N sc i o && apos.endLine == cpos.line && mE T N sc e x && nst x) = true := by
  cases st with
  | Expr v pos =>
    cases v with
    | Call f l kw cpos =>
      cases f with
      | Attribute o m apos =>
        match l, kw, h with
        | [], _, h => cases h
        | _ :: _ :: _, _, h => cases h
        | [_], _ :: _, h => cases h
        | [x], [], h => exact ⟨o, m, apos, x, cpos, pos, rfl, h⟩
      | _ => cases h
    | _ => cases h
  | _ => cases h
theorem inv_rev {i : Nat} (h : mS T N sc (.rev i) st = true) : ∃ o m apos cpos pos, st = .Expr (.Call (.Attribute o m apos) [] [] cpos) pos ∧ (m == "reverse" && mV N sc i o && apos.endLine == cpos.line) = true := by
  cases st with
  | Expr v pos =>
    cases v with
    | Call f l kw cpos =>
      cases f with
      | Attribute o m apos =>
        match l, kw, h with
        | _ :: _, _, h => cases h
        | [], _ :: _, h => cases h
        | [], [], h => exact ⟨o, m, apos, cpos, pos, rfl, h⟩
      | _ => cases h
    | _ => cases h
  | _ => cases h
theorem inv_ex {e : E} (h : mS T N sc (.ex e) st = true) : ∃ v pos, st = .Expr v pos ∧ (mE T N sc e v && noComp v) = true := by
  cases st with
  | Expr v pos => exact ⟨v, pos, rfl, h⟩
  | _ => cases h
theorem inv_if {t : E} {a b : Ss} (h : mS T N sc (.if_ t a b) st = true) : ∃ c' a' b' pos, st = .If c' a' b' pos ∧ (tst t && mE T N sc t c' && mSs T N sc a a' && mSs T N sc b b') = true := by
  cases st with
  | If c' a' b' pos => exact ⟨c', a', b', pos, rfl, h⟩
  | _ => cases h
theorem inv_for {tg : Tg} {it : It} {b : Ss} (h : mS T N sc (.for_ tg it b) st = true) : ∃ t i body pos, st = .For t i body [] pos ∧ (mTg N sc tg t && mIt T N sc it i && noSet i && (itSlot it).all (fun i => !(tg.all ++ tgSs b).contains i) && mSs T N sc b body) = true := by
  cases st with
  | For t i body oe pos =>
    cases oe with
    | nil => exact ⟨t, i, body, pos, rfl, h⟩
    | cons _ _ => cases h
  | _ => cases h
theorem inv_while {t : E} {b : Ss} (h : mS T N sc (.while_ t b) st = true) : ∃ c' body pos, st = .While c' body [] pos ∧ (tst t && mE T N sc t c' && mSs T N sc b body) = true := by
  cases st with
  | While c' body oe pos =>
    cases oe with
    | nil => exact ⟨c', body, pos, rfl, h⟩
    | cons _ _ => cases h
  | _ => cases h
theorem inv_ret {e : E} (h : mS T N sc (.ret e) st = true) : ∃ v pos, st = .Return (some v) pos ∧ mE T N sc e v = true := by
  cases st with
  | Return v pos =>
    cases v with
    | none => cases h
    | some v => exact ⟨v, pos, rfl, h⟩
  | _ => cases h
theorem inv_retN (h : mS T N sc .retN st = true) : ∃ pos, st = .Return none pos := by
  cases st with
  | Return v pos =>
    cases v with
    | none => exact ⟨pos, rfl⟩
    | some v => cases h
  | _ => cases h
theorem inv_brk (h : mS T N sc .brk st = true) : ∃ pos, st = .Break pos := by
  cases st with
  | Break pos => exact ⟨pos, rfl⟩
  | _ => cases h
theorem inv_cont (h : mS T N sc .cont st = true) : ∃ pos, st = .Continue pos := by
  cases st with
  | Continue pos => exact ⟨pos, rfl⟩
  | _ => cases h
theorem inv_pass (h : mS T N sc .pass st = true) : ∃ pos, st = .Pass pos := by
  cases st with
  | Pass pos => exact ⟨pos, rfl⟩
  | _ => cases h
theorem inv_nil {st : List Stmt} (h : mSs T N sc .nil st = true) : st = [] := by
  cases st with
  | nil => rfl
  | cons _ _ => cases h
theorem inv_cons {s : S} {r : Ss} {st : List Stmt} (h : mSs T N sc (.cons s r) st = true) : ∃ x xs, st = x :: xs ∧ (mS T N sc s x && mSs T N sc r xs) = true := by
  cases st with
  | nil => cases h
  | cons x xs => exact ⟨x, xs, rfl, h⟩
end
end NV

set_option Elab.async false
set_option linter.all false
set_option maxRecDepth 100000
set_option maxHeartbeats 8000000
/-! Every statement of the small language is what it comes to. -/
namespace NV
open PySem PySem.Spec L2
theorem sole_one (t v : Expr) (l : Nat) (env : PySem.Env) : swapsWithSole [t] v l env = swapsWith v (some t) l env := rfl
structure GoodS (X : Cx) (N : List Str) (sc : Scope) : Prop where
  g : Good X N sc
  kind : sc.kind = .function
  st : Stores X sc
  xe : X.xe = fun _ _ => False
section
variable {K : PySem.W.Frag} {cf : Nat → List Val → Option (Val × List (Option Val))} {fu : Nat}
theorem TEv_mono {e : E} {σ : L2.St} {H : Hp} {Z Z' : VK} (h : TEv K cf e σ H Z) (k : ∀ v H', Z v H' → Z' v H') : TEv K cf e σ H Z' := by
  obtain ⟨ρ, F, d, ρ', r, u, ee, kk⟩ := h
  exact ⟨ρ, F, d, ρ', r, u, ee, fun v H' Fd F' r' rd u' s' => k _ _ (kk v H' Fd F' r' rd u' s')⟩
theorem gname_of {i : Nat} {v : V} {σ : L2.St} {H : Hp} {Z : L2.St → Hp → Prop} (q : TGv K (.n i) v σ H Z) : gName i v σ H Z := by
  obtain ⟨ρ, F, d, Fd, ρ', r, rd, ea, k⟩ := q
  obtain ⟨hi, rfl⟩ := guard_eq (show (if i < ρ.length then some (ρ.set i (some d)) else none) = some ρ' from ea)
  obtain ⟨F', r', c'⟩ := RepE.set rd r hi
  refine k _ F' r' (fun a => by have := c' a; omega) (fun j hj => ?_) (by simp)
  simp only [Tg.all, List.mem_singleton] at hj
  exact List.getElem?_set_ne (Ne.symm hj)
theorem asg_read {tg : Tg} {e : E} {D : Ends} {σ : L2.St} {H : Hp} (q : TSv K cf fu (.asg tg e) D σ H) : TEv K cf e σ H fun x H1 => TGv K tg x σ H1 D.nx := by
  obtain ⟨ρ, F, o, r, u, e0, f⟩ := q
  obtain ⟨⟨d, ρ1⟩, e1, e2⟩ := Option.bind_eq_some_iff.mp (show (ev cf e ρ).bind _ = some o from by simpa only [exS] using e0)
  obtain ⟨ρ2, e3, e4⟩ := Option.map_eq_some_iff.mp e2
  subst e4
  exact ⟨ρ, F, d, ρ1, r, u, e1, fun v H1 Fd F1 r1 rv u1 s1 => ⟨ρ1, F1, d, Fd, ρ2, r1, rv, e3, fun σ' F' r' c' hk hl =>
    f σ' H1 F' r' (u1.to fun a => by rw [cnt_app]; exact c' a) (s1.to fun a => by rw [cnt_app]; exact c' a) ⟨hl, hk⟩⟩⟩
theorem ps_asg_of {X : Cx} {t v : Expr} {tg : Tg} {e : E} {pos : Pos} (h : PS X (.Assign [t] v pos) (tAsg (TEv X.K cf e) (TGv X.K tg))) : PS X (.Assign [t] v pos) (TSv X.K cf fu (.asg tg e)) := PS_imp h fun D σ H q => asg_read q
/-- a value stored in a list, a list in the place of another: what is at the slot -/
theorem set_put {X : Cx} {ρ0 : Env} {σ : L2.St} {H : Hp} {i : Nat} {a : Addr} {ds' : List Val} {vs vs' : List V} {B F1 F2 : List Addr} (uB : Uni B) (h5 : RepE X.K H ρ0 σ F2) (h3 : σ[i]? = some (some (.ref a))) (ho : H a = some (.lst vs))
    (q3 : AllP (Rep X.K H) ds' vs' F1) (c : ∀ b, (F1.count b + F2.count b) + (if a = b then 1 else 0) ≤ B.count b) : ∃ Fp, RepE X.K (upd H a (.lst vs')) (ρ0.set i (some (.lst ds'))) σ Fp ∧ Uni Fp ∧ Step H B (upd H a (.lst vs')) Fp := by
  obtain ⟨Fp, w1, _, w3, w4⟩ := put_list (z := .non) (y := .non) uB h5 h3 ho (fun z => z) q3 .non fun b => by have := c b; simp only [List.count_nil]; omega
  exact ⟨Fp, w1, by simpa using w3, by simpa using w4⟩
end
section
variable {K : PySem.W.Frag} {cf : Nat → List Val → Option (Val × List (Option Val))} {fu : Nat}
theorem forL_nil {held : Env → Bool} {tg : Tg} {body : Env → Option Out} {ρ : Env} {o : Out} (e : forL held tg body [] ρ = some o) : held ρ = true ∧ o = .nx ρ := by
  obtain ⟨h1, h2⟩ := guard_eq (show (if held ρ = true then some (Out.nx ρ) else none) = some o from e)
  exact ⟨h1, h2.symm⟩
theorem forL_cons {held : Env → Bool} {tg : Tg} {body : Env → Option Out} {v : Val} {vs : List Val} {ρ : Env} {o : Out} (e : forL held tg body (v :: vs) ρ = some o) :
    held ρ = true ∧ ∃ ρ1 o1, asg tg v ρ = some ρ1 ∧ body ρ1 = some o1 ∧ (match o1 with
      | .nx ρ2 => forL held tg body vs ρ2
      | .ct ρ2 => forL held tg body vs ρ2
      | .bk ρ2 => some (.nx ρ2)
      | .rt d ρ2 => some (.rt d ρ2)) = some o := by
  obtain ⟨h1, h2⟩ := guard2 (show (if held ρ = true then (asg tg v ρ).bind (fun ρ1 => (body ρ1).bind fun o => match o with
    | .nx ρ2 => forL held tg body vs ρ2
    | .ct ρ2 => forL held tg body vs ρ2
    | .bk ρ2 => some (.nx ρ2)
    | .rt d ρ2 => some (.rt d ρ2)) else none) = some o from e)
  obtain ⟨ρ1, h3, h4⟩ := Option.bind_eq_some_iff.mp h2
  obtain ⟨o1, h5, h6⟩ := Option.bind_eq_some_iff.mp h4
  exact ⟨h1, ρ1, o1, h3, h5, h6⟩
theorem forL_held {held : Env → Bool} {tg : Tg} {body : Env → Option Out} {vs : List Val} {ρ : Env} {o : Out} (e : forL held tg body vs ρ = some o) : held ρ = true := by
  cases vs with
  | nil => exact (forL_nil e).1
  | cons v vs => exact (forL_cons e).1
theorem for_walk {tg : Tg} {it : It} {b : Ss} {D : Ends} {σ : L2.St} {H H1 : Hp} {F F1 Ft : List Addr} {w : Itr} {ρ1 : Env} {o : Out} {J : L2.It} (r1 : RepE K H1 ρ1 σ F1) (ok : ItOk K σ Ft H1 J w) (u1 : Uni (Ft ++ F1)) (s1 : Step H F H1 (Ft ++ F1)) (mt : ∀ a ∈ Ft, H1 a ≠ none)
    (hck : ∀ j, (w.ck.map (·.1)) = some j → j ∉ tg.all ++ tgSs b) (e : forL w.held tg (exSs cf fu b) w.vals ρ1 = some o) (f : FinO K D σ H F (tgS (.for_ tg it b)) o) :
    ∃ W : Nat → Nat → L2.St → Hp → Prop, (∃ m, W 0 m σ H1) ∧ ∀ i m σ H, W i m σ H →
      (J.stop i H ∧ D.nx σ H) ∨ (J.go i H ∧ ∃ Nx : L2.St → Hp → Prop, (∀ σ' H', Nx σ' H' → ∃ m', m' < m ∧ W (i + 1) m' σ' H') ∧ ∀ x H', J.yld i H x H' → TGv K tg x σ H' fun σ2 H2 => TSs K cf fu b { D with nx := Nx, ct := Nx, bk := D.nx } σ2 H2) := by
  have htg : tgS (.for_ tg it b) = tg.all ++ tgSs b := rfl
  rw [htg] at f
  refine ⟨fun i m σc Hc => m = w.vals.length - i ∧ i ≤ w.vals.length ∧ ∃ ρc Fc, RepE K Hc ρc σc Fc ∧ Uni (Ft ++ Fc) ∧ Step H1 F1 Hc Fc ∧ Keeps (tg.all ++ tgSs b) σ σc ∧ forL w.held tg (exSs cf fu b) (w.vals.drop i) ρc = some o,
    ⟨_, rfl, Nat.zero_le _, ρ1, F1, r1, u1, .refl, .refl, by simpa using e⟩, ?_⟩
  rintro i m σc Hc ⟨rfl, hi, ρc, Fc, rc, uc, sc, kc, ec⟩
  have tn := ok.turn sc.fix (fun a ha o e => sc.keep a o e (u1.off ha)) rc (fun j v hj e => by rw [← kc.2 j (hck j hj)]; exact e) (forL_held ec)
  have sH : Step H F Hc Fc := s1.less.trans sc
  by_cases hlt : i < w.vals.length
  · refine .inr ⟨(tn.1 i hlt).1, fun σ' H' => ∃ ρc Fc, RepE K H' ρc σ' Fc ∧ Uni (Ft ++ Fc) ∧ Step H1 F1 H' Fc ∧ Keeps (tg.all ++ tgSs b) σ σ' ∧ forL w.held tg (exSs cf fu b) (w.vals.drop (i + 1)) ρc = some o, fun σ' H' q => ⟨w.vals.length - (i + 1), by omega, rfl, hlt, q⟩, fun x H' hy => ?_⟩
    obtain ⟨rfl, v, hv, rv⟩ := (tn.1 i hlt).2 x H' hy
    have hd : w.vals.drop i = v :: w.vals.drop (i + 1) := by
      rw [List.drop_eq_getElem_cons hlt]
      rw [List.getElem?_eq_getElem hlt] at hv
      cases hv; rfl
    rw [hd] at ec
    obtain ⟨_, ρa, o1, e3, e4, e5⟩ := forL_cons ec
    refine ⟨ρc, Fc, v, [], ρa, rc, rv, e3, fun σ2 F2 r2 c2 k2 l2 => ?_⟩
    have c2' : ∀ a, F2.count a ≤ Fc.count a := fun a => by simpa using c2 a
    have u2 : Uni (Ft ++ F2) := uc.to fun a => by have := c2' a; simp only [cnt_app]; omega
    refine ⟨ρa, F2, o1, r2, u2.right, e4, ?_⟩
    have mtc : ∀ a ∈ Ft, H' a ≠ none := fun a ha q => mt a ha (sc.dom a q)
    have join : ∀ {σ3 : L2.St}, Keeps (tgSs b) σ2 σ3 → Keeps (tg.all ++ tgSs b) σ σ3 := fun {σ3} k3 =>
      ⟨(k3.1.trans l2).trans kc.1, fun j hj => by
        have q1 : j ∉ tg.all := fun z => hj (List.mem_append_left _ z)
        have q2 : j ∉ tgSs b := fun z => hj (List.mem_append_right _ z)
        rw [k3.2 j q2, k2 j q1, kc.2 j hj]⟩
    have stp : ∀ {H3 : Hp} {F3 : List Addr}, Step H' F2 H3 F3 → Step H' Fc H3 F3 := fun s => s.le c2' fun a => by omega
    cases o1 with
    | nx ρ2 => exact fun σ3 H3 F3 r3 u3 s3 k3 => ⟨ρ2, F3, r3, Uni.step u2 mtc s3 u3, sc.trans (stp s3), join k3, e5⟩
    | ct ρ2 => exact fun σ3 H3 F3 r3 u3 s3 k3 => ⟨ρ2, F3, r3, Uni.step u2 mtc s3 u3, sc.trans (stp s3), join k3, e5⟩
    | bk ρ2 =>
      cases e5
      exact fun σ3 H3 F3 r3 u3 s3 k3 => f σ3 H3 F3 r3 u3 (sH.trans (stp s3)) (join k3)
    | rt d ρ2 =>
      cases e5
      exact fun v σ3 H3 Fd F3 r3 rd u3 s3 k3 => f v σ3 H3 Fd F3 r3 rd u3 (sH.trans (stp s3)) (join k3)
  · have ei : i = w.vals.length := by omega
    subst ei
    rw [List.drop_length] at ec
    obtain ⟨_, e1⟩ := forL_nil ec
    subst e1
    exact .inl ⟨tn.2, f σc Hc Fc rc uc.right sH kc⟩
theorem while_walk {t : E} {b : Ss} {D : Ends} {σ : L2.St} {H : Hp} {F : List Addr} {ρ : Env} {o : Out} {n : Nat} (r : RepE K H ρ σ F) (u : Uni F) (e : whileL (ev cf t) (exSs cf fu b) n ρ = some o) (f : FinO K D σ H F (tgS (.while_ t b)) o) :
    tWhile (TTv K cf t) (TSs K cf fu b) D σ H := by
  have htg : tgS (.while_ t b) = tgSs b := rfl
  rw [htg] at f
  refine ⟨fun m σc Hc => ∃ ρc Fc, RepE K Hc ρc σc Fc ∧ Uni Fc ∧ Step H F Hc Fc ∧ Keeps (tgSs b) σ σc ∧ whileL (ev cf t) (exSs cf fu b) m ρc = some o, ⟨n, ρ, F, r, u, .refl, .refl, e⟩, ?_⟩
  rintro m σc Hc ⟨ρc, Fc, rc, uc, sc, kc, ec⟩
  cases m with
  | zero => cases ec
  | succ m =>
    obtain ⟨⟨d, ρ1⟩, e1, e2⟩ := Option.bind_eq_some_iff.mp (show (ev cf t ρc).bind _ = some o from ec)
    cases d with
    | bl q =>
      refine ⟨ρc, Fc, q, ρ1, rc, uc, e1, fun H1 F1 r1 u1 s1 => ?_⟩
      have sH := sc.trans s1
      cases q with
      | true =>
        simp only [if_true]
        obtain ⟨o1, e3, e4⟩ := Option.bind_eq_some_iff.mp e2
        refine ⟨fun σ' H' => ∃ ρc Fc, RepE K H' ρc σ' Fc ∧ Uni Fc ∧ Step H F H' Fc ∧ Keeps (tgSs b) σ σ' ∧ whileL (ev cf t) (exSs cf fu b) m ρc = some o, fun σ' H' q => ⟨m, by omega, q⟩, ρ1, F1, o1, r1, u1, e3, ?_⟩
        have join : ∀ {σ3 : L2.St}, Keeps (tgSs b) σc σ3 → Keeps (tgSs b) σ σ3 := fun k3 => kc.trans k3 (fun _ h => h) fun _ h => h
        cases o1 with
        | nx ρ2 => exact fun σ3 H3 F3 r3 u3 s3 k3 => ⟨ρ2, F3, r3, u3, sH.trans s3, join k3, e4⟩
        | ct ρ2 => exact fun σ3 H3 F3 r3 u3 s3 k3 => ⟨ρ2, F3, r3, u3, sH.trans s3, join k3, e4⟩
        | bk ρ2 =>
          cases e4
          exact fun σ3 H3 F3 r3 u3 s3 k3 => f σ3 H3 F3 r3 u3 (sH.trans s3) (join k3)
        | rt d ρ2 =>
          cases e4
          exact fun v σ3 H3 Fd F3 r3 rd u3 s3 k3 => f v σ3 H3 Fd F3 r3 rd u3 (sH.trans s3) (join k3)
      | false =>
        cases e2
        simp only [Bool.false_eq_true, if_false]
        exact f σc H1 F1 r1 u1 sH kc
    | _ => cases e2
end
section
variable (T : List FnR) (fu k : Nat) (N : List Str)
theorem sw_cell {elt : Expr} {gens : List Comprehension} {scope : Scope} {p px : Pos} {x : Str} {l : Nat} {env : PySem.Env} (h : env.kindOf x = some .cell) : swapsWith (.ListComp elt gens scope p) (some (.Name x px)) l env = pure false := by
  unfold swapsWith
  simp only [h]
  have e : (some NameKind.cell == some NameKind.local) = false := by decide
  show pure _ = pure false
  rw [e, Bool.and_false, Bool.false_and, Bool.false_and]
mutual
theorem okS : ∀ (s : S) (X : Cx) (sc : Scope) (st : Stmt), GoodS X N sc → Calls X T fu k → mS T N sc s st = true → PS X st (TSv X.K (run T fu k) fu s)
  | .asg tg e, X, sc, st, g, c, h => by
    obtain ⟨t, v, pos, e9, hq⟩ := inv_asg h
    clear h
    subst e9
    have h := hq
    clear hq
    simp only [Bool.and_eq_true] at h
    obtain ⟨⟨h1, h2⟩, h3⟩ := h
    have he := (okE T fu k N e X sc v g.g c h2).pe
    have hg := tg_ok g.g g.st tg t h1
    cases t with
    | Name x px =>
      by_cases hc : noComp v = true
      · exact ps_asg_of (ps_asg he hg ((sole_one _ _ _ _).trans (sw_none hc _ _ _)) (st_name _ _ _ _))
      · cases v with
        | ListComp elt gens scope p =>
          simp only [okAsg, Bool.or_eq_true, Bool.and_eq_true, beq_iff_eq, Bool.not_eq_true'] at h3
          rcases h3 with ⟨⟨h4, h5⟩, h6⟩ | h4
          · cases tg with
            | t is => simp [mTg] at h1
            | n i =>
              have hx : X.N[i]? = some x := by
                simp only [mTg, mT1, Bool.and_eq_true, decide_eq_true_eq] at h1
                rw [g.g.names]; exact h1.1
              have hl : X.env.scope.names.lookup x = some .local := by rw [g.g.sc]; exact h4
              have hkf : X.env.scope.kind = .function := by rw [g.g.sc]; exact g.kind
              cases e with
              | comp ow tg2 it el =>
                match gens, h2 with
                | [], h2 => simp [mE] at h2
                | _ :: _ :: _, h2 => simp [mE] at h2
                | [⟨t2, i2, ifs, s⟩], h2 =>
                  cases ifs with
                  | cons _ _ => simp [mE] at h2
                  | nil =>
                    simp only [mE, Bool.and_eq_true, beq_iff_eq] at h2
                    obtain ⟨⟨⟨⟨rfl, q1⟩, q2⟩, q3⟩, q4⟩ := h2
                    exact PS_imp (set_comp (n := i) g.g q1 q2 (okIt T fu k N it X sc t2 i2 g.g c q3) (fun s H C cl fp => (okE T fu k N el _ _ elt g.g.blk c.blk q4).pe) hx hl (sw_true hkf hl (by rw [h5]; simp) h6)) fun D σ H q => TEv_mono (asg_read q) fun x H1 h => gname_of h
              | compIf ow tg2 it cd el =>
                match gens, h2 with
                | [], h2 => simp [mE] at h2
                | _ :: _ :: _, h2 => simp [mE] at h2
                | [⟨t2, i2, ifs, s⟩], h2 =>
                  match ifs, h2 with
                  | [], h2 => simp [mE] at h2
                  | _ :: _ :: _, h2 => simp [mE] at h2
                  | [cc], h2 =>
                    simp only [mE, Bool.and_eq_true, beq_iff_eq] at h2
                    obtain ⟨⟨⟨⟨⟨⟨rfl, q1⟩, q2⟩, q3⟩, q0⟩, q4⟩, q5⟩ := h2
                    exact PS_imp (set_compIf (n := i) g.g q1 q2 (okIt T fu k N it X sc t2 i2 g.g c q3) (fun s H C cl fp => (okE T fu k N cd _ _ cc g.g.blk c.blk q4).pt q0) (fun s H C cl fp => (okE T fu k N el _ _ elt g.g.blk c.blk q5).pe) hx hl (sw_true hkf hl (by rw [h5]; simp) h6)) fun D σ H q => TEv_mono (asg_read q) fun x H1 h => gname_of h
              | q qq => exfalso; cases qq with
                | c v => simp [mE, mQ] at h2
                | v i => simp [mE, mQ, mV] at h2
                | l1 a => simp [mE, mQ] at h2
                | p1 p a => simp only [mE, mQ] at h2; cases p <;> simp [m1] at h2
                | p2 p a b => simp only [mE, mQ] at h2; cases p <;> simp [m2] at h2
              | mv i => simp [mE, mV] at h2
              | p1 p a => exfalso; simp only [mE] at h2; cases p <;> simp [m1] at h2
              | p2 p a b => exfalso; simp only [mE] at h2; cases p <;> simp [m2] at h2
              | _ => simp [mE] at h2
          · refine ps_asg_of (ps_asg he hg ?_ (st_name _ _ _ _))
            have kx : X.env.kindOf x = some .cell := by show X.env.scope.names.lookup x = _; rw [g.g.sc]; exact h4
            exact (sole_one _ _ _ _).trans (sw_cell kx)
        | SetComp => simp [okAsg, noComp] at h3
        | DictComp => simp [okAsg, noComp] at h3
        | _ => exact absurd rfl hc
    | Tuple tl kk pt =>
      have hw : swappedStores [.Tuple tl kk pt] v X.env = pure none := by
        cases v with
        | Tuple vs k2 p2 => exact st_no g.g.sc h3 _ _ _ _
        | _ => rfl
      exact ps_asg_of (ps_asg he hg (sw_tuple _ _ _ _ _ _) hw)
    | _ => simp [okAsg] at h3
  | .par2 i j a b, X, sc, st, g, c, h => by
    obtain ⟨x, px, y, py, kk, pt, v, w, k2, p2, pos, e9, hq⟩ := inv_par2 h
    clear h
    subst e9
    have h := hq
    clear hq
    simp only [Bool.and_eq_true, decide_eq_true_eq, beq_iff_eq, bne_iff_ne, Bool.not_eq_true'] at h
    obtain ⟨⟨⟨⟨⟨⟨⟨⟨⟨⟨⟨⟨h1, h2⟩, h3⟩, h4⟩, h5⟩, h6⟩, h7⟩, h8⟩, h9⟩, h10⟩, h11⟩, h12⟩, h13⟩ := h
    have hx : X.env.scope.names.lookup x = some .local := by rw [g.g.sc]; exact h4
    have hy : X.env.scope.names.lookup y = some .local := by rw [g.g.sc]; exact h5
    have hkf : X.env.scope.kind = .function := by rw [g.g.sc]; exact g.kind
    refine PS_imp (ps_par g.g.calm g.g.nd (by rw [g.g.names]; exact h1) (by rw [g.g.names]; exact h2) h3 hx hy (pa_cons (okE T fu k N a X sc v g.g c h8).pe (pa_cons (okE T fu k N b X sc w g.g c h10).pe pa_nil (nst_star h11 _ _)) (nst_star h9 _ _)) (st_two hkf hx hy h6 h7 h9 h11 h12 h13) (sw_tuple _ _ _ _ _ _)) fun D σ H ⟨ρ, F, o, r, u, e0, f⟩ => ?_
    obtain ⟨⟨d, ρ1⟩, e1, e2⟩ := Option.bind_eq_some_iff.mp (show (ev (run T fu k) a ρ).bind _ = some o from by simpa only [exS] using e0)
    obtain ⟨⟨d2, ρ2⟩, e3, e4⟩ := Option.bind_eq_some_iff.mp e2
    obtain ⟨hl, e5⟩ := guard_eq e4
    subst e5
    refine ⟨ρ, F, d, ρ1, r, u, e1, fun v1 H1 Fd F1 r1 rv u1 s1 => ⟨ρ1, F1, d2, ρ2, r1, u1.right, e3, fun v2 H2 Fd2 F2 r2 rv2 u2 s2 => ⟨v1, v2, rfl, ?_⟩⟩⟩
    have rv1 := rv.step s2 fun b hb => u1.off hb
    have u3 := Uni.step u1 rv.some s2 u2
    have s3 := s1.trans (s2.frame Fd)
    obtain ⟨F3, r3, c3⟩ := RepE.set rv1 r2 hl.1
    obtain ⟨F4, r4, c4⟩ := RepE.set rv2 r3 (i := j) (by simpa using hl.2)
    have cc : ∀ b, F4.count b ≤ (Fd ++ (Fd2 ++ F2)).count b := fun b => by have := c3 b; have := c4 b; simp only [cnt_app]; omega
    refine f _ H2 F4 r4 (u3.to cc) (s3.to cc) ⟨by simp, fun n hn => ?_⟩
    simp only [tgS, List.mem_cons, List.not_mem_nil, or_false, not_or] at hn
    rw [List.getElem?_set_ne (Ne.symm hn.2), List.getElem?_set_ne (Ne.symm hn.1)]
  | .par3 i j l a b d0, X, sc, st, g, c, h => by
    obtain ⟨x, px, y, py, z, pz, kk, pt, v, w, w3, k2, p2, pos, e9, hq⟩ := inv_par3 h
    clear h
    subst e9
    have h := hq
    clear hq
    simp only [Bool.and_eq_true, decide_eq_true_eq, beq_iff_eq, bne_iff_ne, Bool.not_eq_true'] at h
    obtain ⟨⟨⟨⟨⟨⟨⟨⟨⟨⟨⟨⟨⟨⟨⟨⟨⟨⟨⟨⟨⟨h1, h2⟩, h3⟩, h4⟩, h5⟩, h6⟩, h7⟩, h8⟩, h9⟩, h10⟩, h11⟩, h12⟩, h13⟩, h14⟩, h15⟩, h16⟩, h17⟩, h18⟩, h19⟩, h20⟩, h21⟩, h22⟩ := h
    have hx : X.env.scope.names.lookup x = some .local := by rw [g.g.sc]; exact h7
    have hy : X.env.scope.names.lookup y = some .local := by rw [g.g.sc]; exact h8
    have hz : X.env.scope.names.lookup z = some .local := by rw [g.g.sc]; exact h9
    have hkf : X.env.scope.kind = .function := by rw [g.g.sc]; exact g.kind
    refine PS_imp (ps_par3 g.g.calm g.g.nd (by rw [g.g.names]; exact h1) (by rw [g.g.names]; exact h2) (by rw [g.g.names]; exact h3) h4 h5 h6 hx hy hz (pa_cons (okE T fu k N a X sc v g.g c h15).pe (pa_cons (okE T fu k N b X sc w g.g c h17).pe (pa_cons (okE T fu k N d0 X sc w3 g.g c h19).pe pa_nil (nst_star h20 _ _)) (nst_star h18 _ _)) (nst_star h16 _ _))
      (st_three hkf hx hy hz h10 h11 h12 h13 h14 h16 h18 h20 h21 h22) (sw_tuple _ _ _ _ _ _)) fun D σ H ⟨ρ, F, o, r, u, e0, f⟩ => ?_
    obtain ⟨⟨d, ρ1⟩, e1, e2⟩ := Option.bind_eq_some_iff.mp (show (ev (run T fu k) a ρ).bind _ = some o from by simpa only [exS] using e0)
    obtain ⟨⟨d2, ρ2⟩, e3, e4⟩ := Option.bind_eq_some_iff.mp e2
    obtain ⟨⟨d3, ρ3⟩, e5, e6⟩ := Option.bind_eq_some_iff.mp e4
    obtain ⟨hl, e7⟩ := guard_eq e6
    subst e7
    refine ⟨ρ, F, d, ρ1, r, u, e1, fun v1 H1 Fd F1 r1 rv u1 s1 => ⟨ρ1, F1, d2, ρ2, r1, u1.right, e3, fun v2 H2 Fd2 F2 r2 rv2 u2 s2 => ⟨ρ2, F2, d3, ρ3, r2, u2.right, e5, fun v3 H3 Fd3 F3 r3 rv3 u3 s3 => ⟨v1, v2, v3, rfl, ?_⟩⟩⟩⟩
    have ra1 := rv.step s2 fun b hb => u1.off hb
    have u12 := Uni.step u1 rv.some s2 u2
    have s12 := s1.trans (s2.frame Fd)
    have off2 : ∀ b ∈ Fd2, F2.count b = 0 := fun b hb => u2.off hb
    have off1 : ∀ b ∈ Fd, F2.count b = 0 := fun b hb => by have := u12.off hb; rw [cnt_app] at this; omega
    have rb1 := ra1.step s3 off1
    have rb2 := rv2.step s3 off2
    have u123 : Uni ((Fd ++ Fd2) ++ (Fd3 ++ F3)) := Uni.step (H := H2) (H' := H3) (F := F2) (by simpa using u12) (fun b hb => by
      rcases List.mem_append.mp hb with q | q
      · exact ra1.some b q
      · exact rv2.some b q) s3 u3
    have s123 : Step H F H3 ((Fd ++ Fd2) ++ (Fd3 ++ F3)) := by
      have := s12.trans ((s3.frame Fd2).frame Fd)
      simpa using this
    obtain ⟨F4, r4, c4⟩ := RepE.set rb1 r3 hl.1.1
    obtain ⟨F5, r5, c5⟩ := RepE.set rb2 r4 (i := j) (by simpa using hl.1.2)
    obtain ⟨F6, r6, c6⟩ := RepE.set rv3 r5 (i := l) (by simpa using hl.2)
    have cc : ∀ b, F6.count b ≤ ((Fd ++ Fd2) ++ (Fd3 ++ F3)).count b := fun b => by have := c4 b; have := c5 b; have := c6 b; simp only [cnt_app]; omega
    refine f _ H3 F6 r6 (u123.to cc) (s123.to cc) ⟨by simp, fun n hn => ?_⟩
    simp only [tgS, List.mem_cons, List.not_mem_nil, or_false, not_or] at hn
    rw [List.getElem?_set_ne (Ne.symm hn.2.2), List.getElem?_set_ne (Ne.symm hn.2.1), List.getElem?_set_ne (Ne.symm hn.1)]
  | .sset i ix e, X, sc, st, g, c, h => by
    obtain ⟨o, x, p, v, pos, e9, hq⟩ := inv_sset h
    clear h
    subst e9
    have h := hq
    clear hq
    simp only [Bool.and_eq_true] at h
    obtain ⟨⟨⟨⟨h1, h2⟩, h3⟩, h4⟩, h5⟩ := h
    refine PS_imp (ps_asg (okE T fu k N e X sc v g.g c h3).pe (pg_sub (pe_slot g.g h1) (q_ok g.g ix x h2) set_list (fun v => by cases x <;> first | rfl | (simp [plainB] at h5))) ((sole_one _ _ _ _).trans (sw_none h4 _ _ _)) (st_sub _ _ _ _ _)) fun D σ H ⟨ρ, F, o, r, u, e0, f⟩ => ?_
    obtain ⟨⟨d, ρ1⟩, e1, e2⟩ := Option.bind_eq_some_iff.mp (show (ev (run T fu k) e ρ).bind _ = some o from by simpa only [exS] using e0)
    obtain ⟨kx, e3, e4⟩ := Option.bind_eq_some_iff.mp e2
    refine ⟨ρ, F, d, ρ1, r, u, e1, fun v H1 Fd F1 r1 rv u1 s1 => ?_⟩
    cases kx with
    | int n =>
      cases eg : Env.get ρ1 i with
      | none => rw [eg] at e4; cases e4
      | some dl =>
        rw [eg] at e4
        cases dl with
        | lst ds =>
          obtain ⟨m, e5, e6⟩ := Option.map_eq_some_iff.mp e4
          subst e6
          obtain ⟨vl, G1, G2, q1, q2, q3, q4⟩ := r1.take eg
          cases q2 with
          | @lst a vs ds G1 hs ha =>
            refine ⟨.ref a, q1, ρ1, F1, .int n, r1, e3, fun vi H2 ext ⟨Gi, ri⟩ => ?_⟩
            cases ri
            have ha2 := ha.growR ext
            obtain ⟨G3, w1, w2⟩ := ha2.set (rv.grow ext) (j := m)
            have u12 : Uni (Fd ++ F1) := u1
            obtain ⟨Fp, p1, p2, p3⟩ := set_put (X := X) u12 (q3.grow ext) q1 (ext _ _ hs) w1 fun b => by
              have := w2 b; have := q4 b
              rw [cnt_cons] at this
              rw [cnt_app]; omega
            rw [List.set_set] at p1
            exact ⟨a, vs, n, m, rfl, rfl, ext _ _ hs, by rw [← ha.len]; exact e5, f σ _ Fp p1 p2 ((s1.trans (Step.ext ext fun b => .inl (Nat.le_refl _))).trans p3) .refl⟩
        | _ => cases e4
    | _ => cases e4
  | .sset2 i ix e, X, sc, st, g, c, h => by
    obtain ⟨o, x, p, v, pos, e9, hq⟩ := inv_sset2 h
    clear h
    subst e9
    have h := hq
    clear hq
    simp only [Bool.and_eq_true] at h
    obtain ⟨⟨⟨⟨h1, h2⟩, h3⟩, h4⟩, h5⟩ := h
    refine PS_imp (ps_asg (okE T fu k N e X sc v g.g c h3).pe (pg_sub (pe_slot g.g h1) (okE T fu k N ix X sc x g.g c h2).pe set_list (fun v => by cases x <;> first | rfl | (simp [plainB] at h5))) ((sole_one _ _ _ _).trans (sw_none h4 _ _ _)) (st_sub _ _ _ _ _)) fun D σ H ⟨ρ, F, o, r, u, e0, f⟩ => ?_
    obtain ⟨⟨d, ρ1⟩, e1, e2⟩ := Option.bind_eq_some_iff.mp (show (ev (run T fu k) e ρ).bind _ = some o from by simpa only [exS] using e0)
    obtain ⟨hl, e2⟩ := guard3 (show (if (!isLst (Env.get ρ1 i)) = true then none else _) = some o from e2)
    obtain ⟨⟨kx, ρ2⟩, e3, e4⟩ := Option.bind_eq_some_iff.mp e2
    obtain ⟨d9, h9⟩ : ∃ ds, Env.get ρ1 i = some (.lst ds) := by
      cases hg : Env.get ρ1 i with
      | none => rw [hg] at hl; exact absurd rfl hl
      | some d9 => cases d9 <;> first | exact ⟨_, rfl⟩ | (rw [hg] at hl; exact absurd rfl hl)
    refine ⟨ρ, F, d, ρ1, r, u, e1, fun v H1 Fd F1 r1 rv u1 s1 => ?_⟩
    obtain ⟨v0, F8, F9, hv0, rv0, _, _⟩ := r1.take h9
    cases rv0 with
    | @lst a0 vs0 ds0 F8 hs0 _ =>
      refine ⟨.ref a0, hv0, ρ1, F1, kx, ρ2, r1, u1.right, e3, fun vi H2 Fi F2 r2 ri u2 s2 => ?_⟩
      have rv2 : Rep X.K H2 d v Fd := rv.step s2 fun a ha => u1.off ha
      have u3 : Uni (Fd ++ (Fi ++ F2)) := Uni.step (H := H1) (H' := H2) (F := F1) u1 (fun a ha e => by
        obtain ⟨o, h, _⟩ := Rep.mem _ _ _ rv a ha
        rw [h] at e; cases e) s2 u2
      have s3 : Step H F H2 (Fd ++ (Fi ++ F2)) := s1.trans (s2.frame Fd)
      cases kx with
      | int n =>
        cases eg : Env.get ρ2 i with
        | none => rw [eg] at e4; cases e4
        | some dl =>
          rw [eg] at e4
          cases dl with
          | lst ds =>
            obtain ⟨m, e5, e6⟩ := Option.map_eq_some_iff.mp e4
            subst e6
            cases ri
            obtain ⟨vl, G1, G2, q1, q2, q3, q4⟩ := r2.take eg
            rw [hv0] at q1
            cases q1
            cases q2 with
            | @lst _ vs ds G1 hs ha =>
              obtain ⟨G3, w1, w2⟩ := ha.set rv2 (j := m)
              have u4 : Uni (Fd ++ F2) := by simpa using u3
              obtain ⟨Fp, p1, p2, p3⟩ := set_put (X := X) u4 q3 hv0 hs w1 fun b => by
                have := w2 b; have := q4 b
                rw [cnt_cons] at this
                rw [cnt_app]; omega
              rw [List.set_set] at p1
              exact ⟨a0, vs, n, m, rfl, rfl, hs, by rw [← ha.len]; exact e5, f σ _ Fp p1 p2 ((show Step H F H2 (Fd ++ F2) by simpa using s3).trans p3) .refl⟩
          | _ => cases e4
      | _ => cases e4
  | .aug i p e, X, sc, st, g, c, h => by
    obtain ⟨t, op, v, pos, e9, hq⟩ := inv_aug h
    clear h
    subst e9
    have h := hq
    clear hq
    simp only [Bool.and_eq_true, beq_iff_eq] at h
    obtain ⟨⟨h1, h2⟩, h3⟩ := h
    obtain ⟨x, px, rfl⟩ := mT1_name h1
    simp only [mT1, Bool.and_eq_true, decide_eq_true_eq] at h1
    obtain ⟨q1, q2⟩ := g.st x h1.2
    have hN : X.N[i]? = some x := by rw [g.g.names]; exact h1.1
    have he := (okE T fu k N e X sc v g.g c h3).pe
    cases p with
    | add =>
      cases h2
      refine PS_imp (ps_aug (op := .Add) g.g.nd hN q1 he (OpR.or iop_add (OpR.or iop_catR iop_ext)) q2) fun D σ H ⟨ρ, F, o, r, u, e0, f⟩ => ?_
      obtain ⟨dd, ed, e00⟩ := Option.bind_eq_some_iff.mp (show (Env.get ρ i).bind _ = some o from by simpa only [exS] using e0)
      obtain ⟨⟨d, ρ1⟩, e1, e2⟩ := Option.bind_eq_some_iff.mp e00
      obtain ⟨dx, e3, e4⟩ := Option.bind_eq_some_iff.mp e2
      obtain ⟨x0, _, _, hx0, _, _, _⟩ := r.take ed
      refine ⟨x0, hx0, ρ, F, d, ρ1, r, u, e1, fun v1 H1 Fd F1 r1 rv1 u1 s1 => ?_⟩
      obtain ⟨vx, G1, G2, q3, q4, q5, q6⟩ := r1.take e3
      rw [hx0] at q3
      cases q3
      have store : ∀ {d2 : Val} {v2 : V} {H2 : Hp} {Fz F0 : List Addr}, RepE X.K H2 (ρ1.set i none) σ F0 → Rep X.K H2 d2 v2 Fz → Step H F H2 (Fz ++ F0) → Uni (Fz ++ F0) → o = .nx (ρ1.set i (some d2)) → D.nx (σ.set i (some v2)) H2 := fun {d2 v2 H2 Fz F0} rr rz ss uu eo => by
        subst eo
        obtain ⟨F3, r3, c3⟩ := RepE.set rz rr (i := i) (by rw [rr.len]; exact (List.getElem?_eq_some_iff.mp hx0).1)
        rw [List.set_set] at r3
        have cc : ∀ b, F3.count b ≤ (Fz ++ F0).count b := fun b => by have := c3 b; simp only [cnt_app]; omega
        refine f _ H2 F3 r3 (uu.to cc) (ss.to cc) ⟨by simp, fun n hn => ?_⟩
        simp only [tgS, List.mem_singleton] at hn
        exact List.getElem?_set_ne (Ne.symm hn)
      cases q4 with
      | int a =>
        cases d with
        | int b =>
          cases e4
          cases rv1
          exact .inl ⟨a, b, rfl, rfl, store q5 (.int (a + b)) (s1.to fun z => by have := q6 z; simp only [cnt_app]; omega) (u1.to fun z => by have := q6 z; simp only [cnt_app]; omega) rfl⟩
        | _ => cases e4
      | @row a vs ds G1 hs ha =>
        cases d with
        | row es =>
          obtain ⟨hl, e5⟩ := guard_eq (show (if ds.length + es.length ≤ 16777216 then some (Out.nx (ρ1.set i (some (.row (ds ++ es))))) else none) = some o from e4)
          cases rv1 with
          | @row b ws es Fd hs2 ha2 =>
            refine .inr (.inl ⟨a, b, vs, ws, rfl, rfl, hs.sq, hs2.sq, by rw [← ha.len, ← ha2.len, sizeLine_eq]; exact hl, fun ev0 => ?_, fun _ ew0 => ?_, fun _ _ p ob hp hc hd => ?_⟩)
            · have z : ds = [] := List.length_eq_zero_iff.mp (by rw [ha.len, ev0]; rfl)
              subst z
              exact store q5 (.row hs2 ha2) (s1.to fun z => by have := q6 z; simp only [cnt_app]; omega) (u1.to fun z => by have := q6 z; simp only [cnt_app]; omega) e5.symm
            · have z : es = [] := List.length_eq_zero_iff.mp (by rw [ha2.len, ew0]; rfl)
              subst z
              rw [List.append_nil] at e5
              exact store q5 (.row hs ha) (s1.to fun z => by have := q6 z; simp only [cnt_app]; omega) (u1.to fun z => by have := q6 z; simp only [cnt_app]; omega) e5.symm
            · have gr := upd_grow (o := .frz ob (.tup (vs ++ ws))) hp
              exact store (q5.grow gr) (.row ⟨ob, upd_same, hc, hd⟩ ((ha.app ha2).growR gr)) ((s1.trans (Step.ext gr fun z => .inl (Nat.le_refl _))).to fun z => by have := q6 z; simp only [cnt_app]; omega) (u1.to fun z => by have := q6 z; simp only [cnt_app]; omega) e5.symm
        | _ => cases e4
      | @lst a vs ds G1 hs ha =>
        cases d with
        | lst es =>
          obtain ⟨hl, e5⟩ := guard_eq (show (if ds.length + es.length ≤ 16777216 then some (Out.nx (ρ1.set i (some (.lst (ds ++ es))))) else none) = some o from e4)
          cases rv1 with
          | @lst b ws es Fd hs2 ha2 =>
            subst e5
            have hab : a ≠ b := fun q => by
              subst q
              have := u1 a; have := q6 a
              rw [cnt_cons, if_pos rfl] at this
              rw [cnt_app, cnt_cons, if_pos rfl] at *; omega
            obtain ⟨Fp, p1, p2, p3⟩ := set_put (X := X) u1 q5 hx0 hs (ha.app ha2) fun z => by
              have := q6 z
              rw [cnt_cons] at this
              simp only [cnt_app, cnt_cons]; omega
            rw [List.set_set] at p1
            refine .inr (.inr ⟨a, b, vs, ws, rfl, rfl, hs, hs2, by rw [← ha.len, ← ha2.len, sizeLine_eq]; exact hl, ?_⟩)
            show D.nx (σ.set i (some (V.ref a))) _
            rw [set_self hx0]
            exact f σ _ Fp p1 p2 (s1.trans p3) .refl
        | _ => cases e4
      | _ => cases e4
    | sub =>
      cases h2
      refine PS_imp (ps_aug (op := .Sub) g.g.nd hN q1 he ip_sub q2) fun D σ H ⟨ρ, F, o, r, u, e0, f⟩ => ?_
      obtain ⟨dd, ed, e00⟩ := Option.bind_eq_some_iff.mp (show (Env.get ρ i).bind _ = some o from by simpa only [exS] using e0)
      obtain ⟨⟨d, ρ1⟩, e1, e2⟩ := Option.bind_eq_some_iff.mp e00
      obtain ⟨dx, e3, e4⟩ := Option.bind_eq_some_iff.mp e2
      obtain ⟨x0, _, _, hx0, _, _, _⟩ := r.take ed
      refine ⟨x0, hx0, ρ, F, d, ρ1, r, u, e1, fun v1 H1 Fd F1 r1 rv1 u1 s1 => ?_⟩
      obtain ⟨vx, G1, G2, q3, q4, q5, q6⟩ := r1.take e3
      rw [hx0] at q3
      cases q3
      cases q4 with
      | int a =>
        cases d with
        | int b =>
          cases e4
          cases rv1
          obtain ⟨F3, r3, c3⟩ := RepE.set (Rep.int (a - b)) r1 (i := i) (by rw [r1.len]; exact (List.getElem?_eq_some_iff.mp hx0).1)
          have cc : ∀ z, F3.count z ≤ ([] ++ F1).count z := fun z => by have := c3 z; simp only [cnt_app]; omega
          refine ⟨a, b, rfl, rfl, f _ H1 F3 r3 (u1.to cc) (s1.to cc) ⟨by simp, fun n hn => ?_⟩⟩
          simp only [tgS, List.mem_singleton] at hn
          exact List.getElem?_set_ne (Ne.symm hn)
        | _ => cases e4
      | _ => cases e4
    | _ => cases h2
  | .app i e, X, sc, st, g, c, h => by
    obtain ⟨o, m, apos, x, cpos, pos, e9, hq⟩ := inv_app h
    clear h
    subst e9
    have h := hq
    clear hq
    simp only [Bool.and_eq_true, beq_iff_eq] at h
    obtain ⟨⟨⟨⟨rfl, h1⟩, h2⟩, h3⟩, h4⟩ := h
    have hb : attributeBase o "append" X.env (eval o X.env) = eval o X.env := by cases o <;> first | rfl | (simp [mV] at h1)
    refine PS_imp (ps_expr (pe_bm F.plainAttrs_list F.slot_list_append F.type_list_append mt_append (pe_slot g.g h1) (pa_cons (okE T fu k N e X sc x g.g c h3).pe pa_nil (nst_star h4 _ _)) hb (by rw [nst_star h4]; rfl) (by rw [h2]; simp) (nst_star h4 _ _)) (sw_none rfl _ _ _)) fun D σ H ⟨ρ, F, oo, r, u, e0, f⟩ => ?_
    obtain ⟨hl, e1⟩ := guard3 (show (if (!isLst (Env.get ρ i)) = true then none else (ev (run T fu k) e ρ).bind _) = some oo from by simpa only [exS] using e0)
    obtain ⟨⟨d, ρ1⟩, e2, e3⟩ := Option.bind_eq_some_iff.mp e1
    obtain ⟨d9, h9⟩ : ∃ ds, Env.get ρ i = some (.lst ds) := by
      cases hg : Env.get ρ i with
      | none => rw [hg] at hl; exact absurd rfl hl
      | some d9 => cases d9 <;> first | exact ⟨_, rfl⟩ | (rw [hg] at hl; exact absurd rfl hl)
    obtain ⟨v0, F8, F9, hv0, rv0, _, _⟩ := r.take h9
    cases rv0 with
    | @lst a0 vs0 ds0 F8 hs0 _ =>
      refine ⟨.ref a0, hv0, .inl ⟨rfl, _, .of hs0⟩, ρ, F, d, ρ1, r, u, e2, fun v1 H1 Fd F1 r1 rv1 u1 s1 => ?_⟩
      cases eg : Env.get ρ1 i with
      | none => simp only [eg] at e3; cases e3
      | some dl =>
        simp only [eg] at e3
        cases dl with
        | lst ds =>
          obtain ⟨hlen, e4⟩ := guard_eq e3
          subst e4
          obtain ⟨vl, G1, G2, q1, q2, q3, q4⟩ := r1.take eg
          rw [hv0] at q1
          cases q1
          cases q2 with
          | @lst _ vs ds G1 hs ha =>
            obtain ⟨Fp, p1, p2, p3⟩ := set_put (X := X) u1 q3 hv0 hs (ha.app (.cons rv1 .nil)) fun b => by
              have := q4 b
              rw [cnt_cons] at this
              simp only [cnt_app, List.append_nil]; omega
            rw [List.set_set] at p1
            exact ⟨a0, vs, v1, rfl, rfl, hs, by rw [← ha.len, sizeLine_eq]; exact hlen, f σ _ Fp p1 p2 (s1.trans p3) .refl⟩
        | _ => cases e3
  | .rev i, X, sc, st, g, c, h => by
    obtain ⟨o, m, apos, cpos, pos, e9, hq⟩ := inv_rev h
    clear h
    subst e9
    have h := hq
    clear hq
    simp only [Bool.and_eq_true, beq_iff_eq] at h
    obtain ⟨⟨rfl, h1⟩, h2⟩ := h
    have hb : attributeBase o "reverse" X.env (eval o X.env) = eval o X.env := by cases o <;> first | rfl | (simp [mV] at h1)
    refine PS_imp (ps_expr (pe_bm0 F.plainAttrs_list F.slot_list_reverse F.type_list_reverse mt_reverse (pe_slot g.g h1) hb (by rw [h2]; simp)) (sw_none rfl _ _ _)) fun D σ H ⟨ρ, F, oo, r, u, e0, f⟩ => ?_
    cases eg : Env.get ρ i with
    | none => simp only [exS, eg] at e0; cases e0
    | some dl =>
      simp only [exS, eg] at e0
      cases dl with
      | lst ds =>
        cases e0
        obtain ⟨vl, G1, G2, q1, q2, q3, q4⟩ := r.take eg
        cases q2 with
        | @lst a vs ds G1 hs ha =>
          obtain ⟨G3, w1, w2⟩ := ha.rev
          obtain ⟨Fp, p1, p2, p3⟩ := set_put (X := X) u q3 q1 hs w1 fun b => by
            have := q4 b; have := w2 b
            rw [cnt_cons] at *; omega
          rw [List.set_set] at p1
          exact ⟨.ref a, q1, .inl ⟨rfl, _, .of hs⟩, a, vs, rfl, rfl, hs, f σ _ Fp p1 p2 p3 .refl⟩
      | _ => cases e0
  | .ex e, X, sc, st, g, c, h => by
    obtain ⟨v, pos, e9, hq⟩ := inv_ex h
    clear h
    subst e9
    have h := hq
    clear hq
    rw [Bool.and_eq_true] at h
    refine PS_imp (ps_expr (okE T fu k N e X sc v g.g c h.1).pe (sw_none h.2 _ _ _)) fun D σ H ⟨ρ, F, o, r, u, e0, f⟩ => ?_
    obtain ⟨⟨d, ρ1⟩, e1, e2⟩ := Option.map_eq_some_iff.mp (show (ev (run T fu k) e ρ).map _ = some o from by simpa only [exS] using e0)
    subst e2
    exact ⟨ρ, F, d, ρ1, r, u, e1, fun v H1 Fd F1 r1 rv u1 s1 => f σ H1 F1 r1 u1.right s1.less .refl⟩
  | .if_ t a b, X, sc, st, g, c, h => by
    obtain ⟨c', a', b', pos, e9, hq⟩ := inv_if h
    clear h
    subst e9
    have h := hq
    clear hq
    simp only [Bool.and_eq_true] at h
    obtain ⟨⟨⟨h0, h1⟩, h2⟩, h3⟩ := h
    refine PS_imp (ps_if ((okE T fu k N t X sc c' g.g c h1).pt h0) (okSs a X sc a' g c h2) (okSs b X sc b' g c h3)) fun D σ H ⟨ρ, F, o, r, u, e0, f⟩ => ?_
    obtain ⟨⟨d, ρ1⟩, e1, e2⟩ := Option.bind_eq_some_iff.mp (show (ev (run T fu k) t ρ).bind _ = some o from by simpa only [exS] using e0)
    cases d with
    | bl q =>
      refine ⟨ρ, F, q, ρ1, r, u, e1, fun H1 F1 r1 u1 s1 => ?_⟩
      cases q with
      | true =>
        simp only [if_true]
        exact ⟨ρ1, F1, o, r1, u1, e2, f.shift s1 (.refl (tg := [])) (fun j hj => nomatch hj) fun j hj => List.mem_append_left _ hj⟩
      | false =>
        simp only [Bool.false_eq_true, if_false]
        exact ⟨ρ1, F1, o, r1, u1, e2, f.shift s1 (.refl (tg := [])) (fun j hj => nomatch hj) fun j hj => List.mem_append_right _ hj⟩
    | _ => cases e2
  | .for_ tg it b, X, sc, st, g, c, h => by
    obtain ⟨t, i, body, pos, e9, hq⟩ := inv_for h
    clear h
    subst e9
    have h := hq
    clear hq
    simp only [Bool.and_eq_true] at h
    obtain ⟨⟨⟨⟨h1, h2⟩, h3⟩, h4⟩, h5⟩ := h
    have hp : PassesOwn (model X.prog X.w) X.A X.env X.xe := by rw [g.xe]; exact PassesOwn.never
    refine PS_imp (ps_for hp g.g.calm (okIt T fu k N it X sc t i g.g c h2) (tg_ok g.g g.st tg t h1) (okSs b X sc body g c h5) (set_iter h3 X.env)) fun D σ H ⟨ρ, F, o, r, u, e0, f⟩ => ?_
    obtain ⟨⟨w, ρ1⟩, e1, e2⟩ := Option.bind_eq_some_iff.mp (show (evIt (run T fu k) it ρ).bind _ = some o from by simpa only [exS] using e0)
    exact ⟨ρ, F, w, ρ1, r, u, e1, fun J H1 Ft F1 r1 ok u1 s1 mt hck => for_walk r1 ok u1 s1 mt (fun j hj => by
      have e9 := hck j hj
      subst e9
      simpa [itSlot] using h4) e2 f⟩
  | .while_ t b, X, sc, st, g, c, h => by
    obtain ⟨c', body, pos, e9, hq⟩ := inv_while h
    clear h
    subst e9
    have h := hq
    clear hq
    simp only [Bool.and_eq_true] at h
    obtain ⟨⟨h0, h1⟩, h2⟩ := h
    have hp : PassesOwn (model X.prog X.w) X.A X.env X.xe := by rw [g.xe]; exact PassesOwn.never
    refine PS_imp (ps_while hp ((okE T fu k N t X sc c' g.g c h1).pt h0) (okSs b X sc body g c h2)) fun D σ H ⟨ρ, F, o, r, u, e0, f⟩ => ?_
    exact while_walk r u (show whileL (ev (run T fu k) t) (exSs (run T fu k) fu b) fu ρ = some o from by simpa only [exS] using e0) f
  | .ret e, X, sc, st, g, c, h => by
    obtain ⟨v, pos, e9, hq⟩ := inv_ret h
    clear h
    subst e9
    have h := hq
    clear hq
    refine PS_imp (ps_ret (okE T fu k N e X sc v g.g c h).pe) fun D σ H ⟨ρ, F, o, r, u, e0, f⟩ => ?_
    obtain ⟨⟨d, ρ1⟩, e1, e2⟩ := Option.map_eq_some_iff.mp (show (ev (run T fu k) e ρ).map _ = some o from by simpa only [exS] using e0)
    subst e2
    exact ⟨ρ, F, d, ρ1, r, u, e1, fun v H1 Fd F1 r1 rv u1 s1 => f v σ H1 Fd F1 r1 rv u1 s1 .refl⟩
  | .retN, X, sc, st, g, c, h => by
    obtain ⟨pos, rfl⟩ := inv_retN h
    exact PS_imp ps_retN fun D σ H ⟨ρ, F, o, r, u, e, f⟩ => by
      cases e
      exact f _ σ H [] F r .non u .refl .refl
  | .brk, X, sc, st, g, c, h => by
    obtain ⟨pos, rfl⟩ := inv_brk h
    exact PS_imp ps_break fun D σ H ⟨ρ, F, o, r, u, e, f⟩ => by
      cases e
      exact f σ H F r u .refl .refl
  | .cont, X, sc, st, g, c, h => by
    obtain ⟨pos, rfl⟩ := inv_cont h
    exact PS_imp ps_continue fun D σ H ⟨ρ, F, o, r, u, e, f⟩ => by
      cases e
      exact f σ H F r u .refl .refl
  | .pass, X, sc, st, g, c, h => by
    obtain ⟨pos, rfl⟩ := inv_pass h
    exact PS_imp ps_pass fun D σ H ⟨ρ, F, o, r, u, e, f⟩ => by
      cases e
      exact f σ H F r u .refl .refl
theorem okSs : ∀ (s : Ss) (X : Cx) (sc : Scope) (st : List Stmt), GoodS X N sc → Calls X T fu k → mSs T N sc s st = true → PSs X st (TSs X.K (run T fu k) fu s)
  | .nil, X, sc, st, g, c, h => by
    rw [inv_nil h]
    exact PSs_imp pss_nil fun D σ H ⟨ρ, F, o, r, u, e, f⟩ => by
      cases e
      exact f σ H F r u .refl .refl
  | .cons s rs, X, sc, st, g, c, h => by
    obtain ⟨x, xs, e9, hq⟩ := inv_cons h
    clear h
    subst e9
    have h := hq
    clear hq
    rw [Bool.and_eq_true] at h
    refine PSs_imp (pss_cons (okS s X sc x g c h.1) (okSs rs X sc xs g c h.2)) fun D σ H ⟨ρ, F, o, r, u, e0, f⟩ => ?_
    obtain ⟨o1, e1, e2⟩ := Option.bind_eq_some_iff.mp (show (exS (run T fu k) fu s ρ).bind _ = some o from by simpa only [exSs] using e0)
    have hl : ∀ j ∈ tgS s, j ∈ tgSs (.cons s rs) := fun j hj => List.mem_append_left _ hj
    have hr : ∀ j ∈ tgSs rs, j ∈ tgSs (.cons s rs) := fun j hj => List.mem_append_right _ hj
    refine ⟨ρ, F, o1, r, u, e1, ?_⟩
    cases o1 with
    | nx ρ1 => exact fun σ' H' F' r' u' s' k' => ⟨ρ1, F', o, r', u', e2, f.shift s' k' hl hr⟩
    | rt d ρ1 =>
      cases e2
      exact fun v σ' H' Fd F' r' rd u' s' k' => f v σ' H' Fd F' r' rd u' s' (k'.up hl)
    | bk ρ1 =>
      cases e2
      exact fun σ' H' F' r' u' s' k' => f σ' H' F' r' u' s' (k'.up hl)
    | ct ρ1 =>
      cases e2
      exact fun σ' H' F' r' u' s' k' => f σ' H' F' r' u' s' (k'.up hl)
end
end
end NV

set_option Elab.async false
set_option linter.all false
set_option maxRecDepth 100000
set_option maxHeartbeats 8000000
/-! Every def of a table is what it comes to. -/
namespace NV
open PySem PySem.Spec L2
section
variable {K : PySem.W.Frag} {H : Hp}
theorem frame_rep : ∀ {ds : List Val} {vs : List V} {F : List Addr} (n : Nat), AllP (Rep K H) ds vs F → RepE K H (ds.map some ++ List.replicate n none) (vs.map some ++ List.replicate n none) F
  | [], [], F, n, h => by
    cases h
    induction n with
    | zero => rfl
    | succ n ih => exact ih
  | d :: ds, v :: vs, F, n, h => by
    obtain ⟨F1, F2, e, r, t⟩ := h.cons1
    exact ⟨v, F1, F2, rfl, r, frame_rep n t, e⟩
  | [], _ :: _, _, _, h => nomatch h
  | _ :: _, [], _, _, h => nomatch h
theorem outs_rep {tg : List Nat} : ∀ (vs : List V) (j : Nat) (ρ : Env) (σ : L2.St) (F : List Addr), RepE K H ρ σ F → (∀ m v, vs[m]? = some v → j + m ∉ tg → σ[m]? = some (some v)) → ∃ Fo, RepE K H (outs tg j vs.length ρ) (vs.map some) Fo ∧ ∀ a, Fo.count a ≤ F.count a
  | [], j, ρ, σ, F, r, h => ⟨[], by cases ρ <;> rfl, fun a => by simp⟩
  | v :: vs, j, [], [], F, r, h => by
    obtain ⟨Fo, r2, c2⟩ := outs_rep (tg := tg) vs (j + 1) [] [] F r fun m w hm hn => by
      have := h (m + 1) w (by simpa using hm) (by rw [show j + (m + 1) = j + 1 + m by omega]; exact hn)
      simp at this
    exact ⟨Fo, r2, c2⟩
  | v :: vs, j, x :: ρ, y :: σ, F, r, h => by
    have hs : ∀ m w, vs[m]? = some w → j + 1 + m ∉ tg → σ[m]? = some (some w) := fun m w hm hn => by
      have := h (m + 1) w (by simpa using hm) (by rw [show j + (m + 1) = j + 1 + m by omega]; exact hn)
      simpa using this
    cases x with
    | none =>
      obtain ⟨Fo, r2, c2⟩ := outs_rep vs (j + 1) ρ σ F r hs
      refine ⟨Fo, ?_, c2⟩
      show RepE K H ((if tg.contains j = true then none else none) :: _) _ _
      rw [ite_self]
      exact r2
    | some d =>
      obtain ⟨v', F1, F2, e1, rd, rr, e2⟩ := r
      obtain ⟨Fo, r2, c2⟩ := outs_rep vs (j + 1) ρ σ F2 rr hs
      by_cases hj : tg.contains j = true
      · refine ⟨Fo, ?_, fun a => by have := c2 a; subst e2; rw [cnt_app]; omega⟩
        show RepE K H ((if tg.contains j = true then none else some d) :: _) _ _
        rw [if_pos hj]
        exact r2
      · have e3 := h 0 v rfl (by simpa using hj)
        simp at e3
        subst e1
        cases e3
        refine ⟨F1 ++ Fo, ?_, fun a => by have := c2 a; subst e2; rw [cnt_app, cnt_app]; omega⟩
        show RepE K H ((if tg.contains j = true then none else some d) :: _) _ _
        rw [if_neg hj]
        exact ⟨v, F1, Fo, rfl, rd, r2, rfl⟩
  | _ :: _, _, [], _ :: _, _, r, _ => r.elim
  | _ :: _, _, none :: _, [], _, r, _ => r.elim
  | _ :: _, _, some _ :: _, [], _, r, _ => r.elim
end
/-- what stands of a table's defs behind the top -/
structure Stands (K : PySem.W.Frag) (mg : Str → Option Value) (T : List FnR) : Prop where
  fns : ∀ (i : Nat) (f : FnR), T[i]? = some f → ∃ a fd st, L2.Fun K f.name f.name st a fd ∧ mg f.name = some (.ref a) ∧ Binds K fd f.ps [] ∧ FnScope f.ns f.ps (defScope st) ∧ mSs T f.ns (defScope st) f.body (defBody st) = true
  bn : ∀ x ∈ bnames, mg x = none
theorem start_at {N : List Str} {vs : List V} {m : Nat} {v : V} (h : vs[m]? = some v) : (L2.start N vs)[m]? = some (some v) := by
  unfold L2.start
  have hl := (List.getElem?_eq_some_iff.mp h).1
  rw [List.getElem?_append_left (by simpa using hl), List.getElem?_map, h]; rfl
theorem all_ok {P : Program} {w : World} {K : PySem.W.Frag} {mg : Str → Option Value} {base : Heap} {T : List FnR} {fu : Nat} (S : Stands K mg T) :
    ∀ (k i : Nat) (f : FnR), T[i]? = some f → ∃ a fd, FnOk P w K mg base CX0 k a fd f.ps (spF K T fu k i) ∧ mg f.name = some (.ref a) ∧ PySem.W.keepIn K (.ref a) = true ∧ Binds K fd f.ps [] ∧ ∃ st, L2.Fun K f.name f.name st a fd := by
  intro k
  induction k with
  | zero =>
    intro i f hf
    obtain ⟨a, fd, st, F, hm, hb, _, _⟩ := S.fns i f hf
    refine ⟨a, fd, ⟨fun vs H Q E ⟨ds, G, d, os, _, _, e, _⟩ => ?_, fun A outer s H args us vs Q E hr e0 hb rv ⟨ds, G, d, os, _, _, e, _⟩ => ?_⟩, hm, F.kp, hb, st, F⟩
    · cases e
    · cases e
  | succ k ih =>
    intro i f hf
    obtain ⟨a, fd, st, F, hm, hb, hs, hmat⟩ := S.fns i f hf
    have run1 : ∀ ds, run T fu (k + 1) i ds = if ds.length = f.ps.length then (exSs (run T fu k) fu f.body (frame f ds)).bind (finish (tgSs f.body) f.ps.length) else none := fun ds => by
      show (match T[i]? with | none => none | some f => if ds.length = f.ps.length then (exSs (run T fu k) fu f.body (frame f ds)).bind (finish (tgSs f.body) f.ps.length) else none) = _
      rw [hf]
    refine ⟨a, fd, F.ok hs (fun vs H Q E ⟨ds, G, d, os, ra, _, e, _⟩ => ?_) (fun cdv A outer s H vs Q E hr ⟨ds, G, d, os, ra, u, e, post⟩ => ?_), hm, F.kp, hb, st, F⟩
    · rw [run1] at e
      rw [← ra.len]
      exact (guard2 e).1
    · rw [run1] at e
      obtain ⟨hl, e1⟩ := guard2 e
      obtain ⟨o, e2, e3⟩ := Option.bind_eq_some_iff.mp e1
      have hlv : vs.length = f.ps.length := by rw [← ra.len]; exact hl
      have g : GoodS (cxOf CX0 P w K mg base f.ns f.name (defScope st) a cdv A outer s H E).nox f.ns (defScope st) :=
        ⟨⟨rfl, rfl, hs.nd, rfl, S.bn, by have q := hr.un; show (A.deeper (PyProof.Rows.envOfC f.name (defScope st) s.heap.objs.size a cdv)).units + 65 < cLine; omega⟩, hs.kind, fun x hx => ⟨loc_of hx, .inl rfl⟩, rfl⟩
      have c : Calls (cxOf CX0 P w K mg base f.ns f.name (defScope st) a cdv A outer s H E).nox T fu k := ⟨hr, fun i f hf => let ⟨a, fd, q1, q2, q3, q4, _⟩ := ih i f hf; ⟨a, fd, q1, q2, q3, q4⟩⟩
      refine ⟨TSs K (run T fu k) fu f.body, okSs T fu k f.ns f.body _ (defScope st) (defBody st) g c hmat, ?_⟩
      have r0 : RepE K H (frame f ds) (L2.start f.ns vs) G := by
        unfold frame L2.start
        rw [ra.len]
        exact frame_rep _ ra
      have outs' : ∀ {ρ' : Env} {σ' : L2.St} {H' : Hp} {F' : List Addr}, RepE K H' ρ' σ' F' → Keeps (tgSs f.body) (L2.start f.ns vs) σ' → ∃ Fo, RepE K H' (outs (tgSs f.body) 0 f.ps.length ρ') (vs.map some) Fo ∧ ∀ a, Fo.count a ≤ F'.count a := fun {ρ' σ' H' F'} r' k' => by
        rw [← hlv]
        exact outs_rep vs 0 ρ' σ' F' r' fun m v hm hn => by
          rw [k'.2 m (by simpa using hn)]
          exact start_at hm
      refine ⟨frame f ds, G, o, r0, u, e2, ?_⟩
      cases o with
      | nx ρ' =>
        cases e3
        intro σ' H' F' r' u' s' k'
        obtain ⟨Fo, ro, co⟩ := outs' r' k'
        exact post .non H' [] Fo .non ro (u'.to fun z => by simpa using co z) (s'.to fun z => by simpa using co z)
      | rt d' ρ' =>
        cases e3
        intro v σ' H' Fd F' r' rd u' s' k'
        obtain ⟨Fo, ro, co⟩ := outs' r' k'
        have cc : ∀ z, (Fd ++ Fo).count z ≤ (Fd ++ F').count z := fun z => by have := co z; simp only [cnt_app]; omega
        exact post v H' Fd Fo rd ro (u'.to cc) (s'.to cc)
      | bk ρ' => cases e3
      | ct ρ' => cases e3
/-- the law's promise: whatever the script, it comes to True -/
def spLaw (T : List FnR) (fu k i : Nat) (K : PySem.W.Frag) : Sp := fun vs H Q _ => ∃ (a : Addr) (ns : List Int), vs = [.ref a] ∧ Froz K H a ns ∧ ns.length ≤ 63 ∧ ∀ H', Q (.bl true) H'
theorem fun_one {K : PySem.W.Frag} {x y p q : Str} {st st2 : Stmt} {a : Addr} {fd fd2 : FuncData} (F : L2.Fun K x p st a fd) (G : L2.Fun K y q st2 a fd2) : fd = fd2 := by
  obtain ⟨_, _, _, _, _, _, _, _, _, _, e, _⟩ := F.ex
  obtain ⟨_, _, _, _, _, _, _, _, _, _, e2, _⟩ := G.ex
  rw [e] at e2
  cases e2
  rfl
theorem law_ok {P : Program} {w : World} {K : PySem.W.Frag} {mg : Str → Option Value} {base : Heap} {T : List FnR} {fu k i : Nat} {f : FnR} {fa : Addr} {st0 : Stmt} {fd0 : FuncData} (S : Stands K mg T) (hf : T[i]? = some f) (hfa : mg f.name = some (.ref fa)) (hp : f.ps = ([("script" : Str)] : List Str)) (F0 : L2.Fun K f.name f.name st0 fa fd0)
    (law : ∀ ns : List Int, ns.length ≤ 63 → ∃ os, run T fu k i [.flst ns] = some (.bl true, os)) : FnOk P w K mg base CX0 k fa fd0 [("script" : Str)] (spLaw T fu k i K) := by
  obtain ⟨a, fd, F, hm, _, hb, st, F1⟩ := all_ok (P := P) (w := w) (base := base) (fu := fu) S k i f hf
  rw [hfa] at hm
  cases hm
  cases fun_one F1 F0
  rw [hp] at F
  refine F.imp fun vs H Q E ⟨a, ns, e, hz, hl, q⟩ => ?_
  subst e
  obtain ⟨os, e⟩ := law ns hl
  exact ⟨[.flst ns], [], .bl true, os, AllP.cons (F := []) (G := []) (.flst hz) .nil, Uni.nil, e, fun v H' Fd Fo rv ro u s => by cases rv; exact q H'⟩
end NV
namespace NV
open PySem PySem.Spec L2
theorem froz_of {K : PySem.W.Frag} {H : Hp} {a : Addr} {ns : List Int} (hO : Only H) (h : SqL K H a (ns.map V.int)) : Froz K H a ns := by
  rcases h with (h | ⟨o, h⟩) | ⟨o, its, n, h⟩
  · rcases hO a with e | ⟨o, xs, e⟩
    · rw [e] at h; cases h
    · rw [e] at h; cases h
  · exact .inl ⟨o, h⟩
  · exact .inr ⟨o, its, n, by simpa using h⟩
end NV

set_option Elab.async false
set_option linter.all false
set_option maxRecDepth 100000
set_option maxHeartbeats 1000000
/-! Plain laws of the small language's loops. -/
namespace NV
open PySem L2
theorem fl_nil {held : Env → Bool} {tg : Tg} {body : Env → Option Out} {ρ : Env} : forL held tg body [] ρ = if held ρ then some (.nx ρ) else none := rfl
theorem fl_cons {held : Env → Bool} {tg : Tg} {body : Env → Option Out} {v : Val} {vs : List Val} {ρ : Env} : forL held tg body (v :: vs) ρ = if held ρ then (asg tg v ρ).bind fun ρ1 => (body ρ1).bind fun o => match o with
    | .nx ρ2 => forL held tg body vs ρ2
    | .ct ρ2 => forL held tg body vs ρ2
    | .bk ρ2 => some (.nx ρ2)
    | .rt d ρ2 => some (.rt d ρ2) else none := rfl
theorem cl_nil {held : Env → Bool} {step : Val → Env → Option (Option Val × Env)} {ρ : Env} : compL held step [] ρ = if held ρ then some ([], ρ) else none := rfl
theorem cl_cons {held : Env → Bool} {step : Val → Env → Option (Option Val × Env)} {v : Val} {vs : List Val} {ρ : Env} : compL held step (v :: vs) ρ = if held ρ then (step v ρ).bind fun r => (compL held step vs r.2).map fun t => (match r.1 with | some x => x :: t.1 | none => t.1, t.2) else none := rfl
theorem forL_go {held : Env → Bool} {tg : Tg} {body : Env → Option Out} (I : Nat → Env → Prop) : ∀ (vals : List Val) (j : Nat) (ρ : Env), I j ρ →
    (∀ m v ρ, vals[m]? = some v → I (j + m) ρ → held ρ = true ∧ ∃ ρ1 ρ2, asg tg v ρ = some ρ1 ∧ (body ρ1 = some (.nx ρ2) ∨ body ρ1 = some (.ct ρ2)) ∧ I (j + m + 1) ρ2) →
    (∀ ρ, I (j + vals.length) ρ → held ρ = true) → ∃ ρ', forL held tg body vals ρ = some (.nx ρ') ∧ I (j + vals.length) ρ'
  | [], j, ρ, h, _, hh => ⟨ρ, by rw [fl_nil, if_pos (hh ρ h)], h⟩
  | v :: vs, j, ρ, h, hs, hh => by
    obtain ⟨h1, ρ1, ρ2, e1, e2, h2⟩ := hs 0 v ρ rfl h
    obtain ⟨ρ', e3, h3⟩ := forL_go (held := held) (tg := tg) (body := body) I vs (j + 1) ρ2 h2 (fun m w ρ hm hi => by
      have q := hs (m + 1) w ρ (by simpa using hm) (by rw [show j + (m + 1) = j + 1 + m by omega]; exact hi)
      rw [show j + (m + 1) = j + 1 + m by omega] at q
      exact q) (fun ρ hi => hh ρ (by rw [List.length_cons, show j + (vs.length + 1) = j + 1 + vs.length by omega]; exact hi))
    refine ⟨ρ', ?_, by rw [List.length_cons, show j + (vs.length + 1) = j + 1 + vs.length by omega]; exact h3⟩
    rw [fl_cons, if_pos h1, e1]
    show (body ρ1).bind _ = _
    rcases e2 with e2 | e2 <;> rw [e2] <;> exact e3
theorem rngVals_len (lo : Int) (n : Nat) : (rngVals lo n).length = n := by simp [rngVals]
theorem rngVals_at {lo : Int} {n m : Nat} {v : Val} (h : (rngVals lo n)[m]? = some v) : m < n ∧ v = .int (lo + (m : Nat)) := by
  unfold rngVals at h
  rw [List.getElem?_map] at h
  by_cases hm : m < n
  · rw [List.getElem?_range hm] at h
    cases h
    exact ⟨hm, rfl⟩
  · rw [List.getElem?_eq_none (by simpa using hm)] at h
    cases h
/-- a walk of a range: what holds at its begin and goes on at each turn holds at its end -/
theorem forL_rng {tg : Tg} {body : Env → Option Out} (I : Nat → Env → Prop) (lo : Int) (n : Nat) (ρ : Env) (h : I 0 ρ)
    (hs : ∀ m ρ, m < n → I m ρ → ∃ ρ1 ρ2, asg tg (.int (lo + (m : Nat))) ρ = some ρ1 ∧ (body ρ1 = some (.nx ρ2) ∨ body ρ1 = some (.ct ρ2)) ∧ I (m + 1) ρ2) :
    ∃ ρ', forL (Itr.held ⟨rngVals lo n, none⟩) tg body (rngVals lo n) ρ = some (.nx ρ') ∧ I n ρ' := by
  obtain ⟨ρ', e, h'⟩ := forL_go (held := Itr.held ⟨rngVals lo n, none⟩) (tg := tg) (body := body) I (rngVals lo n) 0 ρ h (fun m v ρ hm hi => by
    obtain ⟨hm2, rfl⟩ := rngVals_at hm
    rw [Nat.zero_add] at hi ⊢
    obtain ⟨ρ1, ρ2, q⟩ := hs m ρ hm2 hi
    exact ⟨rfl, ρ1, ρ2, q⟩) (fun _ _ => rfl)
  rw [Nat.zero_add, rngVals_len] at h'
  exact ⟨ρ', e, h'⟩
theorem compL_map {held : Env → Bool} {step : Val → Env → Option (Option Val × Env)} {f : Val → Val} {ρ : Env} (hh : held ρ = true) : ∀ vs : List Val, (∀ v ∈ vs, step v ρ = some (some (f v), ρ)) → compL held step vs ρ = some (vs.map f, ρ)
  | [], _ => by rw [cl_nil, if_pos hh]; rfl
  | v :: vs, h => by
    rw [cl_cons, if_pos hh, h v (by simp)]
    show (compL held step vs ρ).map _ = _
    rw [compL_map hh vs fun w hw => h w (by simp [hw])]
    rfl
theorem compL_filter {held : Env → Bool} {step : Val → Env → Option (Option Val × Env)} {p : Val → Bool} {f : Val → Val} {ρ : Env} (hh : held ρ = true) : ∀ vs : List Val, (∀ v ∈ vs, step v ρ = some (if p v then some (f v) else none, ρ)) → compL held step vs ρ = some ((vs.filter p).map f, ρ)
  | [], _ => by rw [cl_nil, if_pos hh]; rfl
  | v :: vs, h => by
    rw [cl_cons, if_pos hh, h v (by simp)]
    show (compL held step vs ρ).map _ = _
    rw [compL_filter hh vs fun w hw => h w (by simp [hw])]
    by_cases q : p v = true
    · rw [if_pos q, List.filter_cons_of_pos q]; rfl
    · rw [if_neg q, List.filter_cons_of_neg q]; rfl
/-- over ints -/
theorem compL_ints {held : Env → Bool} {step : Val → Env → Option (Option Val × Env)} {f : Int → Val} {ρ : Env} (hh : held ρ = true) : ∀ ns : List Int, (∀ n ∈ ns, step (.int n) ρ = some (some (f n), ρ)) → compL held step (ns.map Val.int) ρ = some (ns.map f, ρ)
  | [], _ => by rw [List.map_nil, cl_nil, if_pos hh]; rfl
  | v :: vs, h => by
    rw [List.map_cons]
    rw [cl_cons, if_pos hh, h v (by simp)]
    show (compL held step (vs.map Val.int) ρ).map _ = _
    rw [compL_ints hh vs fun w hw => h w (by simp [hw])]
    rfl
theorem compL_intsIf {held : Env → Bool} {step : Val → Env → Option (Option Val × Env)} {p : Int → Bool} {f : Int → Val} {ρ : Env} (hh : held ρ = true) : ∀ ns : List Int, (∀ n ∈ ns, step (.int n) ρ = some (if p n then some (f n) else none, ρ)) → compL held step (ns.map Val.int) ρ = some ((ns.filter p).map f, ρ)
  | [], _ => by rw [List.map_nil, cl_nil, if_pos hh]; rfl
  | v :: vs, h => by
    rw [List.map_cons]
    rw [cl_cons, if_pos hh, h v (by simp)]
    show (compL held step (vs.map Val.int) ρ).map _ = _
    rw [compL_intsIf hh vs fun w hw => h w (by simp [hw])]
    by_cases q : p v = true
    · rw [if_pos q, List.filter_cons_of_pos q]; rfl
    · rw [if_neg q, List.filter_cons_of_neg q]; rfl
/-- with what changes from turn to turn -/
theorem compL_inv {held : Env → Bool} {step : Val → Env → Option (Option Val × Env)} (I : Nat → List Val → Env → Prop) : ∀ (vs : List Val) (j : Nat) (acc : List Val) (ρ : Env), I j acc ρ → (∀ j acc ρ, I j acc ρ → held ρ = true) →
    (∀ m v acc ρ, vs[m]? = some v → I (j + m) acc ρ → ∃ x ρ', step v ρ = some (some x, ρ') ∧ I (j + m + 1) (acc ++ [x]) ρ') →
    ∃ xs ρ', compL held step vs ρ = some (xs, ρ') ∧ I (j + vs.length) (acc ++ xs) ρ'
  | [], j, acc, ρ, h, hh, _ => ⟨[], ρ, by rw [cl_nil, if_pos (hh _ _ _ h)], by simpa using h⟩
  | v :: vs, j, acc, ρ, h, hh, hs => by
    obtain ⟨x, ρ1, e1, h1⟩ := hs 0 v acc ρ rfl h
    obtain ⟨xs, ρ', e2, h2⟩ := compL_inv (held := held) (step := step) I vs (j + 1) (acc ++ [x]) ρ1 h1 hh (fun m w a ρ hm hi => by
      have q := hs (m + 1) w a ρ (by simpa using hm) (by rw [show j + (m + 1) = j + 1 + m by omega]; exact hi)
      rw [show j + (m + 1) = j + 1 + m by omega] at q
      exact q)
    refine ⟨x :: xs, ρ', ?_, ?_⟩
    · rw [cl_cons, if_pos (hh _ _ _ h), e1]
      show (compL held step vs ρ1).map _ = _
      rw [e2]
      rfl
    · rw [List.length_cons, show j + (vs.length + 1) = j + 1 + vs.length by omega]
      simpa using h2
end NV

set_option Elab.async false
set_option linter.all false
set_option maxRecDepth 100000
set_option maxHeartbeats 1000000
/-! The evaluator's equations, for simp; the draws of a script; values that are the same. -/
namespace NV
section
variable {cf : Nat → List Val → Option (Val × List (Option Val))} {fu : Nat} {ρ : Env}
@[simp] theorem x_getz {x : Option Val} : Env.get (x :: ρ) 0 = x := rfl
@[simp] theorem x_gets {x : Option Val} {n : Nat} : Env.get (x :: ρ) (n + 1) = Env.get ρ n := rfl
@[simp] theorem x_pkc {v : Val} : pk (.c v) ρ = some v := rfl
@[simp] theorem x_pkv {i : Nat} : pk (.v i) ρ = Env.get ρ i := rfl
@[simp] theorem x_pk1 {p : P1} {a : Q} : pk (.p1 p a) ρ = (pk a ρ).bind fun x => prim1 p x := rfl
@[simp] theorem x_pkl {a : Q} : pk (.l1 a) ρ = (pk a ρ).map fun x => .lst [x] := rfl
@[simp] theorem x_pk2 {p : P2} {a b : Q} : pk (.p2 p a b) ρ = (pk a ρ).bind fun x => (pk b ρ).bind fun y => prim2 p x y := rfl
@[simp] theorem x_pko : pkO .no ρ = some none := rfl
@[simp] theorem x_pky {q : Q} : pkO (.yes q) ρ = (pk q ρ).bind fun x => match x with
    | .int i => some (some i)
    | _ => none := rfl
@[simp] theorem x_q {q : Q} : ev cf (.q q) ρ = (pk q ρ).bind fun d => if imm d then some (d, ρ) else none := rfl
@[simp] theorem x_mv {i : Nat} : ev cf (.mv i) ρ = (Env.get ρ i).map fun d => (d, ρ.set i none) := rfl
@[simp] theorem x_p1 {p : P1} {a : Op} : ev cf (.p1 p a) ρ = (evOp cf a ρ).bind fun r => (r.1.res r.2).bind fun x => (prim1 p x).bind fun d => if own p.fresh d then some (d, r.2) else none := rfl
@[simp] theorem x_p2 {p : P2} {a b : Op} : ev cf (.p2 p a b) ρ = (evOp cf a ρ).bind fun r => (evOp cf b r.2).bind fun t => if b.isE && !r.1.firm && a.isQ then none else
      (r.1.res t.2).bind fun x => (t.1.res t.2).bind fun y => (prim2 p x y).bind fun d => if own p.fresh d then some (d, t.2) else none := rfl
@[simp] theorem x_sl {a : Op} {lo hi : OQ} : ev cf (.sl a lo hi) ρ = (evOp cf a ρ).bind fun r => (r.1.res r.2).bind fun x => (pkO lo r.2).bind fun l => (pkO hi r.2).bind fun h => (primS x l h).bind fun d => if own true d then some (d, r.2) else none := rfl
@[simp] theorem x_and {a b : E} : ev cf (.and_ a b) ρ = (ev cf a ρ).bind fun r => match r.1 with
    | .bl true => ev cf b r.2
    | .bl false => some (.bl false, r.2)
    | _ => none := rfl
@[simp] theorem x_or {a b : E} : ev cf (.or_ a b) ρ = (ev cf a ρ).bind fun r => match r.1 with
    | .bl false => ev cf b r.2
    | .bl true => some (.bl true, r.2)
    | _ => none := rfl
@[simp] theorem x_ite {c a b : E} : ev cf (.ite_ c a b) ρ = (ev cf c ρ).bind fun r => match r.1 with
    | .bl true => ev cf a r.2
    | .bl false => ev cf b r.2
    | _ => none := rfl
@[simp] theorem x_not {a : E} : ev cf (.not_ a) ρ = (ev cf a ρ).bind fun r => match r.1 with
    | .bl x => some (.bl (!x), r.2)
    | _ => none := rfl
@[simp] theorem x_tup {es : Es} : ev cf (.tup es) ρ = (evEs cf es ρ).map fun r => (.tup r.1, r.2) := rfl
@[simp] theorem x_lst {es : Es} : ev cf (.lst es) ρ = (evEs cf es ρ).map fun r => (.lst r.1, r.2) := rfl
@[simp] theorem x_call {f : Nat} {as : As} : ev cf (.call f as) ρ = (evAs cf as ρ).bind fun r => (cf f (r.1.map (·.1))).map fun t => (t.1, wback (r.1.map (·.2)) t.2 r.2) := rfl
@[simp] theorem x_pop {i : Nat} : ev cf (.pop i) ρ = (Env.get ρ i).bind fun d => match d with
    | .lst ds => (ds.getLast?).map fun x => (x, ρ.set i (some (.lst ds.dropLast)))
    | _ => none := rfl
@[simp] theorem x_ov {i : Nat} : evOp cf (.v i) ρ = (Env.get ρ i).map fun _ => (.v i, ρ) := rfl
@[simp] theorem x_oq {q : Q} : evOp cf (.q q) ρ = (pk q ρ).map fun x => (.d x, ρ) := rfl
@[simp] theorem x_oe {e : E} : evOp cf (.e e) ρ = (ev cf e ρ).map fun r => (.d r.1, r.2) := rfl
@[simp] theorem x_resv {i : Nat} : Opd.res ρ (.v i) = Env.get ρ i := rfl
@[simp] theorem x_resd {d : Val} : Opd.res ρ (.d d) = some d := rfl
@[simp] theorem x_firmv {i : Nat} : Opd.firm (.v i) = true := rfl
@[simp] theorem x_firmd {d : Val} : Opd.firm (.d d) = imm d := rfl
@[simp] theorem x_isEv {i : Nat} : Op.isE (.v i) = false := rfl
@[simp] theorem x_isEq {q : Q} : Op.isE (.q q) = false := rfl
@[simp] theorem x_isEe {e : E} : Op.isE (.e e) = true := rfl
@[simp] theorem x_isQv {i : Nat} : Op.isQ (.v i) = false := rfl
@[simp] theorem x_isQq {q : Q} : Op.isQ (.q q) = true := rfl
@[simp] theorem x_isQe {e : E} : Op.isQ (.e e) = false := rfl
@[simp] theorem x_esn : evEs cf .nil ρ = some ([], ρ) := rfl
@[simp] theorem x_esc {e : E} {es : Es} : evEs cf (.cons e es) ρ = (ev cf e ρ).bind fun r => (evEs cf es r.2).map fun t => (r.1 :: t.1, t.2) := rfl
@[simp] theorem x_asn : evAs cf .nil ρ = some ([], ρ) := rfl
@[simp] theorem x_asv {i : Nat} {as : As} : evAs cf (.v i as) ρ = (Env.get ρ i).bind fun d => if imm d then (evAs cf as ρ).map fun t => ((d, none) :: t.1, t.2) else (evAs cf as ρ).bind fun t => (Env.get t.2 i).map fun d2 => ((d2, some i) :: t.1, t.2.set i none) := rfl
@[simp] theorem x_ase {e : E} {as : As} : evAs cf (.e e as) ρ = (ev cf e ρ).bind fun r => (evAs cf as r.2).map fun t => ((r.1, none) :: t.1, t.2) := rfl
@[simp] theorem x_wbs {i : Nat} {js : List (Option Nat)} {d : Option Val} {ds : List (Option Val)} : wback (some i :: js) (d :: ds) ρ = wback js ds (ρ.set i d) := rfl
@[simp] theorem x_wbn {js : List (Option Nat)} {d : Option Val} {ds : List (Option Val)} : wback (none :: js) (d :: ds) ρ = wback js ds ρ := rfl
@[simp] theorem x_wbe {ds : List (Option Val)} : wback [] ds ρ = ρ := by cases ds <;> rfl
@[simp] theorem x_ssn : exSs cf fu .nil ρ = some (.nx ρ) := rfl
/-- what follows a statement -/
def nxt (g : Env → Option Out) : Out → Option Out
  | .nx ρ => g ρ
  | .rt d ρ => some (.rt d ρ)
  | .bk ρ => some (.bk ρ)
  | .ct ρ => some (.ct ρ)
@[simp] theorem x_nx {g : Env → Option Out} : nxt g (.nx ρ) = g ρ := rfl
@[simp] theorem x_rt {g : Env → Option Out} {d : Val} : nxt g (.rt d ρ) = some (.rt d ρ) := rfl
@[simp] theorem x_bk {g : Env → Option Out} : nxt g (.bk ρ) = some (.bk ρ) := rfl
@[simp] theorem x_ct {g : Env → Option Out} : nxt g (.ct ρ) = some (.ct ρ) := rfl
@[simp] theorem x_ssc {s : S} {r : Ss} : exSs cf fu (.cons s r) ρ = (exS cf fu s ρ).bind (nxt (exSs cf fu r)) := by
  show (exS cf fu s ρ).bind _ = _
  congr 1
@[simp] theorem x_asg {tg : Tg} {e : E} : exS cf fu (.asg tg e) ρ = (ev cf e ρ).bind fun r => (asg tg r.1 r.2).map .nx := rfl
@[simp] theorem x_par2 {i j : Nat} {a b : E} : exS cf fu (.par2 i j a b) ρ = (ev cf a ρ).bind fun r => (ev cf b r.2).bind fun t => if i < t.2.length ∧ j < t.2.length then some (.nx ((t.2.set i (some r.1)).set j (some t.1))) else none := rfl
@[simp] theorem x_sset {i : Nat} {ix : Q} {e : E} : exS cf fu (.sset i ix e) ρ = (ev cf e ρ).bind fun r => (pk ix r.2).bind fun k => match k, Env.get r.2 i with
    | .int k, some (.lst ds) => (L2.ixN ds.length k).map fun j => .nx (r.2.set i (some (.lst (ds.set j r.1))))
    | _, _ => none := rfl
@[simp] theorem x_sset2 {i : Nat} {ix e : E} : exS cf fu (.sset2 i ix e) ρ = (ev cf e ρ).bind fun r => if !isLst (Env.get r.2 i) then none else (ev cf ix r.2).bind fun t => match t.1, Env.get t.2 i with
    | .int k, some (.lst ds) => (L2.ixN ds.length k).map fun j => .nx (t.2.set i (some (.lst (ds.set j r.1))))
    | _, _ => none := rfl
@[simp] theorem x_aug {i : Nat} {p : P2} {e : E} : exS cf fu (.aug i p e) ρ = (Env.get ρ i).bind fun _ => (ev cf e ρ).bind fun r => (Env.get r.2 i).bind fun x => match p, x, r.1 with
    | .add, .int a, .int b => some (.nx (r.2.set i (some (.int (a + b)))))
    | .sub, .int a, .int b => some (.nx (r.2.set i (some (.int (a - b)))))
    | .add, .row a, .row b => if a.length + b.length ≤ 16777216 then some (.nx (r.2.set i (some (.row (a ++ b))))) else none
    | .add, .lst a, .lst b => if a.length + b.length ≤ 16777216 then some (.nx (r.2.set i (some (.lst (a ++ b))))) else none
    | _, _, _ => none := rfl
@[simp] theorem x_app {i : Nat} {e : E} : exS cf fu (.app i e) ρ = if !isLst (Env.get ρ i) then none else (ev cf e ρ).bind fun r => match Env.get r.2 i with
    | some (.lst ds) => if ds.length < 16777216 then some (.nx (r.2.set i (some (.lst (ds ++ [r.1]))))) else none
    | _ => none := rfl
@[simp] theorem x_rev {i : Nat} : exS cf fu (.rev i) ρ = match Env.get ρ i with
    | some (.lst ds) => some (.nx (ρ.set i (some (.lst ds.reverse))))
    | _ => none := rfl
@[simp] theorem x_ex {e : E} : exS cf fu (.ex e) ρ = (ev cf e ρ).map fun r => .nx r.2 := rfl
@[simp] theorem x_if {c : E} {a b : Ss} : exS cf fu (.if_ c a b) ρ = (ev cf c ρ).bind fun r => match r.1 with
    | .bl true => exSs cf fu a r.2
    | .bl false => exSs cf fu b r.2
    | _ => none := rfl
@[simp] theorem x_ret {e : E} : exS cf fu (.ret e) ρ = (ev cf e ρ).map fun r => .rt r.1 r.2 := rfl
@[simp] theorem x_fort {tg : Tg} {a : E} {b : Ss} : exS cf fu (.for_ tg (.rng1 a) b) ρ = ((ev cf a ρ).bind fun r => match r.1 with
    | .int j => if j ≤ 16777216 ∧ -16777216 ≤ j then some ((⟨rngVals 0 j.toNat, none⟩ : Itr), r.2) else none
    | _ => none).bind fun w => forL w.1.held tg (exSs cf fu b) w.1.vals w.2 := rfl
@[simp] theorem x_isL {ds : List Val} : isLst (some (.lst ds)) = true := rfl
@[simp] theorem x_asn1 {i : Nat} {d : Val} : asg (.n i) d ρ = if i < ρ.length then some (ρ.set i (some d)) else none := rfl
@[simp] theorem x_ast {is : List Nat} {ds : List Val} : asg (.t is) (.tup ds) ρ = if is.all (· < ρ.length) then setAll ρ is ds else none := rfl
@[simp] theorem x_san : setAll ρ [] [] = some ρ := rfl
@[simp] theorem x_sac {i : Nat} {is : List Nat} {d : Val} {ds : List Val} : setAll ρ (i :: is) (d :: ds) = setAll (ρ.set i (some d)) is ds := rfl
@[simp] theorem x_wipn : wipeE ρ [] = ρ := rfl
@[simp] theorem x_wipc {i : Nat} {is : List Nat} : wipeE ρ (i :: is) = (wipeE ρ is).set i none := rfl
@[simp] theorem x_bkn {old : Env} : backE old ρ [] = ρ := rfl
@[simp] theorem x_bkc {old : Env} {i : Nat} {is : List Nat} : backE old ρ (i :: is) = backE old (ρ.set i (keepI (Env.get old i))) is := rfl
@[simp] theorem x_keepN : keepI none = none := rfl
@[simp] theorem x_keepS {d : Val} : keepI (some d) = if imm d then some d else none := rfl
end
@[simp] theorem immN_int (n : Nat) (i : Int) : immN n (.int i) = true := by cases n <;> rfl
@[simp] theorem immN_bl (n : Nat) (i : Bool) : immN n (.bl i) = true := by cases n <;> rfl
@[simp] theorem immN_str (n : Nat) (i : PySem.Str) : immN n (.str i) = true := by cases n <;> rfl
@[simp] theorem immN_non (n : Nat) : immN n .non = true := by cases n <;> rfl
@[simp] theorem immN_flst (n : Nat) (i : List Int) : immN n (.flst i) = true := by cases n <;> rfl
@[simp] theorem immN_tup (n : Nat) (ds : List Val) : immN (n + 1) (.tup ds) = ds.all (immN n) := rfl
@[simp] theorem immN_lst (n : Nat) (ds : List Val) : immN n (.lst ds) = false := by cases n <;> rfl
@[simp] theorem shp_int (n : Nat) (i : Int) : shp n (.int i) = true := by cases n <;> rfl
@[simp] theorem shp_bl (n : Nat) (i : Bool) : shp n (.bl i) = true := by cases n <;> rfl
@[simp] theorem shp_non (n : Nat) : shp n .non = true := by cases n <;> rfl
@[simp] theorem shp_tup (n : Nat) (ds : List Val) : shp (n + 1) (.tup ds) = ds.all (shp n) := rfl
@[simp] theorem shp_lst (n : Nat) (ds : List Val) : shp (n + 1) (.lst ds) = ds.all (shp n) := rfl
@[simp] theorem all_immI (n : Nat) (ns : List Int) : (ns.map Val.int).all (immN n) = true := by simp
@[simp] theorem all_immB (n : Nat) (ns : List Bool) : (ns.map Val.bl).all (immN n) = true := by simp
@[simp] theorem all_shpI (n : Nat) (ns : List Int) : (ns.map Val.int).all (shp n) = true := by simp
@[simp] theorem immL_I (ns : List Int) : immL (ns.map Val.int) = true := all_immI _ _
@[simp] theorem immL_B (ns : List Bool) : immL (ns.map Val.bl) = true := all_immB _ _
@[simp] theorem r_lenT {ds : List Val} : prim1 .len (.tup ds) = some (.int ds.length) := rfl
@[simp] theorem r_lenL {ds : List Val} : prim1 .len (.lst ds) = some (.int ds.length) := rfl
@[simp] theorem r_lenF {ns : List Int} : prim1 .len (.flst ns) = some (.int ns.length) := rfl
@[simp] theorem r_neg {i : Int} : prim1 .neg (.int i) = some (.int (-i)) := rfl
@[simp] theorem r_int {i : Int} : prim1 .int (.int i) = some (.int i) := rfl
@[simp] theorem r_abs {i : Int} : prim1 .abs (.int i) = some (.int (if i < 0 then -i else i)) := rfl
@[simp] theorem r_tupT {ds : List Val} : prim1 .tuple (.tup ds) = some (.tup ds) := rfl
@[simp] theorem r_tupL {ds : List Val} : prim1 .tuple (.lst ds) = if immL ds then some (.row ds) else none := rfl
@[simp] theorem r_tupR {ds : List Val} : prim1 .tuple (.row ds) = some (.row ds) := rfl
@[simp] theorem r_lenR {ds : List Val} : prim1 .len (.row ds) = some (.int ds.length) := rfl
@[simp] theorem r_listR {ds : List Val} : prim1 .list (.row ds) = if immL ds then some (.lst ds) else none := rfl
@[simp] theorem immN_row (n : Nat) (ds : List Val) : immN (n + 1) (.row ds) = ds.all (immN n) := rfl
@[simp] theorem shp_row (n : Nat) (ds : List Val) : shp (n + 1) (.row ds) = ds.all (shp n) := rfl
@[simp] theorem r_idxR {ds : List Val} {i : Int} : prim2 .idx (.row ds) (.int i) = L2.atI ds i := rfl
@[simp] theorem r_isinR {x : Val} {ds : List Val} : prim2 .isin x (.row ds) = if shp 60 x && shp 60 (.row ds) then some (.bl (memV x ds)) else none := by
  cases x <;> rfl
@[simp] theorem r_listT {ds : List Val} : prim1 .list (.tup ds) = if immL ds then some (.lst ds) else none := rfl
@[simp] theorem r_listL {ds : List Val} : prim1 .list (.lst ds) = if immL ds then some (.lst ds) else none := rfl
@[simp] theorem r_isB {d : Val} : prim1 .isBool d = some (.bl (match d with | .bl _ => true | _ => false)) := rfl
@[simp] theorem r_isI {d : Val} : prim1 .isInt d = some (.bl (match d with | .bl _ => true | .int _ => true | _ => false)) := rfl
@[simp] theorem r_isS {d : Val} : prim1 .isStr d = some (.bl (match d with | .str _ => true | _ => false)) := rfl
@[simp] theorem r_isT {d : Val} : prim1 .isTuple d = some (.bl (match d with | .tup _ => true | .row _ => true | _ => false)) := rfl
@[simp] theorem r_sumL {ds : List Val} : prim1 .sum (.lst ds) = (ints? ds).map fun ns => .int ns.sum := rfl
@[simp] theorem r_sumT {ds : List Val} : prim1 .sum (.tup ds) = (ints? ds).map fun ns => .int ns.sum := rfl
@[simp] theorem r_add {i j : Int} : prim2 .add (.int i) (.int j) = some (.int (i + j)) := rfl
@[simp] theorem r_addT {xs ys : List Val} : prim2 .add (.row xs) (.row ys) = if xs.length + ys.length ≤ 16777216 then some (.row (xs ++ ys)) else none := rfl
@[simp] theorem r_sub {i j : Int} : prim2 .sub (.int i) (.int j) = some (.int (i - j)) := rfl
@[simp] theorem r_mul {i j : Int} : prim2 .mul (.int i) (.int j) = if i.natAbs < 2 ^ 64 ∨ j.natAbs < 2 ^ 64 ∨ i.natAbs.log2 + j.natAbs.log2 < 1000000 then some (.int (i * j)) else none := rfl
@[simp] theorem r_mulT {xs : List Val} {k : Int} : prim2 .mul (.row xs) (.int k) = if decide (-1000000 ≤ k) && decide (k ≤ 1000) && decide (xs.length ≤ 1000) then some (.row (List.replicate k.toNat xs).flatten) else none := rfl
@[simp] theorem r_mod {i j : Int} : prim2 .mod (.int i) (.int j) = if 0 < j then some (.int (i % j)) else none := rfl
@[simp] theorem r_fdiv {i j : Int} : prim2 .fdiv (.int i) (.int j) = if 0 < j ∧ j.natAbs.log2 < 9000 then some (.int (i / j)) else none := rfl
@[simp] theorem r_pow {i j : Int} : prim2 .pow (.int i) (.int j) = if 0 ≤ j ∧ j ≤ 1000000 ∧ i.natAbs < 2 ^ 64 then some (.int (i ^ j.toNat)) else none := rfl
@[simp] theorem r_lt {i j : Int} : prim2 .lt (.int i) (.int j) = some (.bl (decide (i < j))) := rfl
@[simp] theorem r_le {i j : Int} : prim2 .le (.int i) (.int j) = some (.bl (decide (i ≤ j))) := rfl
@[simp] theorem r_gt {i j : Int} : prim2 .gt (.int i) (.int j) = some (.bl (decide (j < i))) := rfl
@[simp] theorem r_ge {i j : Int} : prim2 .ge (.int i) (.int j) = some (.bl (decide (j ≤ i))) := rfl
@[simp] theorem r_eqI {i j : Int} : prim2 .eq (.int i) (.int j) = some (.bl (i == j)) := rfl
@[simp] theorem r_eqB {i j : Bool} : prim2 .eq (.bl i) (.bl j) = some (.bl (i == j)) := rfl
@[simp] theorem r_neI {i j : Int} : prim2 .ne (.int i) (.int j) = some (.bl (!(i == j))) := rfl
@[simp] theorem r_isin {x : Val} {ds : List Val} : prim2 .isin x (.lst ds) = if shp 60 x && shp 60 (.lst ds) then some (.bl (memV x ds)) else none := by
  cases x <;> rfl
@[simp] theorem r_isinT {x : Val} {ds : List Val} : prim2 .isin x (.tup ds) = if shp 60 x && shp 60 (.tup ds) then some (.bl (memV x ds)) else none := by
  cases x <;> rfl
@[simp] theorem r_isN {x : Val} : prim2 .isN x .non = some (.bl (match x with | .non => true | _ => false)) := by cases x <;> rfl
@[simp] theorem r_notN {x : Val} : prim2 .notN x .non = some (.bl (match x with | .non => false | _ => true)) := by cases x <;> rfl
@[simp] theorem r_isBo {a b : Bool} : prim2 .isB (.bl a) (.bl b) = some (.bl (decide (a = b))) := rfl
@[simp] theorem r_notBo {a b : Bool} : prim2 .notB (.bl a) (.bl b) = some (.bl (!decide (a = b))) := rfl
@[simp] theorem r_idxT {ds : List Val} {i : Int} : prim2 .idx (.tup ds) (.int i) = L2.atI ds i := rfl
@[simp] theorem r_idxL {ds : List Val} {i : Int} : prim2 .idx (.lst ds) (.int i) = L2.atI ds i := rfl
@[simp] theorem r_min2 {i j : Int} : prim2 .min2 (.int i) (.int j) = some (.int (if j < i then j else i)) := rfl
@[simp] theorem r_max2 {i j : Int} : prim2 .max2 (.int i) (.int j) = some (.int (if j > i then j else i)) := rfl
@[simp] theorem r_slT {ds : List Val} {lo hi : Option Int} : primS (.tup ds) lo hi = some (.tup (cut ds lo hi)) := rfl
@[simp] theorem r_slL {ds : List Val} {lo hi : Option Int} : primS (.lst ds) lo hi = if immL ds then some (.lst (cut ds lo hi)) else none := rfl
@[simp] theorem f_tuple : P1.fresh .tuple = true := rfl
@[simp] theorem f_list : P1.fresh .list = true := rfl
@[simp] theorem f_sorted : P1.fresh .sorted = true := rfl
@[simp] theorem f_add : P2.fresh .add = true := rfl
@[simp] theorem f_mul : P2.fresh .mul = true := rfl
@[simp] theorem ownI {b : Bool} {i : Int} : own b (.int i) = true := by simp [own]
@[simp] theorem ownB {b x : Bool} : own b (.bl x) = true := by simp [own]
@[simp] theorem ownT {b : Bool} {ds : List Val} : own b (.tup ds) = ds.all (immN 63) := by simp [own]
@[simp] theorem ownL {ds : List Val} : own true (.lst ds) = immL ds := by simp [own]
@[simp] theorem intsI {ns : List Int} : ints? (ns.map Val.int) = some ns := by
  induction ns with
  | nil => rfl
  | cons n ns ih => simp [ints?, ih]
@[simp] theorem immL_F {α : Type} (l : List α) (f : α → Int) : immL (l.map fun t => Val.int (f t)) = true := by simp [immL]
@[simp] theorem all_immF {α : Type} (n : Nat) (l : List α) (f : α → Int) : (l.map fun t => Val.int (f t)).all (immN n) = true := by simp
theorem go {T : List FnR} {fu k i : Nat} {ds : List Val} {f : FnR} (hf : T[i]? = some f) (hl : ds.length = f.ps.length) : run T fu (k + 1) i ds = (exSs (run T fu k) fu f.body (frame f ds)).bind (finish (tgSs f.body) f.ps.length) := by
  show (match T[i]? with | none => none | some f => if ds.length = f.ps.length then (exSs (run T fu k) fu f.body (frame f ds)).bind (finish (tgSs f.body) f.ps.length) else none) = _
  rw [hf]
  exact if_pos hl
theorem ixN_nat {n j : Nat} (h : j < n) : L2.ixN n (j : Int) = some j := by
  unfold L2.ixN
  rw [if_pos (by omega), if_pos (by omega)]
  simp
theorem atI_lt {α : Type} {xs : List α} {j : Nat} (h : j < xs.length) : L2.atI xs (j : Int) = some xs[j] := by
  unfold L2.atI
  rw [ixN_nat h]
  simp [h]
/-! ### draws -/
def fTake : FnR := ⟨"_law_take", ["draws", "many"], ["draws", "many"], (.cons (.if_ (.q (.p2 .eq (.p1 .len (.v 0)) (.c (.int 0)))) (.cons (.ret (.q (.c (.int 0)))) .nil) .nil) (.cons (.ret (.p2 .mod (.e (.p1 .int (.e (.pop 0)))) (.v 1))) .nil))⟩
/-- one draw below a bound -/
def tk (D : List Int) (m : Int) : Int := match D.getLast? with
  | none => 0
  | some d => d % m
theorem tk_lo (D : List Int) {m : Int} (h : 0 < m) : 0 ≤ tk D m := by
  unfold tk; split
  · omega
  · exact Int.emod_nonneg _ (by omega)
theorem tk_hi (D : List Int) {m : Int} (h : 0 < m) : tk D m < m := by
  unfold tk; split
  · omega
  · exact Int.emod_lt_of_pos _ h
/-- the draws as a list that may change -/
abbrev lsI (D : List Int) : Val := .lst (D.map Val.int)
theorem take_ok {T : List FnR} {fu k i : Nat} (hf : T[i]? = some fTake) (D : List Int) {m : Int} (h : 0 < m) : run T fu (k + 1) i [lsI D, .int m] = some (.int (tk D m), [some (lsI D.dropLast), some (.int m)]) := by
  rw [go hf rfl]
  cases hD : D.getLast? with
  | none =>
    have : D = [] := by simpa using hD
    subst this
    simp [fTake, frame, finish, outs, tgS, tgSs, tk]
  | some d =>
    have hn : D ≠ [] := by intro e; subst e; cases hD
    have hl : D.length ≠ 0 := by simpa using hn
    have hb : ((D.length : Int) == 0) = false := by simp; exact hn
    simp [fTake, frame, finish, outs, tgS, tgSs, tk, hb, hD, hl, hn, h, List.map_dropLast]
def fDraws : FnR := ⟨"_law_draws", ["script", "many"], ["script", "many", "cells", "rest", "draws", "k", "at", "cell", "once"], (.cons (.asg (.n 2) (.comp [7] (.n 7) (.v 0) (.q (.p1 .int (.v 7))))) (.cons (.if_ (.q (.p2 .eq (.p1 .len (.v 2)) (.c (.int 0)))) (.cons (.app 2 (.q (.c (.int 0)))) .nil) .nil) (.cons (.asg (.n 3) (.p1 .list (.v 2))) (.cons (.asg (.n 4) (.lst .nil)) (.cons (.for_ (.n 5) (.rng1 (.q (.v 1))) (.cons (.asg (.n 6) (.q (.p2 .mod (.v 5) (.p1 .len (.v 2))))) (.cons (.if_ (.and_ (.q (.p2 .ge (.p2 .idx (.v 2) (.v 6)) (.p2 .pow (.c (.int 10)) (.c (.int 18))))) (.q (.p2 .gt (.p2 .idx (.v 3) (.v 6)) (.c (.int 0))))) (.cons (.app 4 (.q (.p2 .mod (.p1 .int (.p2 .idx (.v 3) (.v 6))) (.c (.int 1000))))) (.cons (.sset 3 (.v 6) (.q (.p2 .fdiv (.p2 .idx (.v 3) (.v 6)) (.c (.int 1000))))) .nil)) (.cons (.asg (.n 8) (.q (.p2 .mod (.p1 .int (.p2 .add (.p2 .add (.p2 .mul (.p2 .idx (.v 2) (.v 6)) (.c (.int 48271))) (.p2 .mul (.v 5) (.c (.int 69621)))) (.c (.int 11)))) (.c (.int 2147483647))))) (.cons (.app 4 (.q (.p2 .mod (.p1 .int (.p2 .add (.p2 .add (.p2 .mul (.v 8) (.v 8)) (.p2 .mul (.c (.int 3)) (.v 8))) (.v 5))) (.c (.int 1000003))))) .nil))) .nil))) (.cons (.rev 4) (.cons (.ret (.mv 4)) .nil)))))))⟩
def dStep : Ss := (.cons (.asg (.n 6) (.q (.p2 .mod (.v 5) (.p1 .len (.v 2))))) (.cons (.if_ (.and_ (.q (.p2 .ge (.p2 .idx (.v 2) (.v 6)) (.p2 .pow (.c (.int 10)) (.c (.int 18))))) (.q (.p2 .gt (.p2 .idx (.v 3) (.v 6)) (.c (.int 0))))) (.cons (.app 4 (.q (.p2 .mod (.p1 .int (.p2 .idx (.v 3) (.v 6))) (.c (.int 1000))))) (.cons (.sset 3 (.v 6) (.q (.p2 .fdiv (.p2 .idx (.v 3) (.v 6)) (.c (.int 1000))))) .nil)) (.cons (.asg (.n 8) (.q (.p2 .mod (.p1 .int (.p2 .add (.p2 .add (.p2 .mul (.p2 .idx (.v 2) (.v 6)) (.c (.int 48271))) (.p2 .mul (.v 5) (.c (.int 69621)))) (.c (.int 11)))) (.c (.int 2147483647))))) (.cons (.app 4 (.q (.p2 .mod (.p1 .int (.p2 .add (.p2 .add (.p2 .mul (.v 8) (.v 8)) (.p2 .mul (.c (.int 3)) (.v 8))) (.v 5))) (.c (.int 1000003))))) .nil))) .nil))
def dInv (ns : List Int) (many : Int) (m : Nat) (ρ : Env) : Prop := ∃ (C R D : List Int) (a b c e : Option Val), ρ = [some (.flst ns), some (.int many), some (lsI C), some (lsI R), some (lsI D), a, b, c, e] ∧ C ≠ [] ∧ R.length = C.length ∧ D.length = m
theorem d_step {cf : Nat → List Val → Option (Val × List (Option Val))} {fu : Nat} {ns : List Int} {many : Int} {m : Nat} {ρ : Env} (hm : m < 16777216) (h : dInv ns many m ρ) :
    ∃ ρ1 ρ2, asg (.n 5) (.int (0 + (m : Nat))) ρ = some ρ1 ∧ (exSs cf fu dStep ρ1 = some (.nx ρ2) ∨ exSs cf fu dStep ρ1 = some (.ct ρ2)) ∧ dInv ns many (m + 1) ρ2 := by
  obtain ⟨C, R, D, a, b, c, e, rfl, hC, hR, hD⟩ := h
  have hl : 0 < C.length := List.length_pos_iff.mpr hC
  obtain ⟨j, hj, hj2⟩ : ∃ j : Nat, j < C.length ∧ ((m : Int) % (C.length : Int)) = (j : Int) := ⟨m % C.length, Nat.mod_lt _ hl, by simp⟩
  have hj3 : j < R.length := by omega
  have ac : L2.atI (C.map Val.int) (j : Int) = some (.int C[j]) := by rw [atI_lt (by simpa using hj)]; simp
  have ar : L2.atI (R.map Val.int) (j : Int) = some (.int R[j]) := by rw [atI_lt (by simpa using hj3)]; simp
  have ix : L2.ixN R.length (j : Int) = some j := ixN_nat hj3
  by_cases h1 : 10 ^ 18 ≤ C[j] ∧ 0 < R[j]
  · refine ⟨_, [some (.flst ns), some (.int many), some (lsI C), some (lsI (R.set j (R[j] / 1000))), some (lsI (D ++ [R[j] % 1000])), some (.int m), some (.int j), c, e], rfl, .inl ?_, C, _, _, _, _, _, _, rfl, hC, by simp [hR], by simp [hD]⟩
    have p : (10 : Int) ^ (18 : Nat) = 1000000000000000000 := by decide
    have h2 : (1000000000000000000 : Int) ≤ C[j] := by have := h1.1; omega
    have hd : D.length < 16777216 := by omega
    have lg : Nat.log2 1000 < 9000 := by decide +kernel
    simp [dStep, hl, hj2, ac, ar, h2, h1.2, ix, hd, lg]
  · have hd : D.length < 16777216 := by omega
    have hb : ∀ x : Int, (x % 2147483647).natAbs < 18446744073709551616 := fun x => by omega
    refine ⟨_, [some (.flst ns), some (.int many), some (lsI C), some (lsI R), some (lsI (D ++ [(((C[j] * 48271 + m * 69621 + 11) % 2147483647) * ((C[j] * 48271 + m * 69621 + 11) % 2147483647) + 3 * ((C[j] * 48271 + m * 69621 + 11) % 2147483647) + m) % 1000003])), some (.int m), some (.int j), c, some (.int ((C[j] * 48271 + m * 69621 + 11) % 2147483647))], rfl, .inl ?_, C, _, _, _, _, _, _, rfl, hC, hR, by simp [hD]⟩
    by_cases h2 : (1000000000000000000 : Int) ≤ C[j]
    · have h3 : ¬ 0 < R[j] := fun q => h1 ⟨h2, q⟩
      simp [dStep, hl, hj2, ac, ar, h2, h3, ix, hd, hb]
    · simp [dStep, hl, hj2, ac, ar, h2, ix, hd, hb]
theorem d_cells {cf : Nat → List Val → Option (Val × List (Option Val))} {fu : Nat} (ns : List Int) {a b c d e f g : Option Val} (hl : ns.length ≤ 63) : exS cf fu (.asg (.n 2) (.comp [7] (.n 7) (.v 0) (.q (.p1 .int (.v 7))))) [some (.flst ns), a, b, c, d, e, f, none, g] = some (.nx [some (.flst ns), a, some (lsI ns), c, d, e, f, none, g]) := by
  have q : compL (Itr.held ⟨ns.map Val.int, none⟩) (fun v ρ => (asg (.n 7) v ρ).bind fun ρ1 => (ev cf (.q (.p1 .int (.v 7))) ρ1).map fun r => (some r.1, wipeE r.2 [7])) (ns.map Val.int) (wipeE [some (.flst ns), a, b, c, d, e, f, none, g] [7]) = some (ns.map Val.int, [some (.flst ns), a, b, c, d, e, f, none, g]) :=
    compL_ints (f := Val.int) rfl ns fun n hn => by simp []
  show (((if (ns.map Val.int).length < 16777216 then (compL _ _ _ _).map _ else none : Option (Val × Env))).bind _) = _
  rw [if_pos (by simp; omega), q]
  rfl
theorem draws_ok {T : List FnR} {fu k i : Nat} (hf : T[i]? = some fDraws) (ns : List Int) {m : Nat} (h : m < 16777216) (hl : ns.length ≤ 63) : ∃ D : List Int, run T fu (k + 1) i [.flst ns, .int m] = some (lsI D, [some (.flst ns), some (.int m)]) := by
  rw [go hf rfl]
  have h0 : ∃ C : List Int, C ≠ [] ∧ exS (run T fu k) fu (.if_ (.q (.p2 .eq (.p1 .len (.v 2)) (.c (.int 0)))) (.cons (.app 2 (.q (.c (.int 0)))) .nil) .nil) [some (.flst ns), some (.int m), some (lsI ns), none, none, none, none, none, none] = some (.nx [some (.flst ns), some (.int m), some (lsI C), none, none, none, none, none, none]) := by
    by_cases hn : ns = []
    · subst hn
      exact ⟨[0], by simp, by simp []⟩
    · have hb : ((ns.length : Int) == 0) = false := by simp; exact hn
      exact ⟨ns, hn, by simp [hb]⟩
  obtain ⟨C, hC, h1⟩ := h0
  obtain ⟨ρ', e, C', R', D, a, b, c, d, rfl, -, -, -⟩ := forL_rng (tg := .n 5) (body := exSs (run T fu k) fu dStep) (dInv ns m) 0 m [some (.flst ns), some (.int m), some (lsI C), some (.lst (C.map .int)), some (.lst []), none, none, none, none] ⟨C, C, [], none, none, none, none, rfl, hC, rfl, rfl⟩ (fun j ρ hj hi => d_step (by omega) hi)
  have hm : (m : Int) ≤ 16777216 ∧ -16777216 ≤ (m : Int) := by omega
  refine ⟨D.reverse, ?_⟩
  show (exSs (run T fu k) fu fDraws.body [some (.flst ns), some (.int m), none, none, none, none, none, none, none]).bind (finish [2, 3, 4, 5, 6, 8] 2) = _
  unfold fDraws
  rw [x_ssc, d_cells ns hl, Option.bind_some, x_nx, x_ssc, h1, Option.bind_some, x_nx]
  simp only [dStep] at e
  simp [hm, e, finish, outs, List.map_reverse]
end NV

set_option Elab.async false
set_option linter.all false
set_option maxRecDepth 100000
set_option maxHeartbeats 1000000
/-! What is the same as itself. -/
namespace NV
def fSame (i : Nat) : FnR := ⟨"_law_same", ["actual", "due"], ["actual", "due", "k"], (.cons (.if_ (.q (.p1 .isBool (.v 1))) (.cons (.ret (.and_ (.q (.p1 .isBool (.v 0))) (.q (.p2 .eq (.v 0) (.v 1))))) .nil) .nil) (.cons (.if_ (.q (.p1 .isInt (.v 1))) (.cons (.ret (.and_ (.q (.p1 .isInt (.v 0))) (.and_ (.not_ (.q (.p1 .isBool (.v 0)))) (.q (.p2 .eq (.v 0) (.v 1)))))) .nil) .nil) (.cons (.if_ (.q (.p1 .isStr (.v 1))) (.cons (.ret (.and_ (.q (.p1 .isStr (.v 0))) (.q (.p2 .eq (.v 0) (.v 1))))) .nil) .nil) (.cons (.if_ (.q (.p2 .isN (.v 1) (.c .non))) (.cons (.ret (.q (.p2 .isN (.v 0) (.c .non)))) .nil) .nil) (.cons (.if_ (.or_ (.not_ (.q (.p1 .isTuple (.v 0)))) (.q (.p2 .ne (.p1 .len (.v 0)) (.p1 .len (.v 1))))) (.cons (.ret (.q (.c (.bl false)))) .nil) .nil) (.cons (.for_ (.n 2) (.rng1 (.q (.p1 .len (.v 1)))) (.cons (.if_ (.not_ (.call i (.e (.q (.p2 .idx (.v 0) (.v 2))) (.e (.q (.p2 .idx (.v 1) (.v 2))) .nil)))) (.cons (.ret (.q (.c (.bl false)))) .nil) .nil) .nil)) (.cons (.ret (.q (.c (.bl true)))) .nil)))))))⟩
/-- tuples of tuples .. of ints, bools, strings, at most so deep -/
def nest : Nat → Val → Bool
  | _, .non => true
  | _, .bl _ => true
  | _, .int _ => true
  | _, .str x => PySem.PyData.strOk x
  | n + 1, .tup ds => decide (ds.length ≤ 16777216) && ds.all (nest n)
  | n + 1, .row ds => decide (ds.length ≤ 16777216) && ds.all (nest n)
  | _, _ => false
theorem nest_imm : ∀ (n m : Nat) (d : Val), n ≤ m → nest n d = true → immN m d = true
  | n, m, .non, _, _ => by simp
  | n, m, .bl _, _, _ => by simp
  | n, m, .int _, _, _ => by simp
  | 0, m, .tup ds, _, h => by simp [nest] at h
  | n + 1, 0, .tup ds, h, _ => by omega
  | n + 1, m + 1, .tup ds, h, e => by
    simp only [nest, Bool.and_eq_true, List.all_eq_true] at e
    rw [immN_tup, List.all_eq_true]
    exact fun d hd => nest_imm n m d (by omega) (e.2 d hd)
  | 0, m, .row ds, _, h => by simp [nest] at h
  | n + 1, 0, .row ds, h, _ => by omega
  | n + 1, m + 1, .row ds, h, e => by
    simp only [nest, Bool.and_eq_true, List.all_eq_true] at e
    rw [immN_row, List.all_eq_true]
    exact fun d hd => nest_imm n m d (by omega) (e.2 d hd)
  | n, m, .str _, _, _ => by simp
  | n, m, .lst _, _, h => by cases n <;> simp [nest] at h
  | n, m, .flst _, _, h => by cases n <;> simp [nest] at h
  | n, m, .dic _ _, _, h => by cases n <;> simp [nest] at h
theorem same_ok {T : List FnR} {fu i : Nat} (hf : T[i]? = some (fSame i)) : ∀ (n k : Nat) (d : Val), n < k → n ≤ 60 → nest n d = true → run T fu k i [d, d] = some (.bl true, [some d, some d])
  | n, 0, d, h, _, _ => by omega
  | n, k + 1, .non, _, _, _ => by
    rw [go hf rfl]
    simp [fSame, frame, finish, outs, tgS, tgSs, Tg.all]
  | n, k + 1, .bl b, _, _, _ => by
    rw [go hf rfl]
    simp [fSame, frame, finish, outs, tgS, tgSs, Tg.all]
  | n, k + 1, .int b, _, _, _ => by
    rw [go hf rfl]
    simp [fSame, frame, finish, outs, tgS, tgSs, Tg.all]
  | 0, k + 1, .tup ds, _, _, h => by simp [nest] at h
  | n + 1, k + 1, .tup ds, h1, h2, h => by
    rw [go hf rfl]
    have hi : immN 64 (.tup ds) = true := nest_imm (n + 1) 64 _ (by omega) h
    simp only [nest, Bool.and_eq_true, List.all_eq_true, decide_eq_true_eq] at h
    obtain ⟨ρ', e, x, rfl⟩ := forL_rng (tg := .n 2) (body := exSs (run T fu k) fu (.cons (.if_ (.not_ (.call i (.e (.q (.p2 .idx (.v 0) (.v 2))) (.e (.q (.p2 .idx (.v 1) (.v 2))) .nil)))) (.cons (.ret (.q (.c (.bl false)))) .nil) .nil) .nil))
      (fun _ ρ => ∃ x, ρ = [some (.tup ds), some (.tup ds), x]) 0 ds.length [some (.tup ds), some (.tup ds), none] ⟨none, rfl⟩ (fun j ρ hj ⟨x, hx⟩ => by
        subst hx
        have q := same_ok (fu := fu) hf n k ds[j] (by omega) (by omega) (h.2 _ (List.getElem_mem hj))
        have a := atI_lt hj
        have im : immN 64 ds[j] = true := nest_imm n 64 _ (by omega) (h.2 _ (List.getElem_mem hj))
        exact ⟨_, [some (.tup ds), some (.tup ds), some (.int j)], rfl, .inl (by simp [a, imm, im, q]), _, rfl⟩)
    have hl : (ds.length : Int) ≤ 16777216 ∧ -16777216 ≤ (ds.length : Int) := by omega
    simp [fSame, frame, finish, outs, tgS, tgSs, Tg.all, hl, e]
  | 0, k + 1, .row ds, _, _, h => by simp [nest] at h
  | n + 1, k + 1, .row ds, h1, h2, h => by
    rw [go hf rfl]
    have hi : immN 64 (.row ds) = true := nest_imm (n + 1) 64 _ (by omega) h
    simp only [nest, Bool.and_eq_true, List.all_eq_true, decide_eq_true_eq] at h
    obtain ⟨ρ', e, x, rfl⟩ := forL_rng (tg := .n 2) (body := exSs (run T fu k) fu (.cons (.if_ (.not_ (.call i (.e (.q (.p2 .idx (.v 0) (.v 2))) (.e (.q (.p2 .idx (.v 1) (.v 2))) .nil)))) (.cons (.ret (.q (.c (.bl false)))) .nil) .nil) .nil))
      (fun _ ρ => ∃ x, ρ = [some (.row ds), some (.row ds), x]) 0 ds.length [some (.row ds), some (.row ds), none] ⟨none, rfl⟩ (fun j ρ hj ⟨x, hx⟩ => by
        subst hx
        have q := same_ok (fu := fu) hf n k ds[j] (by omega) (by omega) (h.2 _ (List.getElem_mem hj))
        have a := atI_lt hj
        have im : immN 64 ds[j] = true := nest_imm n 64 _ (by omega) (h.2 _ (List.getElem_mem hj))
        exact ⟨_, [some (.row ds), some (.row ds), some (.int j)], rfl, .inl (by simp [a, imm, im, q]), _, rfl⟩)
    have hl : (ds.length : Int) ≤ 16777216 ∧ -16777216 ≤ (ds.length : Int) := by omega
    simp [fSame, frame, finish, outs, tgS, tgSs, Tg.all, hl, e]
  | n, k + 1, .str x, _, _, h => by
    have hs : PySem.PyData.strOk x = true := by cases n <;> simpa [nest] using h
    have h1 : shp 60 (.str x) = true := by simpa [shp] using hs
    have h2 : prim2 .eq (.str x) (.str x) = some (.bl true) := by
      show (if shp 60 (.str x) && shp 60 (.str x) then some (Val.bl (veq (.str x) (.str x))) else none) = _
      rw [h1]; simp [veq]
    rw [go hf rfl]
    simp [fSame, frame, finish, outs, tgS, tgSs, Tg.all, h2]
  | n, k + 1, .lst _, _, _, h => by cases n <;> simp [nest] at h
  | n, k + 1, .flst _, _, _, h => by cases n <;> simp [nest] at h
  | n, k + 1, .dic _ _, _, _, h => by cases n <;> simp [nest] at h
/-! ### comprehensions, by name -/
def stC (cf : Nat → List Val → Option (Val × List (Option Val))) (ow : List Nat) (tg : Tg) (el : E) (v : Val) (ρ : Env) : Option (Option Val × Env) := (asg tg v ρ).bind fun ρ1 => (ev cf el ρ1).map fun r => (some r.1, wipeE r.2 ow)
def stI (cf : Nat → List Val → Option (Val × List (Option Val))) (ow : List Nat) (tg : Tg) (cd el : E) (v : Val) (ρ : Env) : Option (Option Val × Env) := (asg tg v ρ).bind fun ρ1 => (ev cf cd ρ1).bind fun k => match k.1 with
        | .bl true => (ev cf el k.2).map fun r => (some r.1, wipeE r.2 ow)
        | .bl false => some (none, wipeE k.2 ow)
        | _ => none
section
variable {cf : Nat → List Val → Option (Val × List (Option Val))} {ρ : Env}
@[simp] theorem x_comp {ow : List Nat} {tg : Tg} {it : It} {el : E} : ev cf (.comp ow tg it el) ρ = (evIt cf it ρ).bind fun w => if w.1.vals.length < 16777216 then
      (compL w.1.held (stC cf ow tg el) w.1.vals (wipeE w.2 ow)).map fun t => (.lst t.1, backE w.2 t.2 ow) else none := rfl
@[simp] theorem x_compIf {ow : List Nat} {tg : Tg} {it : It} {cd el : E} : ev cf (.compIf ow tg it cd el) ρ = (evIt cf it ρ).bind fun w => if w.1.vals.length < 16777216 then
      (compL w.1.held (stI cf ow tg cd el) w.1.vals (wipeE w.2 ow)).map fun t => (.lst t.1, backE w.2 t.2 ow) else none := rfl
@[simp] theorem x_itv {i : Nat} : evIt cf (.v i) ρ = (Env.get ρ i).bind fun d => (itrOf i d).map fun w => (w, ρ) := rfl
@[simp] theorem x_itr {a : E} : evIt cf (.rng1 a) ρ = (ev cf a ρ).bind fun r => match r.1 with
    | .int j => if j ≤ 16777216 ∧ -16777216 ≤ j then some (⟨rngVals 0 j.toNat, none⟩, r.2) else none
    | _ => none := rfl
@[simp] theorem x_ioT {i : Nat} {ds : List Val} : itrOf i (.tup ds) = if immL ds then some ⟨ds, none⟩ else none := rfl
@[simp] theorem x_ioR {i : Nat} {ds : List Val} : itrOf i (.row ds) = if immL ds then some ⟨ds, none⟩ else none := rfl
@[simp] theorem x_ioL {i : Nat} {ds : List Val} : itrOf i (.lst ds) = if immL ds then some ⟨ds, some (i, .lst ds)⟩ else none := rfl
end
theorem held_own {i : Nat} {ds : List Val} {vs : List Val} {ρ : Env} (h : Env.get ρ i = some (.lst ds)) : Itr.held ⟨vs, some (i, .lst ds)⟩ ρ = true := by
  simp only [Itr.held, h, same_self]
theorem cI {cf : Nat → List Val → Option (Val × List (Option Val))} {held : Env → Bool} {o : Nat} {cd el : E} {ρ : Env} {xs : List Int} (p : Int → Bool) (f : Int → Val) (hh : held ρ = true) (ho : ρ[o]? = some none)
    (hc : ∀ n, ev cf cd (ρ.set o (some (.int n))) = some (.bl (p n), ρ.set o (some (.int n)))) (he : ∀ n, ev cf el (ρ.set o (some (.int n))) = some (f n, ρ.set o (some (.int n)))) :
    compL held (stI cf [o] (.n o) cd el) (xs.map Val.int) ρ = some ((xs.filter p).map f, ρ) := by
  have hl : o < ρ.length := (List.getElem?_eq_some_iff.mp ho).1
  have hz : (ρ.set o none) = ρ := by
    apply List.ext_getElem? 
    intro j
    by_cases hj : o = j
    · subst hj; rw [List.getElem?_set_self hl, ho]
    · rw [List.getElem?_set_ne hj]
  refine compL_intsIf hh xs fun n _ => ?_
  simp only [stI, x_asn1, if_pos hl, Option.bind_some, hc]
  cases p n <;> simp [he, hz]
theorem cC {cf : Nat → List Val → Option (Val × List (Option Val))} {held : Env → Bool} {o : Nat} {el : E} {ρ : Env} {xs : List Int} (f : Int → Val) (hh : held ρ = true) (ho : ρ[o]? = some none)
    (he : ∀ n, ev cf el (ρ.set o (some (.int n))) = some (f n, ρ.set o (some (.int n)))) :
    compL held (stC cf [o] (.n o) el) (xs.map Val.int) ρ = some (xs.map f, ρ) := by
  have hl : o < ρ.length := (List.getElem?_eq_some_iff.mp ho).1
  have hz : (ρ.set o none) = ρ := by
    apply List.ext_getElem? 
    intro j
    by_cases hj : o = j
    · subst hj; rw [List.getElem?_set_self hl, ho]
    · rw [List.getElem?_set_ne hj]
  refine compL_ints hh xs fun n _ => ?_
  simp [stC, x_asn1, if_pos hl, he, hz]
@[simp] theorem held_none {vs : List Val} {ρ : Env} : Itr.held ⟨vs, none⟩ ρ = true := id rfl
@[simp] theorem held_some {i : Nat} {d : Val} {vs : List Val} {ρ : Env} : Itr.held ⟨vs, some (i, d)⟩ ρ = match Env.get ρ i with
    | some x => same x d
    | none => false := id rfl
@[simp] theorem same_rfl {d : Val} : same d d = true := same_self d
@[simp] theorem wbN : ∀ {js : List (Option Nat)} {ds : List (Option Val)} {ρ : Env}, js.all (fun j => j.isNone) = true → wback js ds ρ = ρ
  | [], ds, ρ, _ => by cases ds <;> rfl
  | none :: js, [], ρ, _ => rfl
  | none :: js, d :: ds, ρ, h => wbN (js := js) (by simpa using h)
  | some i :: js, ds, ρ, h => by simp at h
end NV

set_option Elab.async false
set_option linter.all false
set_option maxRecDepth 100000
set_option maxHeartbeats 1000000
set_option synthInstance.maxSize 2000
/-! Typed values beside the evaluator: encoders, what is asked of them, and the rules by which a typed text goes beside a text of the small language. -/
namespace NV
/-! ### encoders -/
abbrev eI : Int → Val := Val.int
abbrev eB : Bool → Val := Val.bl
abbrev eS : PySem.Str → Val := Val.str
def eF : List Int → Val := Val.flst
def eU : Unit → Val := fun _ => .non
def eO {α : Type} (e : α → Val) : Option α → Val
  | none => .non
  | some x => e x
def eT {α : Type} (e : α → Val) (xs : List α) : Val := .row (xs.map e)
def eL {α : Type} (e : α → Val) (xs : List α) : Val := .lst (xs.map e)
def e0 : Unit → Val := fun _ => .tup []
def e1 {α : Type} (a : α → Val) (p : α) : Val := .tup [a p]
section
variable {α β γ δ ε ζ η θ : Type}
def e2 (a : α → Val) (b : β → Val) (p : α × β) : Val := .tup [a p.1, b p.2]
def e3 (a : α → Val) (b : β → Val) (c : γ → Val) (p : α × β × γ) : Val := .tup [a p.1, b p.2.1, c p.2.2]
def e4 (a : α → Val) (b : β → Val) (c : γ → Val) (d : δ → Val) (p : α × β × γ × δ) : Val := .tup [a p.1, b p.2.1, c p.2.2.1, d p.2.2.2]
def e5 (a : α → Val) (b : β → Val) (c : γ → Val) (d : δ → Val) (e : ε → Val) (p : α × β × γ × δ × ε) : Val := .tup [a p.1, b p.2.1, c p.2.2.1, d p.2.2.2.1, e p.2.2.2.2]
def e6 (a : α → Val) (b : β → Val) (c : γ → Val) (d : δ → Val) (e : ε → Val) (f : ζ → Val) (p : α × β × γ × δ × ε × ζ) : Val := .tup [a p.1, b p.2.1, c p.2.2.1, d p.2.2.2.1, e p.2.2.2.2.1, f p.2.2.2.2.2]
def e7 (a : α → Val) (b : β → Val) (c : γ → Val) (d : δ → Val) (e : ε → Val) (f : ζ → Val) (g : η → Val) (p : α × β × γ × δ × ε × ζ × η) : Val := .tup [a p.1, b p.2.1, c p.2.2.1, d p.2.2.2.1, e p.2.2.2.2.1, f p.2.2.2.2.2.1, g p.2.2.2.2.2.2]
end
/-! ### what holds of all values of a kind -/
def Im {α : Type} (e : α → Val) (n : Nat) : Prop := ∀ m x, n ≤ m → immN m (e x) = true
def Sh {α : Type} (e : α → Val) (n : Nat) : Prop := ∀ m x, n ≤ m → shp m (e x) = true
/-- == tells values of a kind apart -/
def Eqv {α : Type} [DecidableEq α] (e : α → Val) : Prop := ∀ x y, veq (e x) (e y) = decide (x = y)
section
variable {α β γ δ ε ζ η : Type} {a : α → Val} {b : β → Val} {c : γ → Val} {d : δ → Val} {e : ε → Val} {f : ζ → Val} {g : η → Val} {n n1 n2 n3 n4 n5 n6 n7 : Nat}
theorem imI : Im eI 0 := fun _ _ _ => immN_int _ _
theorem imB : Im eB 0 := fun _ _ _ => immN_bl _ _
theorem imS : Im eS 0 := fun _ _ _ => immN_str _ _
theorem imF : Im eF 0 := fun _ _ _ => immN_flst _ _
theorem imU : Im eU 0 := fun _ _ _ => immN_non _
theorem imO (h : Im a n) : Im (eO a) n := fun m x q => by
  cases x
  · exact immN_non _
  · exact h m _ q
theorem imT (h : Im a n) : Im (eT a) (n + 1) := fun m x q => by
  obtain ⟨k, rfl⟩ : ∃ k, m = k + 1 := ⟨m - 1, by omega⟩
  show List.all (x.map a) (immN k) = true
  simp only [List.all_map, List.all_eq_true]
  exact fun y _ => h k y (by omega)
theorem im0 : Im e0 1 := fun m x q => by
  obtain ⟨k, rfl⟩ : ∃ k, m = k + 1 := ⟨m - 1, by omega⟩
  rfl
theorem im1 (h1 : Im a n1) : Im (e1 a) (n1 + 1) := fun m x q => by
  obtain ⟨k, rfl⟩ : ∃ k, m = k + 1 := ⟨m - 1, by omega⟩
  show List.all _ (immN k) = true
  simp [h1 k _ (by omega)]
theorem im2 (h1 : Im a n1) (h2 : Im b n2) : Im (e2 a b) (max n1 n2 + 1) := fun m x q => by
  obtain ⟨k, rfl⟩ : ∃ k, m = k + 1 := ⟨m - 1, by omega⟩
  show List.all _ (immN k) = true
  simp [h1 k _ (by omega), h2 k _ (by omega)]
theorem im3 (h1 : Im a n1) (h2 : Im b n2) (h3 : Im c n3) : Im (e3 a b c) (max n1 (max n2 n3) + 1) := fun m x q => by
  obtain ⟨k, rfl⟩ : ∃ k, m = k + 1 := ⟨m - 1, by omega⟩
  show List.all _ (immN k) = true
  simp [h1 k _ (by omega), h2 k _ (by omega), h3 k _ (by omega)]
theorem im4 (h1 : Im a n1) (h2 : Im b n2) (h3 : Im c n3) (h4 : Im d n4) : Im (e4 a b c d) (max n1 (max n2 (max n3 n4)) + 1) := fun m x q => by
  obtain ⟨k, rfl⟩ : ∃ k, m = k + 1 := ⟨m - 1, by omega⟩
  show List.all _ (immN k) = true
  simp [h1 k _ (by omega), h2 k _ (by omega), h3 k _ (by omega), h4 k _ (by omega)]
theorem im5 (h1 : Im a n1) (h2 : Im b n2) (h3 : Im c n3) (h4 : Im d n4) (h5 : Im e n5) : Im (e5 a b c d e) (max n1 (max n2 (max n3 (max n4 n5))) + 1) := fun m x q => by
  obtain ⟨k, rfl⟩ : ∃ k, m = k + 1 := ⟨m - 1, by omega⟩
  show List.all _ (immN k) = true
  simp [h1 k _ (by omega), h2 k _ (by omega), h3 k _ (by omega), h4 k _ (by omega), h5 k _ (by omega)]
theorem im6 (h1 : Im a n1) (h2 : Im b n2) (h3 : Im c n3) (h4 : Im d n4) (h5 : Im e n5) (h6 : Im f n6) : Im (e6 a b c d e f) (max n1 (max n2 (max n3 (max n4 (max n5 n6)))) + 1) := fun m x q => by
  obtain ⟨k, rfl⟩ : ∃ k, m = k + 1 := ⟨m - 1, by omega⟩
  show List.all _ (immN k) = true
  simp [h1 k _ (by omega), h2 k _ (by omega), h3 k _ (by omega), h4 k _ (by omega), h5 k _ (by omega), h6 k _ (by omega)]
theorem im7 (h1 : Im a n1) (h2 : Im b n2) (h3 : Im c n3) (h4 : Im d n4) (h5 : Im e n5) (h6 : Im f n6) (h7 : Im g n7) : Im (e7 a b c d e f g) (max n1 (max n2 (max n3 (max n4 (max n5 (max n6 n7))))) + 1) := fun m x q => by
  obtain ⟨k, rfl⟩ : ∃ k, m = k + 1 := ⟨m - 1, by omega⟩
  show List.all _ (immN k) = true
  simp [h1 k _ (by omega), h2 k _ (by omega), h3 k _ (by omega), h4 k _ (by omega), h5 k _ (by omega), h6 k _ (by omega), h7 k _ (by omega)]
theorem Im.im (h : Im a n) (q : n ≤ 64 := by decide) {x : α} : imm (a x) = true := h 64 x q
theorem Im.imL (h : Im a n) (q : n ≤ 63 := by decide) {xs : List α} : immL (xs.map a) = true := by
  show List.all (xs.map a) (immN 63) = true
  simp only [List.all_map, List.all_eq_true]
  exact fun y _ => h 63 y q
theorem shI : Sh eI 0 := fun _ _ _ => shp_int _ _
theorem shB : Sh eB 0 := fun _ _ _ => shp_bl _ _
theorem shU : Sh eU 0 := fun _ _ _ => shp_non _
theorem shO (h : Sh a n) : Sh (eO a) n := fun m x q => by
  cases x
  · exact shp_non _
  · exact h m _ q
theorem shT (h : Sh a n) : Sh (eT a) (n + 1) := fun m x q => by
  obtain ⟨k, rfl⟩ : ∃ k, m = k + 1 := ⟨m - 1, by omega⟩
  show List.all (x.map a) (shp k) = true
  simp only [List.all_map, List.all_eq_true]
  exact fun y _ => h k y (by omega)
theorem shL (h : Sh a n) : Sh (eL a) (n + 1) := fun m x q => by
  obtain ⟨k, rfl⟩ : ∃ k, m = k + 1 := ⟨m - 1, by omega⟩
  show List.all (x.map a) (shp k) = true
  simp only [List.all_map, List.all_eq_true]
  exact fun y _ => h k y (by omega)
theorem sh0 : Sh e0 1 := fun m x q => by
  obtain ⟨k, rfl⟩ : ∃ k, m = k + 1 := ⟨m - 1, by omega⟩
  rfl
theorem sh1 (h1 : Sh a n1) : Sh (e1 a) (n1 + 1) := fun m x q => by
  obtain ⟨k, rfl⟩ : ∃ k, m = k + 1 := ⟨m - 1, by omega⟩
  show List.all _ (shp k) = true
  simp [h1 k _ (by omega)]
theorem sh2 (h1 : Sh a n1) (h2 : Sh b n2) : Sh (e2 a b) (max n1 n2 + 1) := fun m x q => by
  obtain ⟨k, rfl⟩ : ∃ k, m = k + 1 := ⟨m - 1, by omega⟩
  show List.all _ (shp k) = true
  simp [h1 k _ (by omega), h2 k _ (by omega)]
theorem sh3 (h1 : Sh a n1) (h2 : Sh b n2) (h3 : Sh c n3) : Sh (e3 a b c) (max n1 (max n2 n3) + 1) := fun m x q => by
  obtain ⟨k, rfl⟩ : ∃ k, m = k + 1 := ⟨m - 1, by omega⟩
  show List.all _ (shp k) = true
  simp [h1 k _ (by omega), h2 k _ (by omega), h3 k _ (by omega)]
theorem sh4 (h1 : Sh a n1) (h2 : Sh b n2) (h3 : Sh c n3) (h4 : Sh d n4) : Sh (e4 a b c d) (max n1 (max n2 (max n3 n4)) + 1) := fun m x q => by
  obtain ⟨k, rfl⟩ : ∃ k, m = k + 1 := ⟨m - 1, by omega⟩
  show List.all _ (shp k) = true
  simp [h1 k _ (by omega), h2 k _ (by omega), h3 k _ (by omega), h4 k _ (by omega)]
theorem sh5 (h1 : Sh a n1) (h2 : Sh b n2) (h3 : Sh c n3) (h4 : Sh d n4) (h5 : Sh e n5) : Sh (e5 a b c d e) (max n1 (max n2 (max n3 (max n4 n5))) + 1) := fun m x q => by
  obtain ⟨k, rfl⟩ : ∃ k, m = k + 1 := ⟨m - 1, by omega⟩
  show List.all _ (shp k) = true
  simp [h1 k _ (by omega), h2 k _ (by omega), h3 k _ (by omega), h4 k _ (by omega), h5 k _ (by omega)]
theorem sh6 (h1 : Sh a n1) (h2 : Sh b n2) (h3 : Sh c n3) (h4 : Sh d n4) (h5 : Sh e n5) (h6 : Sh f n6) : Sh (e6 a b c d e f) (max n1 (max n2 (max n3 (max n4 (max n5 n6)))) + 1) := fun m x q => by
  obtain ⟨k, rfl⟩ : ∃ k, m = k + 1 := ⟨m - 1, by omega⟩
  show List.all _ (shp k) = true
  simp [h1 k _ (by omega), h2 k _ (by omega), h3 k _ (by omega), h4 k _ (by omega), h5 k _ (by omega), h6 k _ (by omega)]
theorem sh7 (h1 : Sh a n1) (h2 : Sh b n2) (h3 : Sh c n3) (h4 : Sh d n4) (h5 : Sh e n5) (h6 : Sh f n6) (h7 : Sh g n7) : Sh (e7 a b c d e f g) (max n1 (max n2 (max n3 (max n4 (max n5 (max n6 n7))))) + 1) := fun m x q => by
  obtain ⟨k, rfl⟩ : ∃ k, m = k + 1 := ⟨m - 1, by omega⟩
  show List.all _ (shp k) = true
  simp [h1 k _ (by omega), h2 k _ (by omega), h3 k _ (by omega), h4 k _ (by omega), h5 k _ (by omega), h6 k _ (by omega), h7 k _ (by omega)]
theorem Sh.sh (h : Sh a n) (q : n ≤ 60 := by decide) {x : α} : shp 60 (a x) = true := h 60 x q
end
/-! ### == -/
section
variable {α β γ δ ε ζ η : Type} [DecidableEq α] [DecidableEq β] [DecidableEq γ] [DecidableEq δ] [DecidableEq ε] [DecidableEq ζ] [DecidableEq η] {a : α → Val} {b : β → Val} {c : γ → Val} {d : δ → Val} {e : ε → Val} {f : ζ → Val} {g : η → Val}
theorem veqT {xs ys : List Val} : veq (.tup xs) (.tup ys) = veqL xs ys := by rw [veq]
theorem veqR {xs ys : List Val} : veq (.row xs) (.row ys) = veqL xs ys := by rw [veq]
theorem veqLs {xs ys : List Val} : veq (.lst xs) (.lst ys) = veqL xs ys := by rw [veq]
theorem eqvI : Eqv eI := fun x y => by show veq (.int x) (.int y) = _; rw [veq]; rfl
theorem eqvB : Eqv eB := fun x y => by show veq (.bl x) (.bl y) = _; rw [veq]; rfl
theorem eqvS : Eqv eS := fun x y => by show veq (.str x) (.str y) = _; rw [veq]; rfl
theorem eqvU : Eqv eU := fun x y => by show veq .non .non = _; rw [veq]; simp
theorem veqL_map (h : Eqv a) : ∀ xs ys : List α, veqL (xs.map a) (ys.map a) = decide (xs = ys)
  | [], [] => by simp [veqL]
  | [], y :: ys => by simp [veqL]
  | x :: xs, [] => by simp [veqL]
  | x :: xs, y :: ys => by
    rw [List.map_cons, List.map_cons, veqL, h x y, veqL_map h xs ys]
    by_cases h1 : x = y <;> by_cases h2 : xs = ys <;> simp [h1, h2]
theorem eqvT (h : Eqv a) : Eqv (eT a) := fun x y => by show veq (.row _) (.row _) = _; rw [veqR]; exact veqL_map h x y
theorem eqvL (h : Eqv a) : Eqv (eL a) := fun x y => by show veq (.lst _) (.lst _) = _; rw [veqLs]; exact veqL_map h x y
/-- a kind whose values are never None -/
def NoN (a : α → Val) : Prop := ∀ x, veq (a x) .non = false ∧ veq .non (a x) = false
theorem nnI : NoN eI := fun x => ⟨by show veq (.int x) .non = _; simp [veq], by show veq .non (.int x) = _; simp [veq]⟩
theorem nnB : NoN eB := fun x => ⟨by show veq (.bl x) .non = _; simp [veq], by show veq .non (.bl x) = _; simp [veq]⟩
theorem nnS : NoN eS := fun x => ⟨by show veq (.str x) .non = _; simp [veq], by show veq .non (.str x) = _; simp [veq]⟩
theorem nnTup {f : α → Val} {k : α → List Val} (h : ∀ x, f x = .tup (k x)) : NoN f := fun x => ⟨by rw [h]; simp [veq], by rw [h]; simp [veq]⟩
theorem nnRow {f : α → Val} {k : α → List Val} (h : ∀ x, f x = .row (k x)) : NoN f := fun x => ⟨by rw [h]; simp [veq], by rw [h]; simp [veq]⟩
theorem eqvO (h : Eqv a) (q : NoN a) : Eqv (eO a) := fun x y => by
  cases x <;> cases y
  · show veq .non .non = _; simp [veq]
  · rename_i y; show veq .non (a y) = _; rw [(q y).2]; simp
  · rename_i x; show veq (a x) .non = _; rw [(q x).1]; simp
  · rename_i x y; show veq (a x) (a y) = _; rw [h]; simp
theorem eqv1 (h1 : Eqv a) : Eqv (e1 a) := fun x y => by show veq (.tup _) (.tup _) = _; simp only [veqT, veqL, h1 _ _, Bool.and_true]
theorem eqv2 (h1 : Eqv a) (h2 : Eqv b) : Eqv (e2 a b) := fun x y => by
  show veq (.tup _) (.tup _) = _; simp only [veqT, veqL, h1 _ _, h2 _ _, Bool.and_true, Prod.ext_iff]; simp only [Bool.decide_and]
theorem eqv3 (h1 : Eqv a) (h2 : Eqv b) (h3 : Eqv c) : Eqv (e3 a b c) := fun x y => by
  show veq (.tup _) (.tup _) = _; simp only [veqT, veqL, h1 _ _, h2 _ _, h3 _ _, Bool.and_true, Prod.ext_iff]; simp only [Bool.decide_and]
theorem eqv4 (h1 : Eqv a) (h2 : Eqv b) (h3 : Eqv c) (h4 : Eqv d) : Eqv (e4 a b c d) := fun x y => by
  show veq (.tup _) (.tup _) = _; simp only [veqT, veqL, h1 _ _, h2 _ _, h3 _ _, h4 _ _, Bool.and_true, Prod.ext_iff]; simp only [Bool.decide_and]
theorem eqv5 (h1 : Eqv a) (h2 : Eqv b) (h3 : Eqv c) (h4 : Eqv d) (h5 : Eqv e) : Eqv (e5 a b c d e) := fun x y => by
  show veq (.tup _) (.tup _) = _; simp only [veqT, veqL, h1 _ _, h2 _ _, h3 _ _, h4 _ _, h5 _ _, Bool.and_true, Prod.ext_iff]; simp only [Bool.decide_and]
theorem eqv6 (h1 : Eqv a) (h2 : Eqv b) (h3 : Eqv c) (h4 : Eqv d) (h5 : Eqv e) (h6 : Eqv f) : Eqv (e6 a b c d e f) := fun x y => by
  show veq (.tup _) (.tup _) = _; simp only [veqT, veqL, h1 _ _, h2 _ _, h3 _ _, h4 _ _, h5 _ _, h6 _ _, Bool.and_true, Prod.ext_iff]; simp only [Bool.decide_and]
theorem eqv7 (h1 : Eqv a) (h2 : Eqv b) (h3 : Eqv c) (h4 : Eqv d) (h5 : Eqv e) (h6 : Eqv f) (h7 : Eqv g) : Eqv (e7 a b c d e f g) := fun x y => by
  show veq (.tup _) (.tup _) = _; simp only [veqT, veqL, h1 _ _, h2 _ _, h3 _ _, h4 _ _, h5 _ _, h6 _ _, h7 _ _, Bool.and_true, Prod.ext_iff]; simp only [Bool.decide_and]
end
end NV

set_option Elab.async false
set_option linter.all false
set_option maxRecDepth 100000
set_option maxHeartbeats 1000000
set_option synthInstance.maxSize 2000
/-! Typed operations, and what the evaluator makes of their values. -/
namespace NV
/-! ### typed operations -/
/-- a name for a value -/
def lt {α β : Type} (v : α) (f : α → β) : β := f v
def b2 {α β γ : Type} (m : Option (α × β)) (f : α → β → Option γ) : Option γ := m.bind fun p => f p.1 p.2
def b3 {α β γ δ : Type} (m : Option (α × β × γ)) (f : α → β → γ → Option δ) : Option δ := m.bind fun p => f p.1 p.2.1 p.2.2
def b4 {α β γ δ ε : Type} (m : Option (α × β × γ × δ)) (f : α → β → γ → δ → Option ε) : Option ε := m.bind fun p => f p.1 p.2.1 p.2.2.1 p.2.2.2
def gd (c : Prop) [Decidable c] {α : Type} (x : α) : Option α := if c then some x else none
def catS {α : Type} (xs ys : List α) : Option (List α) := gd (xs.length + ys.length ≤ 16777216) (xs ++ ys)
def snoc {α : Type} (xs : List α) (x : α) : Option (List α) := gd (xs.length < 16777216) (xs ++ [x])
def mulS (i j : Int) : Option Int := gd (i.natAbs < 2 ^ 64 ∨ j.natAbs < 2 ^ 64 ∨ i.natAbs.log2 + j.natAbs.log2 < 1000000) (i * j)
def modS (i j : Int) : Option Int := gd (0 < j) (i % j)
def divS (i j : Int) : Option Int := gd (0 < j ∧ j.natAbs.log2 < 9000) (i / j)
def powS (i j : Int) : Option Int := gd (0 ≤ j ∧ j ≤ 1000000 ∧ i.natAbs < 2 ^ 64) (i ^ j.toNat)
def repL {α : Type} (xs : List α) (k : Int) : Option (List α) := gd ((-1000000 ≤ k ∧ k ≤ 1000000) ∧ xs.length * k.toNat ≤ 1000000) (List.replicate k.toNat xs).flatten
def repT {α : Type} (xs : List α) (k : Int) : Option (List α) := gd ((-1000000 ≤ k ∧ k ≤ 1000) ∧ xs.length ≤ 1000) (List.replicate k.toNat xs).flatten
def maxS (ns : List Int) : Option Int := match ns with
  | [] => none
  | n :: r => some (r.foldl max n)
def minS (ns : List Int) : Option Int := match ns with
  | [] => none
  | n :: r => some (r.foldl min n)
def minPS (ps : List (Int × Int)) : Option (Int × Int) := match ps with
  | [] => none
  | p :: r => some (PySem.W.minOf p r)
def idxS {α : Type} [DecidableEq α] (xs : List α) (x : α) : Option Int := (xs.findIdx? fun z => decide (z = x)).map fun j => ((j : Nat) : Int)
def ssetS (ns : List Int) : Option (List Int) := gd (ns.length < 64) (sset ns)
def eqG {α : Type} [DecidableEq α] (e : α → Val) (x y : α) : Option Bool := gd (shp 60 (e x) = true ∧ shp 60 (e y) = true) (decide (x = y))
def sameS {α : Type} [DecidableEq α] (e : α → Val) (x y : α) : Option Bool := gd (x = y ∧ nest 12 (e y) = true) true
def rgL (lo : Int) (n : Nat) : List Int := (List.range n).map fun k => lo + (k : Nat)
def rg (j : Int) : Option (List Int) := gd (j ≤ 16777216 ∧ -16777216 ≤ j) (rgL 0 j.toNat)
def rg2 (i j : Int) : Option (List Int) := gd ((-16777216 ≤ i ∧ i ≤ 16777216) ∧ -16777216 ≤ j ∧ j ≤ 16777216) (rgL i (j - i).toNat)
def setS {α : Type} (xs : List α) (k : Int) (x : α) : Option (List α) := (L2.ixN xs.length k).map fun j => xs.set j x
def popS {α : Type} (xs : List α) : Option (α × List α) := xs.getLast?.map fun x => (x, xs.dropLast)
def popA {α : Type} (xs : List α) (k : Int) : Option (α × List α) := if -1000000000 ≤ k ∧ k ≤ 1000000000 then (L2.ixN xs.length k).bind fun j => (xs[j]?).map fun x => (x, xs.eraseIdx j) else none
def mapO {α β : Type} (f : α → Option β) : List α → Option (List β)
  | [] => some []
  | x :: xs => (f x).bind fun y => (mapO f xs).bind fun ys => some (y :: ys)
def fmO {α β : Type} (f : α → Option (Option β)) : List α → Option (List β)
  | [] => some []
  | x :: xs => (f x).bind fun y => (fmO f xs).bind fun ys => some (match y with | some y => y :: ys | none => ys)
def fmS {α β σ : Type} (f : σ → α → Option (Option β × σ)) : List α → σ → Option (List β × σ)
  | [], s => some ([], s)
  | x :: xs, s => (f s x).bind fun y => (fmS f xs y.2).bind fun ys => some (match y.1 with | some y => y :: ys.1 | none => ys.1, ys.2)
/-- [f x for x in xs] -/
def compO {α β : Type} (xs : List α) (f : α → Option β) : Option (List β) := if xs.length < 16777216 then mapO f xs else none
/-- [f x for x in xs if p x] -/
def compF {α β : Type} (xs : List α) (p : α → Option Bool) (f : α → Option β) : Option (List β) := if xs.length < 16777216 then fmO (fun x => (p x).bind fun b => if b = true then (f x).map some else some none) xs else none
/-- .. where something changes meanwhile -/
def compS {α β σ : Type} (xs : List α) (s : σ) (f : σ → α → Option (Option β × σ)) : Option (List β × σ) := if xs.length < 16777216 then fmS f xs s else none
inductive Ctl (σ ρ : Type) where
  | nx (s : σ) | ct (s : σ) | bk (s : σ) | rt (x : ρ)
def forS {α σ : Type} (f : σ → α → Option σ) : List α → σ → Option σ
  | [], s => some s
  | x :: xs, s => (f s x).bind fun s2 => forS f xs s2
def forC {α σ ρ : Type} (f : σ → α → Option (Ctl σ ρ)) : List α → σ → Option (Ctl σ ρ)
  | [], s => some (.nx s)
  | x :: xs, s => (f s x).bind fun c => match c with
    | .nx s2 => forC f xs s2
    | .ct s2 => forC f xs s2
    | .bk s2 => some (.nx s2)
    | .rt x => some (.rt x)
def whileS {σ : Type} (c : σ → Option Bool) (f : σ → Option σ) : Nat → σ → Option σ
  | 0, _ => none
  | n + 1, s => (c s).bind fun b => if b = true then (f s).bind fun s2 => whileS c f n s2 else some s
def whileC {σ ρ : Type} (c : σ → Option Bool) (f : σ → Option (Ctl σ ρ)) : Nat → σ → Option (Ctl σ ρ)
  | 0, _ => none
  | n + 1, s => (c s).bind fun b => if b = true then (f s).bind fun t => match t with
    | .nx s2 => whileC c f n s2
    | .ct s2 => whileC c f n s2
    | .bk s2 => some (.nx s2)
    | .rt x => some (.rt x) else some (.nx s)
/-- behind a loop or a branch that may have ended the def -/
def thenF {σ ρ : Type} (c : Ctl σ ρ) (k : σ → Option ρ) : Option ρ := match c with
  | .nx s => k s
  | .rt x => some x
  | _ => none
def thenC {σ τ ρ : Type} (c : Ctl σ ρ) (k : σ → Option (Ctl τ ρ)) : Option (Ctl τ ρ) := match c with
  | .nx s => k s
  | .rt x => some (.rt x)
  | _ => none
/-! ### taking a typed text apart -/
theorem lt_of {α β : Type} {v : α} {f : α → β} {r : β} (h : lt v f = r) : ∃ x, x = v ∧ f x = r := ⟨v, rfl, h⟩
theorem bs {α β : Type} {m : Option α} {f : α → Option β} {r : β} (h : m.bind f = some r) : ∃ x, m = some x ∧ f x = some r := Option.bind_eq_some_iff.mp h
theorem bs2 {α β γ : Type} {m : Option (α × β)} {f : α → β → Option γ} {r : γ} (h : b2 m f = some r) : ∃ x y, m = some (x, y) ∧ f x y = some r := by
  obtain ⟨⟨x, y⟩, h1, h2⟩ := bs h
  exact ⟨x, y, h1, h2⟩
theorem bs3 {α β γ δ : Type} {m : Option (α × β × γ)} {f : α → β → γ → Option δ} {r : δ} (h : b3 m f = some r) : ∃ x y z, m = some (x, y, z) ∧ f x y z = some r := by
  obtain ⟨⟨x, y, z⟩, h1, h2⟩ := bs h
  exact ⟨x, y, z, h1, h2⟩
theorem bs4 {α β γ δ ε : Type} {m : Option (α × β × γ × δ)} {f : α → β → γ → δ → Option ε} {r : ε} (h : b4 m f = some r) : ∃ x y z w, m = some (x, y, z, w) ∧ f x y z w = some r := by
  obtain ⟨⟨x, y, z, w⟩, h1, h2⟩ := bs h
  exact ⟨x, y, z, w, h1, h2⟩
theorem its {α : Type} {c : Bool} {a b : α} {r : α} (h : (if c = true then a else b) = r) : c = true ∧ a = r ∨ c = false ∧ b = r := by
  cases c
  · exact .inr ⟨rfl, h⟩
  · exact .inl ⟨rfl, h⟩
theorem gd_of {c : Prop} [Decidable c] {α : Type} {x y : α} (h : gd c x = some y) : c ∧ x = y := by
  unfold gd at h
  by_cases q : c
  · rw [if_pos q] at h; exact ⟨q, Option.some.inj h⟩
  · rw [if_neg q] at h; cases h
theorem gd_ok {c : Prop} [Decidable c] {α : Type} {x : α} (h : c) : gd c x = some x := if_pos h
/-! ### places -/
theorem ixN_map {α β : Type} (f : α → β) (xs : List α) (k : Int) : L2.ixN (xs.map f).length k = L2.ixN xs.length k := by rw [List.length_map]
theorem atI_map {α β : Type} (f : α → β) (xs : List α) (k : Int) : L2.atI (xs.map f) k = (L2.atI xs k).map f := by
  unfold L2.atI
  rw [ixN_map]
  cases L2.ixN xs.length k with
  | none => rfl
  | some j => simp
theorem cut_map {α β : Type} (f : α → β) (xs : List α) (lo hi : Option Int) : cut (xs.map f) lo hi = (cut xs lo hi).map f := by
  unfold cut
  rw [List.length_map, List.map_take, List.map_drop]
/-! ### rules of one and two values -/
section
variable {α β : Type} {e : α → Val} {n : Nat}
theorem r1_lenT {xs : List α} : prim1 .len (eT e xs) = some (eI xs.length) := by show some (Val.int (xs.map e).length) = _; rw [List.length_map]
theorem r1_lenL {xs : List α} : prim1 .len (eL e xs) = some (eI xs.length) := by show some (Val.int (xs.map e).length) = _; rw [List.length_map]
theorem r1_lenF {xs : List Int} : prim1 .len (eF xs) = some (eI xs.length) := rfl
theorem r1_neg {i : Int} : prim1 .neg (eI i) = some (eI (-i)) := rfl
theorem r1_int {i : Int} : prim1 .int (eI i) = some (eI i) := rfl
theorem r1_intB {b : Bool} : prim1 .int (eB b) = some (eI (if b = true then 1 else 0)) := by cases b <;> rfl
theorem r1_abs {i : Int} : prim1 .abs (eI i) = some (eI (i.natAbs : Int)) := by
  show some (Val.int (if i < 0 then -i else i)) = some (Val.int _)
  congr 2
  split <;> omega
theorem r1_tupT {xs : List α} : prim1 .tuple (eT e xs) = some (eT e xs) := rfl
theorem r1_tupL (h : Im e n) (q : n ≤ 63 := by decide) {xs : List α} : prim1 .tuple (eL e xs) = some (eT e xs) := if_pos (h.imL q)
theorem r1_tupF {xs : List Int} : prim1 .tuple (eF xs) = some (eT eI xs) := rfl
theorem r1_listT (h : Im e n) (q : n ≤ 63 := by decide) {xs : List α} : prim1 .list (eT e xs) = some (eL e xs) := if_pos (h.imL q)
theorem r1_listL (h : Im e n) (q : n ≤ 63 := by decide) {xs : List α} : prim1 .list (eL e xs) = some (eL e xs) := if_pos (h.imL q)
theorem r1_listF {xs : List Int} : prim1 .list (eF xs) = some (eL eI xs) := rfl
theorem intsE : ∀ {ns : List Int}, ints? (ns.map eI) = some ns := intsI
theorem boolsE : ∀ {ns : List Bool}, bools? (ns.map eB) = some ns
  | [] => rfl
  | n :: ns => by rw [List.map_cons]; show (bools? _).map _ = _; rw [boolsE]; rfl
theorem r1_sortedL {xs : List Int} : prim1 .sorted (eL eI xs) = some (eL eI (isort xs)) := by
  show (ints? (xs.map eI)).map _ = _
  rw [intsE]; rfl
theorem r1_sortedT {xs : List Int} : prim1 .sorted (eT eI xs) = some (eL eI (isort xs)) := by
  show (ints? (xs.map eI)).map _ = _
  rw [intsE]; rfl
theorem r1_sortedRL {xs : List Int} : prim1 .sortedR (eL eI xs) = some (eL eI (isort xs).reverse) := by
  show (ints? (xs.map eI)).map _ = _
  rw [intsE]; rfl
theorem r1_sortedRT {xs : List Int} : prim1 .sortedR (eT eI xs) = some (eL eI (isort xs).reverse) := by
  show (ints? (xs.map eI)).map _ = _
  rw [intsE]; rfl
/-- how many unlike ones -/
def nsetS (ns : List Int) : Option Int := gd (ns.length < 1000) (nset ns : Int)
theorem r1_nsetL {xs : List Int} {y : Int} (h : nsetS xs = some y) : prim1 .nset (eL eI xs) = some (eI y) := by
  obtain ⟨h1, rfl⟩ := gd_of h
  show (ints? (xs.map eI)).bind _ = _
  rw [intsE]
  exact if_pos h1
theorem r1_nsetT {xs : List Int} {y : Int} (h : nsetS xs = some y) : prim1 .nset (eT eI xs) = some (eI y) := by
  obtain ⟨h1, rfl⟩ := gd_of h
  show (ints? (xs.map eI)).bind _ = _
  rw [intsE]
  exact if_pos h1
theorem r1_sumL {xs : List Int} : prim1 .sum (eL eI xs) = some (eI xs.sum) := by
  show (ints? (xs.map eI)).map _ = _
  rw [intsE]; rfl
theorem r1_sumT {xs : List Int} : prim1 .sum (eT eI xs) = some (eI xs.sum) := by
  show (ints? (xs.map eI)).map _ = _
  rw [intsE]; rfl
theorem r1_maxL {xs : List Int} {y : Int} (h : maxS xs = some y) : prim1 .max (eL eI xs) = some (eI y) := by
  show (ints? (xs.map eI)).bind _ = _
  rw [intsE]
  cases xs <;> cases h; rfl
theorem r1_maxT {xs : List Int} {y : Int} (h : maxS xs = some y) : prim1 .max (eT eI xs) = some (eI y) := by
  show (ints? (xs.map eI)).bind _ = _
  rw [intsE]
  cases xs <;> cases h; rfl
theorem pairsE : ∀ {ps : List (Int × Int)}, pairs? (ps.map (e2 eI eI)) = some ps
  | [] => rfl
  | p :: ps => by
    rw [List.map_cons]
    show (pairs? (ps.map (e2 eI eI))).map _ = _
    rw [pairsE]; rfl
def minV (ds : List Val) : Option Val := match ints? ds with
    | some [] => none
    | some (n :: r) => some (.int (r.foldl min n))
    | none => (pairs? ds).bind fun ps => match ps with
      | [] => none
      | p :: r => some (eP (PySem.W.minOf p r))
theorem r1_minL {xs : List Int} {y : Int} (h : minS xs = some y) : prim1 .min (eL eI xs) = some (eI y) := by
  show minV (xs.map eI) = _
  unfold minV
  rw [intsE]
  cases xs <;> cases h; rfl
theorem r1_minPL {xs : List (Int × Int)} {y : Int × Int} (h : minPS xs = some y) : prim1 .min (eL (e2 eI eI) xs) = some (e2 eI eI y) := by
  show minV (xs.map (e2 eI eI)) = _
  unfold minV
  cases xs with
  | nil => cases h
  | cons p r =>
    cases h
    rw [List.map_cons, show ints? (e2 eI eI p :: r.map (e2 eI eI)) = none from rfl, ← List.map_cons, pairsE]; rfl
theorem r1_minT {xs : List Int} {y : Int} (h : minS xs = some y) : prim1 .min (eT eI xs) = some (eI y) := by
  show minV (xs.map eI) = _
  unfold minV
  rw [intsE]
  cases xs <;> cases h; rfl
theorem r1_minPT {xs : List (Int × Int)} {y : Int × Int} (h : minPS xs = some y) : prim1 .min (eT (e2 eI eI) xs) = some (e2 eI eI y) := by
  show minV (xs.map (e2 eI eI)) = _
  unfold minV
  cases xs with
  | nil => cases h
  | cons p r =>
    cases h
    rw [List.map_cons, show ints? (e2 eI eI p :: r.map (e2 eI eI)) = none from rfl, ← List.map_cons, pairsE]; rfl
theorem r1_all {xs : List Bool} : prim1 .all (eL eB xs) = some (eB (xs.all id)) := by
  show (bools? (xs.map eB)).map _ = _
  rw [boolsE]; rfl
theorem r1_any {xs : List Bool} : prim1 .any (eL eB xs) = some (eB (xs.any id)) := by
  show (bools? (xs.map eB)).map _ = _
  rw [boolsE]; rfl
theorem r1_not {b : Bool} : prim1 .not_ (eB b) = some (eB (!b)) := rfl
theorem r1_sset {xs ys : List Int} (h : ssetS xs = some ys) : prim1 .sset (eT eI xs) = some (eL eI ys) := by
  obtain ⟨h1, rfl⟩ := gd_of h
  show (ints? (xs.map eI)).bind _ = _
  rw [intsE]
  exact if_pos h1
theorem r2_add {i j : Int} : prim2 .add (eI i) (eI j) = some (eI (i + j)) := rfl
theorem r2_sub {i j : Int} : prim2 .sub (eI i) (eI j) = some (eI (i - j)) := rfl
theorem r2_catT {xs ys zs : List α} (h : catS xs ys = some zs) : prim2 .add (eT e xs) (eT e ys) = some (eT e zs) := by
  obtain ⟨h1, rfl⟩ := gd_of h
  show (if (xs.map e).length + (ys.map e).length ≤ 16777216 then some (Val.row (xs.map e ++ ys.map e)) else none) = _
  rw [List.length_map, List.length_map, if_pos h1, ← List.map_append]; rfl
theorem r2_catL (q : Im e n) (hq : n ≤ 63 := by decide) {xs ys zs : List α} (h : catS xs ys = some zs) : prim2 .add (eL e xs) (eL e ys) = some (eL e zs) := by
  obtain ⟨h1, rfl⟩ := gd_of h
  show (if decide ((xs.map e).length + (ys.map e).length ≤ 16777216) && immL (xs.map e) && immL (ys.map e) then some (Val.lst (xs.map e ++ ys.map e)) else none) = _
  rw [List.length_map, List.length_map, q.imL hq, q.imL hq, decide_eq_true h1, ← List.map_append]; rfl
theorem r2_mul {i j k : Int} (h : mulS i j = some k) : prim2 .mul (eI i) (eI j) = some (eI k) := by
  obtain ⟨h1, rfl⟩ := gd_of h
  exact if_pos h1
theorem r2_mulL {i j : Int} (h : i.natAbs < 2 ^ 64 := by decide) : prim2 .mul (eI i) (eI j) = some (eI (i * j)) := if_pos (.inl h)
theorem r2_mulR {i j : Int} (h : j.natAbs < 2 ^ 64 := by decide) : prim2 .mul (eI i) (eI j) = some (eI (i * j)) := if_pos (.inr (.inl h))
theorem rep_map (f : α → β) (xs : List α) (k : Nat) : (List.replicate k (xs.map f)).flatten = ((List.replicate k xs).flatten).map f := by
  rw [List.map_flatten, List.map_replicate]
theorem r2_repL (q : Im e n) (hq : n ≤ 63 := by decide) {xs zs : List α} {k : Int} (h : repL xs k = some zs) : prim2 .mul (eL e xs) (eI k) = some (eL e zs) := by
  obtain ⟨⟨⟨h1, h2⟩, h3⟩, rfl⟩ := gd_of h
  show (if immL (xs.map e) && decide (-1000000 ≤ k) && decide (k ≤ 1000000) && decide ((xs.map e).length * k.toNat ≤ 1000000) then some (Val.lst (List.replicate k.toNat (xs.map e)).flatten) else none) = _
  rw [List.length_map, q.imL hq, decide_eq_true h1, decide_eq_true h2, decide_eq_true h3, rep_map]; rfl
theorem r2_repT {xs zs : List α} {k : Int} (h : repT xs k = some zs) : prim2 .mul (eT e xs) (eI k) = some (eT e zs) := by
  obtain ⟨⟨⟨h1, h2⟩, h3⟩, rfl⟩ := gd_of h
  show (if decide (-1000000 ≤ k) && decide (k ≤ 1000) && decide ((xs.map e).length ≤ 1000) then some (Val.row (List.replicate k.toNat (xs.map e)).flatten) else none) = _
  rw [List.length_map, decide_eq_true h1, decide_eq_true h2, decide_eq_true h3, rep_map]; rfl
theorem r2_mod {i j k : Int} (h : modS i j = some k) : prim2 .mod (eI i) (eI j) = some (eI k) := by
  obtain ⟨h1, rfl⟩ := gd_of h
  exact if_pos h1
theorem r2_modL {i j : Int} (h : 0 < j := by decide) : prim2 .mod (eI i) (eI j) = some (eI (i % j)) := if_pos h
theorem r2_div {i j k : Int} (h : divS i j = some k) : prim2 .fdiv (eI i) (eI j) = some (eI k) := by
  obtain ⟨h1, rfl⟩ := gd_of h
  exact if_pos h1
theorem r2_divL {i j : Int} (h : 0 < j ∧ j.natAbs.log2 < 9000 := by decide +kernel) : prim2 .fdiv (eI i) (eI j) = some (eI (i / j)) := if_pos h
theorem r2_pow {i j k : Int} (h : powS i j = some k) : prim2 .pow (eI i) (eI j) = some (eI k) := by
  obtain ⟨h1, rfl⟩ := gd_of h
  exact if_pos h1
theorem r2_lt {i j : Int} : prim2 .lt (eI i) (eI j) = some (eB (decide (i < j))) := rfl
theorem r2_ltP {p q : Int × Int} : prim2 .lt (e2 eI eI p) (e2 eI eI q) = some (eB (ltP p q)) := rfl
theorem rX_T [DecidableEq α] (s : Sh e n) (h : Eqv e) (q : n ≤ 59 := by decide) {xs : List α} {x : α} {j : Int} (hj : idxS xs x = some j) : primX (eT e xs) (e x) = some (eI j) := by
  obtain ⟨m, h1, rfl⟩ := Option.map_eq_some_iff.mp hj
  have s2 : shp 60 (.row (xs.map e)) = true := shT s 60 xs (by omega)
  show (if (shp 60 (e x) && shp 60 (.row (xs.map e))) = true then ((xs.map e).findIdx? fun z => veq z (e x)).map fun j => Val.int (j : Nat) else none) = _
  rw [s.sh (by omega), s2, List.findIdx?_map]
  have : ((fun z => veq z (e x)) ∘ e) = fun z => decide (z = x) := funext fun z => h z x
  rw [this, h1]; rfl
theorem rX_L [DecidableEq α] (s : Sh e n) (h : Eqv e) (q : n ≤ 59 := by decide) {xs : List α} {x : α} {j : Int} (hj : idxS xs x = some j) : primX (eL e xs) (e x) = some (eI j) := by
  obtain ⟨m, h1, rfl⟩ := Option.map_eq_some_iff.mp hj
  have s2 : shp 60 (.lst (xs.map e)) = true := shL s 60 xs (by omega)
  show (if (shp 60 (e x) && shp 60 (.lst (xs.map e))) = true then ((xs.map e).findIdx? fun z => veq z (e x)).map fun j => Val.int (j : Nat) else none) = _
  rw [s.sh (by omega), s2, List.findIdx?_map]
  have : ((fun z => veq z (e x)) ∘ e) = fun z => decide (z = x) := funext fun z => h z x
  rw [this, h1]; rfl
theorem r2_le {i j : Int} : prim2 .le (eI i) (eI j) = some (eB (decide (i ≤ j))) := rfl
theorem r2_gt {i j : Int} : prim2 .gt (eI i) (eI j) = some (eB (decide (j < i))) := rfl
theorem r2_ge {i j : Int} : prim2 .ge (eI i) (eI j) = some (eB (decide (j ≤ i))) := rfl
theorem r2_eq [DecidableEq α] (s : Sh e n) (h : Eqv e) (q : n ≤ 60 := by decide) {x y : α} : prim2 .eq (e x) (e y) = some (eB (decide (x = y))) := by
  show (if shp 60 (e x) && shp 60 (e y) then some (Val.bl (veq (e x) (e y))) else none) = _
  rw [s.sh q, s.sh q, h x y]; rfl
theorem r2_ne [DecidableEq α] (s : Sh e n) (h : Eqv e) (q : n ≤ 60 := by decide) {x y : α} : prim2 .ne (e x) (e y) = some (eB (!decide (x = y))) := by
  show (if shp 60 (e x) && shp 60 (e y) then some (Val.bl (!veq (e x) (e y))) else none) = _
  rw [s.sh q, s.sh q, h x y]; rfl
theorem r2_eqG [DecidableEq α] (h : Eqv e) {x y : α} {b : Bool} (q : eqG e x y = some b) : prim2 .eq (e x) (e y) = some (eB b) := by
  obtain ⟨⟨h1, h2⟩, rfl⟩ := gd_of q
  show (if shp 60 (e x) && shp 60 (e y) then some (Val.bl (veq (e x) (e y))) else none) = _
  rw [h1, h2, h x y]; rfl
theorem r2_neG [DecidableEq α] (h : Eqv e) {x y : α} {b : Bool} (q : eqG e x y = some b) : prim2 .ne (e x) (e y) = some (eB (!b)) := by
  obtain ⟨⟨h1, h2⟩, rfl⟩ := gd_of q
  show (if shp 60 (e x) && shp 60 (e y) then some (Val.bl (!veq (e x) (e y))) else none) = _
  rw [h1, h2, h x y]; rfl
theorem memV_map [DecidableEq α] (h : Eqv e) (x : α) (xs : List α) : memV (e x) (xs.map e) = decide (x ∈ xs) := by
  unfold memV
  induction xs with
  | nil => simp
  | cons y ys ih =>
    rw [List.map_cons, List.any_cons, ih, h y x]
    by_cases h1 : y = x <;> by_cases h2 : x ∈ ys <;> simp [h1, h2, eq_comm] <;> intro e <;> exact absurd e.symm h1
theorem r2_inT [DecidableEq α] (s : Sh e n) (h : Eqv e) (q : n ≤ 59 := by decide) {x : α} {xs : List α} : prim2 .isin (e x) (eT e xs) = some (eB (decide (x ∈ xs))) := by
  have s2 : shp 60 (.row (xs.map e)) = true := shT s 60 xs (by omega)
  have r : prim2 .isin (e x) (.row (xs.map e)) = if shp 60 (e x) && shp 60 (.row (xs.map e)) then some (.bl (memV (e x) (xs.map e))) else none := by cases e x <;> rfl
  show prim2 .isin (e x) (.row (xs.map e)) = _
  rw [r, s.sh (by omega), s2, memV_map h]; rfl
theorem r2_inL [DecidableEq α] (s : Sh e n) (h : Eqv e) (q : n ≤ 59 := by decide) {x : α} {xs : List α} : prim2 .isin (e x) (eL e xs) = some (eB (decide (x ∈ xs))) := by
  have s2 : shp 60 (.lst (xs.map e)) = true := shL s 60 xs (by omega)
  have r : prim2 .isin (e x) (.lst (xs.map e)) = if shp 60 (e x) && shp 60 (.lst (xs.map e)) then some (.bl (memV (e x) (xs.map e))) else none := by cases e x <;> rfl
  show prim2 .isin (e x) (.lst (xs.map e)) = _
  rw [r, s.sh (by omega), s2, memV_map h]; rfl
theorem r2_notinT [DecidableEq α] (s : Sh e n) (h : Eqv e) (q : n ≤ 59 := by decide) {x : α} {xs : List α} : prim2 .notin (e x) (eT e xs) = some (eB (!decide (x ∈ xs))) := by
  have s2 : shp 60 (.row (xs.map e)) = true := shT s 60 xs (by omega)
  have r : prim2 .notin (e x) (.row (xs.map e)) = if shp 60 (e x) && shp 60 (.row (xs.map e)) then some (.bl (!memV (e x) (xs.map e))) else none := by cases e x <;> rfl
  show prim2 .notin (e x) (.row (xs.map e)) = _
  rw [r, s.sh (by omega), s2, memV_map h]; rfl
theorem r2_notinL [DecidableEq α] (s : Sh e n) (h : Eqv e) (q : n ≤ 59 := by decide) {x : α} {xs : List α} : prim2 .notin (e x) (eL e xs) = some (eB (!decide (x ∈ xs))) := by
  have s2 : shp 60 (.lst (xs.map e)) = true := shL s 60 xs (by omega)
  have r : prim2 .notin (e x) (.lst (xs.map e)) = if shp 60 (e x) && shp 60 (.lst (xs.map e)) then some (.bl (!memV (e x) (xs.map e))) else none := by cases e x <;> rfl
  show prim2 .notin (e x) (.lst (xs.map e)) = _
  rw [r, s.sh (by omega), s2, memV_map h]; rfl
theorem r2_isN (h : NoN e) {x : Option α} : prim2 .isN (eO e x) .non = some (eB x.isNone) := by
  rw [r_isN]
  cases x with
  | none => rfl
  | some x =>
    show some (Val.bl (match e x with | .non => true | _ => false)) = some (Val.bl false)
    have := (h x).1
    cases q : e x <;> first | rfl | (rw [q] at this; simp [veq] at this)
theorem r2_notN (h : NoN e) {x : Option α} : prim2 .notN (eO e x) .non = some (eB x.isSome) := by
  rw [r_notN]
  cases x with
  | none => rfl
  | some x =>
    show some (Val.bl (match e x with | .non => false | _ => true)) = some (Val.bl true)
    have := (h x).1
    cases q : e x <;> first | rfl | (rw [q] at this; simp [veq] at this)
theorem r2_isNo (h : NoN e) {x : α} : prim2 .isN (e x) .non = some (eB false) := r2_isN h (x := some x)
theorem r2_notNo (h : NoN e) {x : α} : prim2 .notN (e x) .non = some (eB true) := r2_notN h (x := some x)
theorem r2_isB {x y : Bool} : prim2 .isB (eB x) (eB y) = some (eB (decide (x = y))) := rfl
theorem r2_notB {x y : Bool} : prim2 .notB (eB x) (eB y) = some (eB (!decide (x = y))) := rfl
theorem r2_idxT {xs : List α} {k : Int} {x : α} (h : L2.atI xs k = some x) : prim2 .idx (eT e xs) (eI k) = some (e x) := by
  show L2.atI (xs.map e) k = _
  rw [atI_map, h]; rfl
theorem r2_idxL {xs : List α} {k : Int} {x : α} (h : L2.atI xs k = some x) : prim2 .idx (eL e xs) (eI k) = some (e x) := by
  show L2.atI (xs.map e) k = _
  rw [atI_map, h]; rfl
theorem r2_idxF {xs : List Int} {k : Int} {x : Int} (h : L2.atI xs k = some x) : prim2 .idx (eF xs) (eI k) = some (eI x) := by
  show L2.atI (xs.map Val.int) k = _
  rw [atI_map, h]; rfl
theorem r2_min {i j : Int} : prim2 .min2 (eI i) (eI j) = some (eI (min i j)) := by
  show some (Val.int (if j < i then j else i)) = some (Val.int _)
  congr 2; omega
theorem r2_max {i j : Int} : prim2 .max2 (eI i) (eI j) = some (eI (max i j)) := by
  show some (Val.int (if j > i then j else i)) = some (Val.int _)
  congr 2; split <;> omega
theorem r3_min {i j k : Int} : min3V i j k = min i (min j k) := by
  unfold min3V; split <;> split <;> omega
theorem r_cutT {xs : List α} {lo hi : Option Int} : primS (eT e xs) lo hi = some (eT e (cut xs lo hi)) := by
  show some (Val.row (cut (xs.map e) lo hi)) = _
  rw [cut_map]; rfl
theorem r_cutL (h : Im e n) (q : n ≤ 63 := by decide) {xs : List α} {lo hi : Option Int} : primS (eL e xs) lo hi = some (eL e (cut xs lo hi)) := by
  show (if immL (xs.map e) then some (Val.lst (cut (xs.map e) lo hi)) else none) = _
  rw [h.imL q, cut_map]; rfl
theorem r_cutF {xs : List Int} {lo hi : Option Int} : primS (eF xs) lo hi = some (eL eI (cut xs lo hi)) := rfl
theorem own_im (h : Im e n) (q : n ≤ 64 := by decide) {b : Bool} {x : α} : own b (e x) = true := by
  unfold own
  rw [show imm (e x) = true from h.im q]; rfl
theorem own_L (h : Im e n) (q : n ≤ 63 := by decide) {xs : List α} : own true (eL e xs) = true := by
  show (imm (.lst (xs.map e)) || (true && immL (xs.map e))) = true
  rw [h.imL q]; simp
end
end NV

set_option Elab.async false
set_option linter.all false
set_option maxRecDepth 100000
set_option maxHeartbeats 1000000
/-! Rules by which a typed text goes beside a text of the small language. -/
namespace NV
section
variable {cf : Nat → List Val → Option (Val × List (Option Val))} {fu : Nat} {ρ ρ1 ρ2 ρ3 : Env} {α β σ τ : Type}
theorem q_v {i : Nat} {v : Val} (h : Env.get ρ i = some v) : pk (.v i) ρ = some v := h
theorem q_l1 {α : Type} {e : α → Val} {a : Q} {x : α} (ha : pk a ρ = some (e x)) : pk (.l1 a) ρ = some (eL e [x]) := by
  show (pk a ρ).map _ = _
  rw [ha]; rfl
theorem q_1 {p : P1} {a : Q} {x z : Val} (ha : pk a ρ = some x) (h : prim1 p x = some z) : pk (.p1 p a) ρ = some z := by
  show (pk a ρ).bind _ = _
  rw [ha]; exact h
theorem q_2 {p : P2} {a b : Q} {x y z : Val} (ha : pk a ρ = some x) (hb : pk b ρ = some y) (h : prim2 p x y = some z) : pk (.p2 p a b) ρ = some z := by
  show (pk a ρ).bind _ = _
  rw [ha]; show (pk b ρ).bind _ = _
  rw [hb]; exact h
theorem v_q {q : Q} {d : Val} (h : pk q ρ = some d) (hi : imm d = true) : ev cf (.q q) ρ = some (d, ρ) := by
  rw [x_q, h]; exact if_pos hi
theorem v_mv {i : Nat} {d : Val} (h : Env.get ρ i = some d) (e : ρ.set i none = ρ1) : ev cf (.mv i) ρ = some (d, ρ1) := by
  rw [x_mv, h]; subst e; rfl
theorem o_v {i : Nat} {d : Val} (h : Env.get ρ i = some d) : evOp cf (.v i) ρ = some (.v i, ρ) := by
  rw [x_ov, h]; rfl
theorem o_q {q : Q} {d : Val} (h : pk q ρ = some d) : evOp cf (.q q) ρ = some (.d d, ρ) := by
  rw [x_oq, h]; rfl
theorem o_e {e : E} {d : Val} (h : ev cf e ρ = some (d, ρ1)) : evOp cf (.e e) ρ = some (.d d, ρ1) := by
  rw [x_oe, h]; rfl
theorem v_1 {p : P1} {a : Op} {o : Opd} {x d : Val} (ha : evOp cf a ρ = some (o, ρ1)) (hx : o.res ρ1 = some x) (h : prim1 p x = some d) (ho : own p.fresh d = true) : ev cf (.p1 p a) ρ = some (d, ρ1) := by
  rw [x_p1, ha]; show (o.res ρ1).bind _ = _
  rw [hx]; show (prim1 p x).bind _ = _
  rw [h]; exact if_pos ho
theorem v_2 {p : P2} {a b : Op} {o o' : Opd} {x y d : Val} (ha : evOp cf a ρ = some (o, ρ1)) (hb : evOp cf b ρ1 = some (o', ρ2)) (hf : (b.isE && !o.firm && a.isQ) = false) (hx : o.res ρ2 = some x) (hy : o'.res ρ2 = some y) (h : prim2 p x y = some d) (ho : own p.fresh d = true) : ev cf (.p2 p a b) ρ = some (d, ρ2) := by
  rw [x_p2, ha]; show (evOp cf b ρ1).bind _ = _
  rw [hb]; show (if (b.isE && !o.firm && a.isQ) = true then none else _) = _
  rw [hf]; show (o.res ρ2).bind _ = _
  rw [hx]; show (o'.res ρ2).bind _ = _
  rw [hy]; show (prim2 p x y).bind _ = _
  rw [h]; exact if_pos ho
theorem po_n : pkO .no ρ = some none := rfl
theorem po_y {q : Q} {i : Int} (h : pk q ρ = some (eI i)) : pkO (.yes q) ρ = some (some i) := by
  rw [x_pky, h]; rfl
theorem v_sl {a : Op} {lo hi : OQ} {o : Opd} {x d : Val} {l k : Option Int} (ha : evOp cf a ρ = some (o, ρ1)) (hx : o.res ρ1 = some x) (hl : pkO lo ρ1 = some l) (hk : pkO hi ρ1 = some k) (h : primS x l k = some d) (ho : own true d = true) : ev cf (.sl a lo hi) ρ = some (d, ρ1) := by
  rw [x_sl, ha]; show (o.res ρ1).bind _ = _
  rw [hx]; show (pkO lo ρ1).bind _ = _
  rw [hl]; show (pkO hi ρ1).bind _ = _
  rw [hk]; show (primS x l k).bind _ = _
  rw [h]; exact if_pos ho
theorem v_and {a b : E} {x y : Bool} (ha : ev cf a ρ = some (eB x, ρ1)) (hb : ev cf b ρ1 = some (eB y, ρ1)) : ev cf (.and_ a b) ρ = some (eB (x && y), ρ1) := by
  rw [x_and, ha]; cases x
  · rfl
  · exact hb
theorem v_andT {a b : E} {x : Bool} {d : Val} (ha : ev cf a ρ = some (eB x, ρ1)) (c : x = true) (hb : ev cf b ρ1 = some (d, ρ2)) : ev cf (.and_ a b) ρ = some (d, ρ2) := by
  subst c; rw [x_and, ha]; exact hb
theorem v_andF {a b : E} {x : Bool} (ha : ev cf a ρ = some (eB x, ρ1)) (c : x = false) : ev cf (.and_ a b) ρ = some (eB false, ρ1) := by
  subst c; rw [x_and, ha]; rfl
theorem v_or {a b : E} {x y : Bool} (ha : ev cf a ρ = some (eB x, ρ1)) (hb : ev cf b ρ1 = some (eB y, ρ1)) : ev cf (.or_ a b) ρ = some (eB (x || y), ρ1) := by
  rw [x_or, ha]; cases x
  · exact hb
  · rfl
theorem v_orF {a b : E} {x : Bool} {d : Val} (ha : ev cf a ρ = some (eB x, ρ1)) (c : x = false) (hb : ev cf b ρ1 = some (d, ρ2)) : ev cf (.or_ a b) ρ = some (d, ρ2) := by
  subst c; rw [x_or, ha]; exact hb
theorem v_orT {a b : E} {x : Bool} (ha : ev cf a ρ = some (eB x, ρ1)) (c : x = true) : ev cf (.or_ a b) ρ = some (eB true, ρ1) := by
  subst c; rw [x_or, ha]; rfl
theorem v_iteT {a b c : E} {x : Bool} {d : Val} (hc : ev cf c ρ = some (eB x, ρ1)) (q : x = true) (ha : ev cf a ρ1 = some (d, ρ2)) : ev cf (.ite_ c a b) ρ = some (d, ρ2) := by
  subst q; rw [x_ite, hc]; exact ha
theorem v_iteF {a b c : E} {x : Bool} {d : Val} (hc : ev cf c ρ = some (eB x, ρ1)) (q : x = false) (hb : ev cf b ρ1 = some (d, ρ2)) : ev cf (.ite_ c a b) ρ = some (d, ρ2) := by
  subst q; rw [x_ite, hc]; exact hb
theorem v_not {a : E} {x : Bool} (ha : ev cf a ρ = some (eB x, ρ1)) : ev cf (.not_ a) ρ = some (eB (!x), ρ1) := by
  rw [x_not, ha]; rfl
theorem v_chain {p r : P2} {a b c : Q} {x y z : Val} {k l : Bool} (ha : pk a ρ = some x) (hb : pk b ρ = some y) (hp : prim2 p x y = some (eB k)) (hc : pk c ρ = some z) (hr : prim2 r y z = some (eB l)) : ev cf (.chain p r a b c) ρ = some (eB (k && l), ρ) := by
  show (pk a ρ).bind _ = _
  rw [ha]; show (pk b ρ).bind _ = _
  rw [hb]; show (prim2 p x y).bind _ = _
  rw [hp]; cases k
  · rfl
  · show (pk c ρ).bind _ = _
    rw [hc]; show (prim2 r y z).bind _ = _
    rw [hr]; rfl
theorem es_n : evEs cf .nil ρ = some ([], ρ) := rfl
theorem es_c {e : E} {es : Es} {d : Val} {ds : List Val} (h : ev cf e ρ = some (d, ρ1)) (t : evEs cf es ρ1 = some (ds, ρ2)) : evEs cf (.cons e es) ρ = some (d :: ds, ρ2) := by
  rw [x_esc, h]; show (evEs cf es ρ1).map _ = _
  rw [t]; rfl
theorem v_tup {es : Es} {ds : List Val} {d : Val} (h : evEs cf es ρ = some (ds, ρ1)) (e : Val.tup ds = d) : ev cf (.tup es) ρ = some (d, ρ1) := by
  rw [x_tup, h, ← e]; rfl
theorem v_rw {es : Es} {ds : List Val} {d : Val} (h : evEs cf es ρ = some (ds, ρ1)) (e : Val.row ds = d) : ev cf (.rw es) ρ = some (d, ρ1) := by
  show (evEs cf es ρ).map _ = _
  rw [h, ← e]; rfl
theorem v_lst {es : Es} {ds : List Val} {d : Val} (h : evEs cf es ρ = some (ds, ρ1)) (e : Val.lst ds = d) : ev cf (.lst es) ρ = some (d, ρ1) := by
  rw [x_lst, h, ← e]; rfl
theorem as_n : evAs cf .nil ρ = some ([], ρ) := rfl
theorem as_v {i : Nat} {as : As} {d : Val} {t : List (Val × Option Nat)} (h : Env.get ρ i = some d) (hi : imm d = true) (k : evAs cf as ρ = some (t, ρ1)) : evAs cf (.v i as) ρ = some ((d, none) :: t, ρ1) := by
  rw [x_asv, h]; show (if imm d = true then _ else _) = _
  rw [if_pos hi, k]; rfl
theorem as_m {i : Nat} {as : As} {d d2 : Val} {t : List (Val × Option Nat)} (h : Env.get ρ i = some d) (hi : imm d = false) (k : evAs cf as ρ = some (t, ρ1)) (h2 : Env.get ρ1 i = some d2) (e : ρ1.set i none = ρ2) : evAs cf (.v i as) ρ = some ((d2, some i) :: t, ρ2) := by
  subst e
  rw [x_asv, h]; show (if imm d = true then _ else _) = _
  rw [if_neg (by rw [hi]; decide), k]; show (Env.get ρ1 i).map _ = _
  rw [h2]; rfl
theorem as_e {e : E} {as : As} {d : Val} {t : List (Val × Option Nat)} (h : ev cf e ρ = some (d, ρ1)) (k : evAs cf as ρ1 = some (t, ρ2)) : evAs cf (.e e as) ρ = some ((d, none) :: t, ρ2) := by
  rw [x_ase, h]; show (evAs cf as ρ1).map _ = _
  rw [k]; rfl
theorem v_call {f : Nat} {as : As} {t : List (Val × Option Nat)} {d : Val} {os : List (Option Val)} (ha : evAs cf as ρ = some (t, ρ1)) (hc : cf f (t.map (·.1)) = some (d, os)) (hw : wback (t.map (·.2)) os ρ1 = ρ2) : ev cf (.call f as) ρ = some (d, ρ2) := by
  rw [x_call, ha]; show (cf f (t.map (·.1))).map _ = _
  rw [hc, ← hw]; rfl
theorem immF_L {e : α → Val} {xs : List α} : imm (eL e xs) = false := immN_lst 64 _
theorem immF_Ls {ds : List Val} : imm (.lst ds) = false := immN_lst 64 _
theorem v_pop {i : Nat} {e : α → Val} {xs ys : List α} {x : α} (h : Env.get ρ i = some (eL e xs)) (hp : popS xs = some (x, ys)) (hw : ρ.set i (some (eL e ys)) = ρ1) : ev cf (.pop i) ρ = some (e x, ρ1) := by
  unfold popS at hp
  obtain ⟨z, h1, h2⟩ := Option.map_eq_some_iff.mp hp
  cases h2
  subst hw
  rw [x_pop, h]
  show ((xs.map e).getLast?).map _ = _
  rw [List.getLast?_map, h1]
  show some (e x, ρ.set i (some (.lst (xs.map e).dropLast))) = _
  rw [← List.map_dropLast]; rfl
theorem erase_map (f : α → β) : ∀ (xs : List α) (j : Nat), (xs.map f).eraseIdx j = (xs.eraseIdx j).map f
  | [], j => by simp
  | x :: xs, 0 => rfl
  | x :: xs, j + 1 => by
    rw [List.map_cons, List.eraseIdx_cons_succ, erase_map f xs j]; rfl
theorem v_popAt {i : Nat} {a : E} {e : α → Val} {xs ys : List α} {x : α} {k : Int} (hl : isLst (Env.get ρ i) = true) (ha : ev cf a ρ = some (eI k, ρ1)) (h : Env.get ρ1 i = some (eL e xs)) (hp : popA xs k = some (x, ys)) (hw : ρ1.set i (some (eL e ys)) = ρ2) : ev cf (.popAt i a) ρ = some (e x, ρ2) := by
  unfold popA at hp
  by_cases q : -1000000000 ≤ k ∧ k ≤ 1000000000
  · rw [if_pos q] at hp
    obtain ⟨j, h1, h2⟩ := bs hp
    obtain ⟨z, h3, h4⟩ := Option.map_eq_some_iff.mp h2
    cases h4
    subst hw
    show (if !isLst (Env.get ρ i) then none else _) = _
    rw [hl]
    show (ev cf a ρ).bind _ = _
    rw [ha]
    show (match (eI k), Env.get ρ1 i with
      | .int k, some (.lst ds) => if -1000000000 ≤ k ∧ k ≤ 1000000000 then (L2.ixN ds.length k).bind fun j => (ds[j]?).map fun x => (x, ρ1.set i (some (.lst (ds.eraseIdx j)))) else none
      | _, _ => none) = _
    rw [h]
    show (if -1000000000 ≤ k ∧ k ≤ 1000000000 then (L2.ixN (xs.map e).length k).bind fun j => ((xs.map e)[j]?).map fun x => (x, ρ1.set i (some (.lst ((xs.map e).eraseIdx j)))) else none) = _
    rw [if_pos q, ixN_map, h1]
    show ((xs.map e)[j]?).map _ = _
    rw [List.getElem?_map, h3]
    show some (e x, ρ1.set i (some (.lst ((xs.map e).eraseIdx j)))) = _
    rw [erase_map]; rfl
  · rw [if_neg q] at hp; cases hp
theorem rngV {lo : Int} {n : Nat} : rngVals lo n = (rgL lo n).map eI := by
  unfold rngVals rgL; rw [List.map_map]; rfl
theorem v_lrgL {a : E} {j : Int} {xs : List Int} (ha : ev cf a ρ = some (eI j, ρ1)) (h : rg j = some xs) : ev cf (.lrg true a) ρ = some (eL eI xs, ρ1) := by
  obtain ⟨q, rfl⟩ := gd_of h
  show (ev cf a ρ).bind _ = _
  rw [ha]
  show (if j ≤ 16777216 ∧ -16777216 ≤ j then some (if true then Val.lst (rngVals 0 j.toNat) else .row (rngVals 0 j.toNat), ρ1) else none) = _
  rw [if_pos q, rngV]; rfl
theorem v_lrgT {a : E} {j : Int} {xs : List Int} (ha : ev cf a ρ = some (eI j, ρ1)) (h : rg j = some xs) : ev cf (.lrg false a) ρ = some (eT eI xs, ρ1) := by
  obtain ⟨q, rfl⟩ := gd_of h
  show (ev cf a ρ).bind _ = _
  rw [ha]
  show (if j ≤ 16777216 ∧ -16777216 ≤ j then some (if false then Val.lst (rngVals 0 j.toNat) else .row (rngVals 0 j.toNat), ρ1) else none) = _
  rw [if_pos q, rngV]; rfl
theorem v_index {a b : Q} {x y : Val} {j : Int} (ha : pk a ρ = some x) (hb : pk b ρ = some y) (h : primX x y = some (eI j)) : ev cf (.index a b) ρ = some (eI j, ρ) := by
  show (pk a ρ).bind _ = _
  rw [ha]; show (pk b ρ).bind _ = _
  rw [hb]; show (primX x y).map _ = _
  rw [h]; rfl
theorem v_min3 {a b c : Q} {i j k : Int} (ha : pk a ρ = some (eI i)) (hb : pk b ρ = some (eI j)) (hc : pk c ρ = some (eI k)) : ev cf (.min3 a b c) ρ = some (eI (min i (min j k)), ρ) := by
  show (pk a ρ).bind _ = _
  rw [ha]; show (pk b ρ).bind _ = _
  rw [hb]; show (pk c ρ).bind _ = _
  rw [hc]; show some (Val.int (min3V i j k), ρ) = _
  rw [r3_min]
/-! ### what is walked -/
theorem i_rng1 {a : E} {j : Int} {xs : List Int} (ha : ev cf a ρ = some (eI j, ρ1)) (h : rg j = some xs) : evIt cf (.rng1 a) ρ = some (⟨xs.map eI, none⟩, ρ1) := by
  obtain ⟨q, rfl⟩ := gd_of h
  rw [x_itr, ha]
  show (if j ≤ 16777216 ∧ -16777216 ≤ j then some ((⟨rngVals 0 j.toNat, none⟩ : Itr), ρ1) else none) = _
  rw [if_pos q, rngV]
theorem i_rng2 {a b : E} {i j : Int} {xs : List Int} (ha : ev cf a ρ = some (eI i, ρ1)) (hb : ev cf b ρ1 = some (eI j, ρ2)) (h : rg2 i j = some xs) : evIt cf (.rng2 a b) ρ = some (⟨xs.map eI, none⟩, ρ2) := by
  obtain ⟨q, rfl⟩ := gd_of h
  show (ev cf a ρ).bind _ = _
  rw [ha]; show (ev cf b ρ1).bind _ = _
  rw [hb]
  show (if (-16777216 ≤ i ∧ i ≤ 16777216) ∧ -16777216 ≤ j ∧ j ≤ 16777216 then some ((⟨rngVals i (j - i).toNat, none⟩ : Itr), ρ2) else none) = _
  rw [if_pos q, rngV]
theorem i_vT {e : α → Val} {n i : Nat} {xs : List α} (g : Im e n) (h : Env.get ρ i = some (eT e xs)) (q : n ≤ 63 := by decide) : evIt cf (.v i) ρ = some (⟨xs.map e, none⟩, ρ) := by
  rw [x_itv, h]; show (if immL (xs.map e) then some ((⟨xs.map e, none⟩ : Itr)) else none).map _ = _
  rw [g.imL q]; rfl
theorem i_vL {e : α → Val} {n i : Nat} {xs : List α} (g : Im e n) (h : Env.get ρ i = some (eL e xs)) (q : n ≤ 63 := by decide) : evIt cf (.v i) ρ = some (⟨xs.map e, some (i, eL e xs)⟩, ρ) := by
  rw [x_itv, h]; show (if immL (xs.map e) then some ((⟨xs.map e, some (i, .lst (xs.map e))⟩ : Itr)) else none).map _ = _
  rw [g.imL q]; rfl
theorem i_vF {i : Nat} {xs : List Int} (h : Env.get ρ i = some (eF xs)) : evIt cf (.v i) ρ = some (⟨xs.map eI, none⟩, ρ) := by
  rw [x_itv, h]; rfl
theorem i_eT {e : α → Val} {n : Nat} {a : E} {xs : List α} (g : Im e n) (h : ev cf a ρ = some (eT e xs, ρ1)) (q : n ≤ 63 := by decide) : evIt cf (.e a) ρ = some (⟨xs.map e, none⟩, ρ1) := by
  show (ev cf a ρ).bind _ = _
  rw [h]; show (if immL (xs.map e) then some ((⟨xs.map e, none⟩ : Itr)) else none).map _ = _
  rw [g.imL q]; rfl
theorem i_eL {e : α → Val} {n : Nat} {a : E} {xs : List α} (g : Im e n) (h : ev cf a ρ = some (eL e xs, ρ1)) (q : n ≤ 63 := by decide) : evIt cf (.e a) ρ = some (⟨xs.map e, none⟩, ρ1) := by
  show (ev cf a ρ).bind _ = _
  rw [h]; show (if immL (xs.map e) then some ((⟨xs.map e, none⟩ : Itr)) else none).map _ = _
  rw [g.imL q]; rfl
theorem hd_n {vs : List Val} : Itr.held ⟨vs, none⟩ ρ = true := rfl
theorem hd_s {i : Nat} {d : Val} {vs : List Val} (h : Env.get ρ i = some d) : Itr.held ⟨vs, some (i, d)⟩ ρ = true := by
  unfold Itr.held; dsimp only; rw [h]; exact same_self d
/-! ### comprehensions -/
theorem c_mapO {held : Env → Bool} {step : Val → Env → Option (Option Val × Env)} {e : α → Val} {d : β → Val} {f : α → Option β} (hh : held ρ = true) (hs : ∀ x y, f x = some y → step (e x) ρ = some (some (d y), ρ)) :
    ∀ (xs : List α) (ys : List β), mapO f xs = some ys → compL held step (xs.map e) ρ = some (ys.map d, ρ)
  | [], ys, h => by cases h; rw [List.map_nil, cl_nil, if_pos hh]; rfl
  | x :: xs, ys, h => by
    obtain ⟨y, h1, h2⟩ := bs h
    obtain ⟨zs, h3, h4⟩ := bs h2
    cases h4
    rw [List.map_cons, cl_cons, if_pos hh, hs x y h1]
    show (compL held step (xs.map e) ρ).map _ = _
    rw [c_mapO hh hs xs zs h3]; rfl
theorem c_fmO {held : Env → Bool} {step : Val → Env → Option (Option Val × Env)} {e : α → Val} {d : β → Val} {f : α → Option (Option β)} (hh : held ρ = true) (hs : ∀ x y, f x = some y → step (e x) ρ = some (y.map d, ρ)) :
    ∀ (xs : List α) (ys : List β), fmO f xs = some ys → compL held step (xs.map e) ρ = some (ys.map d, ρ)
  | [], ys, h => by cases h; rw [List.map_nil, cl_nil, if_pos hh]; rfl
  | x :: xs, ys, h => by
    obtain ⟨y, h1, h2⟩ := bs h
    obtain ⟨zs, h3, h4⟩ := bs h2
    cases h4
    rw [List.map_cons, cl_cons, if_pos hh, hs x y h1]
    show (compL held step (xs.map e) ρ).map _ = _
    rw [c_fmO hh hs xs zs h3]
    cases y <;> rfl
theorem c_fmS {held : Env → Bool} {step : Val → Env → Option (Option Val × Env)} {e : α → Val} {d : β → Val} {f : σ → α → Option (Option β × σ)} (en : σ → Env) (hh : ∀ s, held (en s) = true) (hs : ∀ s x y s2, f s x = some (y, s2) → step (e x) (en s) = some (y.map d, en s2)) :
    ∀ (xs : List α) (s : σ) (ys : List β) (s2 : σ), fmS f xs s = some (ys, s2) → compL held step (xs.map e) (en s) = some (ys.map d, en s2)
  | [], s, ys, s2, h => by cases h; rw [List.map_nil, cl_nil, if_pos (hh _)]; rfl
  | x :: xs, s, ys, s2, h => by
    obtain ⟨⟨y, t⟩, h1, h2⟩ := bs h
    obtain ⟨⟨zs, u⟩, h3, h4⟩ := bs h2
    cases h4
    rw [List.map_cons, cl_cons, if_pos (hh _), hs s x y t h1]
    show (compL held step (xs.map e) (en t)).map _ = _
    rw [c_fmS en hh hs xs t zs u h3]
    cases y <;> rfl
/-- a turn of a comprehension without a test -/
theorem t_el {ow : List Nat} {tg : Tg} {el : E} {x d : Val} (ha : asg tg x ρ = some ρ1) (he : ev cf el ρ1 = some (d, ρ2)) (hw : wipeE ρ2 ow = ρ3) : stC cf ow tg el x ρ = some (some d, ρ3) := by
  unfold stC
  rw [ha]; show (ev cf el ρ1).map _ = _
  rw [he, ← hw]; rfl
theorem t_ifT {ρ4 : Env} {ow : List Nat} {tg : Tg} {cd el : E} {x d : Val} {b : Bool} (ha : asg tg x ρ = some ρ1) (hc : ev cf cd ρ1 = some (eB b, ρ2)) (hb : b = true) (he : ev cf el ρ2 = some (d, ρ3)) (hw : wipeE ρ3 ow = ρ4) : stI cf ow tg cd el x ρ = some (some d, ρ4) := by
  unfold stI
  subst hb
  rw [ha]; show (ev cf cd ρ1).bind _ = _
  rw [hc]; show (ev cf el ρ2).map _ = _
  rw [he, ← hw]; rfl
theorem t_ifF {ow : List Nat} {tg : Tg} {cd el : E} {x : Val} {b : Bool} (ha : asg tg x ρ = some ρ1) (hc : ev cf cd ρ1 = some (eB b, ρ2)) (hb : b = false) (hw : wipeE ρ2 ow = ρ3) : stI cf ow tg cd el x ρ = some (none, ρ3) := by
  unfold stI
  subst hb
  rw [ha]; show (ev cf cd ρ1).bind _ = _
  rw [hc, ← hw]; rfl
theorem v_comp {ow : List Nat} {tg : Tg} {it : It} {el : E} {e : α → Val} {d : β → Val} {xs : List α} {ys : List β} {ck : Option (Nat × Val)} {f : α → Option β} (hi : evIt cf it ρ = some (⟨xs.map e, ck⟩, ρ1)) (hw : wipeE ρ1 ow = ρ2) (h : compO xs f = some ys) (hh : Itr.held ⟨xs.map e, ck⟩ ρ2 = true)
    (hs : ∀ x y, f x = some y → stC cf ow tg el (e x) ρ2 = some (some (d y), ρ2)) (hb : backE ρ1 ρ2 ow = ρ3) : ev cf (.comp ow tg it el) ρ = some (eL d ys, ρ3) := by
  unfold compO at h
  by_cases q : xs.length < 16777216
  · rw [if_pos q] at h
    rw [x_comp, hi]
    show (if (xs.map e).length < 16777216 then _ else none) = _
    rw [List.length_map, if_pos q, hw]
    show (compL (Itr.held ⟨xs.map e, ck⟩) (stC cf ow tg el) (xs.map e) ρ2).map _ = _
    rw [c_mapO hh hs xs ys h, ← hb]; rfl
  · rw [if_neg q] at h; cases h
theorem v_compIf {ow : List Nat} {tg : Tg} {it : It} {cd el : E} {e : α → Val} {d : β → Val} {xs : List α} {ys : List β} {ck : Option (Nat × Val)} {p : α → Option Bool} {f : α → Option β} (hi : evIt cf it ρ = some (⟨xs.map e, ck⟩, ρ1)) (hw : wipeE ρ1 ow = ρ2) (h : compF xs p f = some ys) (hh : Itr.held ⟨xs.map e, ck⟩ ρ2 = true)
    (hs : ∀ x, p x = some false → stI cf ow tg cd el (e x) ρ2 = some (none, ρ2)) (ht : ∀ x y, p x = some true → f x = some y → stI cf ow tg cd el (e x) ρ2 = some (some (d y), ρ2)) (hb : backE ρ1 ρ2 ow = ρ3) : ev cf (.compIf ow tg it cd el) ρ = some (eL d ys, ρ3) := by
  unfold compF at h
  by_cases q : xs.length < 16777216
  · rw [if_pos q] at h
    rw [x_compIf, hi]
    show (if (xs.map e).length < 16777216 then _ else none) = _
    rw [List.length_map, if_pos q, hw]
    show (compL (Itr.held ⟨xs.map e, ck⟩) (stI cf ow tg cd el) (xs.map e) ρ2).map _ = _
    rw [c_fmO (d := d) hh (fun x y hx => ?_) xs ys h, ← hb]; rfl
    obtain ⟨b, h1, h2⟩ := bs hx
    rcases its h2 with ⟨rfl, h2⟩ | ⟨rfl, h2⟩
    · obtain ⟨z, h3, rfl⟩ := Option.map_eq_some_iff.mp h2
      exact ht x z h1 h3
    · cases h2
      exact hs x h1
  · rw [if_neg q] at h; cases h
theorem v_compS {ow : List Nat} {tg : Tg} {it : It} {el : E} {e : α → Val} {d : β → Val} {xs : List α} {ys : List β} {s s2 : σ} {ck : Option (Nat × Val)} {f : σ → α → Option (Option β × σ)} (en : σ → Env) (hi : evIt cf it ρ = some (⟨xs.map e, ck⟩, ρ1)) (hw : wipeE ρ1 ow = en s) (h : compS xs s f = some (ys, s2)) (hh : ∀ s, Itr.held ⟨xs.map e, ck⟩ (en s) = true)
    (hs : ∀ s x y s2, f s x = some (y, s2) → stC cf ow tg el (e x) (en s) = some (y.map d, en s2)) (hb : backE ρ1 (en s2) ow = ρ3) : ev cf (.comp ow tg it el) ρ = some (eL d ys, ρ3) := by
  unfold compS at h
  by_cases q : xs.length < 16777216
  · rw [if_pos q] at h
    rw [x_comp, hi]
    show (if (xs.map e).length < 16777216 then _ else none) = _
    rw [List.length_map, if_pos q, hw]
    show (compL (Itr.held ⟨xs.map e, ck⟩) (stC cf ow tg el) (xs.map e) (en s)).map _ = _
    rw [c_fmS en hh hs xs s ys s2 h, ← hb]; rfl
  · rw [if_neg q] at h; cases h
theorem v_compIfS {ow : List Nat} {tg : Tg} {it : It} {cd el : E} {e : α → Val} {d : β → Val} {xs : List α} {ys : List β} {s s2 : σ} {ck : Option (Nat × Val)} {f : σ → α → Option (Option β × σ)} (en : σ → Env) (hi : evIt cf it ρ = some (⟨xs.map e, ck⟩, ρ1)) (hw : wipeE ρ1 ow = en s) (h : compS xs s f = some (ys, s2)) (hh : ∀ s, Itr.held ⟨xs.map e, ck⟩ (en s) = true)
    (hs : ∀ s x y s2, f s x = some (y, s2) → stI cf ow tg cd el (e x) (en s) = some (y.map d, en s2)) (hb : backE ρ1 (en s2) ow = ρ3) : ev cf (.compIf ow tg it cd el) ρ = some (eL d ys, ρ3) := by
  unfold compS at h
  by_cases q : xs.length < 16777216
  · rw [if_pos q] at h
    rw [x_compIf, hi]
    show (if (xs.map e).length < 16777216 then _ else none) = _
    rw [List.length_map, if_pos q, hw]
    show (compL (Itr.held ⟨xs.map e, ck⟩) (stI cf ow tg cd el) (xs.map e) (en s)).map _ = _
    rw [c_fmS en hh hs xs s ys s2 h, ← hb]; rfl
  · rw [if_neg q] at h; cases h
/-! ### statements -/
def W (cf : Nat → List Val → Option (Val × List (Option Val))) (fu : Nat) (s : Ss) (ρ : Env) (Q : Out → Prop) : Prop := ∃ o, exSs cf fu s ρ = some o ∧ Q o
/-- what stands behind a statement -/
@[reducible] def Sq (cf : Nat → List Val → Option (Val × List (Option Val))) (fu : Nat) (r : Ss) (Q : Out → Prop) : Out → Prop
  | .nx ρ => W cf fu r ρ Q
  | .rt d ρ => Q (.rt d ρ)
  | .bk ρ => Q (.bk ρ)
  | .ct ρ => Q (.ct ρ)
variable {r a b : Ss} {Q : Out → Prop} {e c : E}
theorem w_nil (h : Q (.nx ρ)) : W cf fu .nil ρ Q := ⟨_, rfl, h⟩
theorem w_cons {s : S} {o : Out} (h : exS cf fu s ρ = some o) (k : Sq cf fu r Q o) : W cf fu (.cons s r) ρ Q := by
  cases o with
  | nx ρ1 =>
    obtain ⟨o2, h2, q⟩ := k
    exact ⟨o2, by rw [x_ssc, h]; exact h2, q⟩
  | rt d ρ1 => exact ⟨.rt d ρ1, by rw [x_ssc, h]; rfl, k⟩
  | bk ρ1 => exact ⟨.bk ρ1, by rw [x_ssc, h]; rfl, k⟩
  | ct ρ1 => exact ⟨.ct ρ1, by rw [x_ssc, h]; rfl, k⟩
theorem w_asg {tg : Tg} {d : Val} (h : ev cf e ρ = some (d, ρ1)) (ha : asg tg d ρ1 = some ρ2) (k : W cf fu r ρ2 Q) : W cf fu (.cons (.asg tg e) r) ρ Q :=
  w_cons (o := .nx ρ2) (by rw [x_asg, h]; show (asg tg d ρ1).map _ = _; rw [ha]; rfl) k
theorem w_par2 {i j : Nat} {f : E} {d d' : Val} (h : ev cf e ρ = some (d, ρ1)) (h2 : ev cf f ρ1 = some (d', ρ2)) (hl : i < ρ2.length ∧ j < ρ2.length) (he : (ρ2.set i (some d)).set j (some d') = ρ3) (k : W cf fu r ρ3 Q) : W cf fu (.cons (.par2 i j e f) r) ρ Q :=
  w_cons (o := .nx ρ3) (by rw [x_par2, h]; show (ev cf f ρ1).bind _ = _; rw [h2]; show (if i < ρ2.length ∧ j < ρ2.length then some (Out.nx ((ρ2.set i (some d)).set j (some d'))) else none) = _; rw [if_pos hl, he]) k
theorem w_par3 {ρ4 : Env} {i j l : Nat} {f g : E} {d d' d'' : Val} (h : ev cf e ρ = some (d, ρ1)) (h2 : ev cf f ρ1 = some (d', ρ2)) (h3 : ev cf g ρ2 = some (d'', ρ3)) (hl : (i < ρ3.length ∧ j < ρ3.length) ∧ l < ρ3.length) (he : ((ρ3.set i (some d)).set j (some d')).set l (some d'') = ρ4) (k : W cf fu r ρ4 Q) : W cf fu (.cons (.par3 i j l e f g) r) ρ Q :=
  w_cons (o := .nx ρ4) (by
    show (ev cf e ρ).bind _ = _
    rw [h]; show (ev cf f ρ1).bind _ = _
    rw [h2]; show (ev cf g ρ2).bind _ = _
    rw [h3]; show (if (i < ρ3.length ∧ j < ρ3.length) ∧ l < ρ3.length then some (Out.nx (((ρ3.set i (some d)).set j (some d')).set l (some d''))) else none) = _
    rw [if_pos hl, he]) k
theorem w_sset {i : Nat} {ix : NV.Q} {el : α → Val} {xs ys : List α} {x : α} {n : Int} (h : ev cf e ρ = some (el x, ρ1)) (hk : pk ix ρ1 = some (eI n)) (hl : Env.get ρ1 i = some (eL el xs)) (hs : setS xs n x = some ys) (he : ρ1.set i (some (eL el ys)) = ρ2) (k : W cf fu r ρ2 Q) : W cf fu (.cons (.sset i ix e) r) ρ Q :=
  w_cons (o := .nx ρ2) (by
    obtain ⟨j, h1, rfl⟩ := Option.map_eq_some_iff.mp hs
    rw [x_sset, h]; show (pk ix ρ1).bind _ = _
    rw [hk]
    show (match (eI n), Env.get ρ1 i with
      | .int k, some (.lst ds) => (L2.ixN ds.length k).map fun j => Out.nx (ρ1.set i (some (.lst (ds.set j (el x)))))
      | _, _ => none) = _
    rw [hl]
    show (L2.ixN (xs.map el).length n).map _ = _
    rw [ixN_map, h1, ← he]
    show some (Out.nx (ρ1.set i (some (.lst ((xs.map el).set j (el x)))))) = _
    rw [← List.map_set]; rfl) k
theorem w_sset2 {i : Nat} {ix : E} {el : α → Val} {xs ys : List α} {x : α} {n : Int} (h : ev cf e ρ = some (el x, ρ1)) (hl1 : isLst (Env.get ρ1 i) = true) (hk : ev cf ix ρ1 = some (eI n, ρ2)) (hl : Env.get ρ2 i = some (eL el xs)) (hs : setS xs n x = some ys) (he : ρ2.set i (some (eL el ys)) = ρ3) (k : W cf fu r ρ3 Q) : W cf fu (.cons (.sset2 i ix e) r) ρ Q :=
  w_cons (o := .nx ρ3) (by
    obtain ⟨j, h1, rfl⟩ := Option.map_eq_some_iff.mp hs
    rw [x_sset2, h]
    show (if (!isLst (Env.get ρ1 i)) = true then none else _) = _
    rw [hl1]
    show (ev cf ix ρ1).bind _ = _
    rw [hk]
    show (match (eI n), Env.get ρ2 i with
      | .int k, some (.lst ds) => (L2.ixN ds.length k).map fun j => Out.nx (ρ2.set i (some (.lst (ds.set j (el x)))))
      | _, _ => none) = _
    rw [hl]
    show (L2.ixN (xs.map el).length n).map _ = _
    rw [ixN_map, h1, ← he]
    show some (Out.nx (ρ2.set i (some (.lst ((xs.map el).set j (el x)))))) = _
    rw [← List.map_set]; rfl) k
def agV (p : P2) (x y : Val) : Option Val := match p, x, y with
    | .add, .int a, .int b => some (Val.int (a + b))
    | .sub, .int a, .int b => some (.int (a - b))
    | .add, .row a, .row b => if a.length + b.length ≤ 16777216 then some (.row (a ++ b)) else none
    | .add, .lst a, .lst b => if a.length + b.length ≤ 16777216 then some (.lst (a ++ b)) else none
    | _, _, _ => none
theorem w_aug {i : Nat} {p : P2} {x y d : Val} (hx : Env.get ρ i = some x) (h : ev cf e ρ = some (y, ρ1)) (hx2 : Env.get ρ1 i = some x) (hp : agV p x y = some d) (he : ρ1.set i (some d) = ρ2) (k : W cf fu r ρ2 Q) : W cf fu (.cons (.aug i p e) r) ρ Q :=
  w_cons (o := .nx ρ2) (by
    rw [x_aug, hx]; show (ev cf e ρ).bind _ = _
    rw [h]; show (Env.get ρ1 i).bind _ = _
    rw [hx2]
    show (match p, x, y with
      | .add, .int a, .int b => some (Out.nx (ρ1.set i (some (.int (a + b)))))
      | .sub, .int a, .int b => some (.nx (ρ1.set i (some (.int (a - b)))))
      | .add, .row a, .row b => if a.length + b.length ≤ 16777216 then some (.nx (ρ1.set i (some (.row (a ++ b))))) else none
      | .add, .lst a, .lst b => if a.length + b.length ≤ 16777216 then some (.nx (ρ1.set i (some (.lst (a ++ b))))) else none
      | _, _, _ => none) = some (.nx ρ2)
    subst he
    unfold agV at hp
    split at hp
    · cases hp; rfl
    · cases hp; rfl
    · split at hp
      · rename_i q; cases hp; simp only [if_pos q]
      · cases hp
    · split at hp
      · rename_i q; cases hp; simp only [if_pos q]
      · cases hp
    · cases hp) k
theorem ag_T {e : α → Val} {xs ys zs : List α} (h : catS xs ys = some zs) : agV .add (eT e xs) (eT e ys) = some (eT e zs) := by
  obtain ⟨h1, rfl⟩ := gd_of h
  show (if (xs.map e).length + (ys.map e).length ≤ 16777216 then some (Val.row (xs.map e ++ ys.map e)) else none) = _
  rw [List.length_map, List.length_map, if_pos h1, ← List.map_append]; rfl
theorem ag_L {e : α → Val} {xs ys zs : List α} (h : catS xs ys = some zs) : agV .add (eL e xs) (eL e ys) = some (eL e zs) := by
  obtain ⟨h1, rfl⟩ := gd_of h
  show (if (xs.map e).length + (ys.map e).length ≤ 16777216 then some (Val.lst (xs.map e ++ ys.map e)) else none) = _
  rw [List.length_map, List.length_map, if_pos h1, ← List.map_append]; rfl
theorem w_app {i : Nat} {el : α → Val} {xs ys : List α} {x : α} (hl : isLst (Env.get ρ i) = true) (h : ev cf e ρ = some (el x, ρ1)) (h2 : Env.get ρ1 i = some (eL el xs)) (hs : snoc xs x = some ys) (he : ρ1.set i (some (eL el ys)) = ρ2) (k : W cf fu r ρ2 Q) : W cf fu (.cons (.app i e) r) ρ Q :=
  w_cons (o := .nx ρ2) (by
    obtain ⟨h1, rfl⟩ := gd_of hs
    rw [x_app, hl]
    show (ev cf e ρ).bind _ = _
    rw [h]
    show (match Env.get ρ1 i with
      | some (.lst ds) => if ds.length < 16777216 then some (Out.nx (ρ1.set i (some (.lst (ds ++ [el x]))))) else none
      | _ => none) = _
    rw [h2]
    show (if (xs.map el).length < 16777216 then some (Out.nx (ρ1.set i (some (.lst (xs.map el ++ [el x]))))) else none) = _
    rw [List.length_map, if_pos h1, ← he]
    show _ = some (Out.nx (ρ1.set i (some (.lst ((xs ++ [x]).map el)))))
    rw [List.map_append]; rfl) k
theorem w_rev {i : Nat} {el : α → Val} {xs : List α} (h : Env.get ρ i = some (eL el xs)) (he : ρ.set i (some (eL el xs.reverse)) = ρ1) (k : W cf fu r ρ1 Q) : W cf fu (.cons (.rev i) r) ρ Q :=
  w_cons (o := .nx ρ1) (by
    rw [x_rev, h]
    show some (Out.nx (ρ.set i (some (.lst (xs.map el).reverse)))) = _
    rw [← List.map_reverse, ← he]; rfl) k
theorem w_ex {d : Val} (h : ev cf e ρ = some (d, ρ1)) (k : W cf fu r ρ1 Q) : W cf fu (.cons (.ex e) r) ρ Q := w_cons (o := .nx ρ1) (by rw [x_ex, h]; rfl) k
theorem w_ret {d : Val} (h : ev cf e ρ = some (d, ρ1)) (k : Q (.rt d ρ1)) : W cf fu (.cons (.ret e) r) ρ Q := w_cons (o := .rt d ρ1) (by rw [x_ret, h]; rfl) k
theorem w_retN (k : Q (.rt .non ρ)) : W cf fu (.cons .retN r) ρ Q := w_cons (o := .rt .non ρ) rfl k
theorem w_brk (k : Q (.bk ρ)) : W cf fu (.cons .brk r) ρ Q := w_cons (o := .bk ρ) rfl k
theorem w_cont (k : Q (.ct ρ)) : W cf fu (.cons .cont r) ρ Q := w_cons (o := .ct ρ) rfl k
theorem w_pass (k : W cf fu r ρ Q) : W cf fu (.cons .pass r) ρ Q := w_cons (o := .nx ρ) rfl k
theorem w_ifT {x : Bool} (h : ev cf c ρ = some (eB x, ρ1)) (q : x = true) (k : W cf fu a ρ1 (Sq cf fu r Q)) : W cf fu (.cons (.if_ c a b) r) ρ Q := by
  obtain ⟨o, ho, hq⟩ := k
  exact w_cons (o := o) (by subst q; rw [x_if, h]; exact ho) hq
theorem w_ifF {x : Bool} (h : ev cf c ρ = some (eB x, ρ1)) (q : x = false) (k : W cf fu b ρ1 (Sq cf fu r Q)) : W cf fu (.cons (.if_ c a b) r) ρ Q := by
  obtain ⟨o, ho, hq⟩ := k
  exact w_cons (o := o) (by subst q; rw [x_if, h]; exact ho) hq
/-- what comes out of a block that may end the def -/
@[reducible] def Pc {ρt : Type} (R : σ → Env → Prop) (F : ρt → Out → Prop) (c : Ctl σ ρt) (o : Out) : Prop := match c with
  | .nx s => ∃ ρ2, o = .nx ρ2 ∧ R s ρ2
  | .ct s => ∃ ρ2, o = .ct ρ2 ∧ R s ρ2
  | .bk s => ∃ ρ2, o = .bk ρ2 ∧ R s ρ2
  | .rt x => ∃ d ρ2, o = .rt d ρ2 ∧ F x o
/-- a statement that comes to a state, and what stands behind it -/
theorem w_join {s : S} (J : Env → Prop) (h : W cf fu (.cons s .nil) ρ (fun o => ∃ ρ2, o = .nx ρ2 ∧ J ρ2)) (k : ∀ ρ2, J ρ2 → W cf fu r ρ2 Q) : W cf fu (.cons s r) ρ Q := by
  obtain ⟨o, h1, ρ2, rfl, hj⟩ := h
  rw [x_ssc] at h1
  obtain ⟨o1, h2, h3⟩ := Option.bind_eq_some_iff.mp h1
  cases o1 with
  | nx ρ1 => cases h3; exact w_cons h2 (k _ hj)
  | rt d ρ1 => cases h3
  | bk ρ1 => cases h3
  | ct ρ1 => cases h3
theorem w_one {s : S} {P : Out → Prop} (h : W cf fu (.cons s .nil) ρ P) : ∃ o, exS cf fu s ρ = some o ∧ P o := by
  obtain ⟨o, h1, hp⟩ := h
  rw [x_ssc] at h1
  obtain ⟨o1, h2, h3⟩ := Option.bind_eq_some_iff.mp h1
  cases o1 <;> cases h3 <;> exact ⟨_, h2, hp⟩
theorem w_joinF {ρt : Type} {s : S} {R : σ → Env → Prop} {F : ρt → Out → Prop} {c : Ctl σ ρt} {kk : σ → Option ρt} {x : ρt} (h : W cf fu (.cons s .nil) ρ (Pc R F c)) (hk : thenF c kk = some x) (k : ∀ s2 ρ2, kk s2 = some x → R s2 ρ2 → W cf fu r ρ2 (F x)) : W cf fu (.cons s r) ρ (F x) := by
  obtain ⟨o, h1, h2⟩ := w_one h
  cases c with
  | nx s2 => obtain ⟨ρ2, rfl, hr⟩ := h2; exact w_cons h1 (k s2 ρ2 hk hr)
  | rt y => obtain ⟨d, ρ2, rfl, hf⟩ := h2; cases hk; exact w_cons h1 hf
  | ct s2 => cases hk
  | bk s2 => cases hk
theorem w_joinC {ρt : Type} {s : S} {R : σ → Env → Prop} {R' : τ → Env → Prop} {F : ρt → Out → Prop} {c : Ctl σ ρt} {kk : σ → Option (Ctl τ ρt)} {x : Ctl τ ρt} (h : W cf fu (.cons s .nil) ρ (Pc R F c)) (hk : thenC c kk = some x) (k : ∀ s2 ρ2, kk s2 = some x → R s2 ρ2 → W cf fu r ρ2 (Pc R' F x)) : W cf fu (.cons s r) ρ (Pc R' F x) := by
  obtain ⟨o, h1, h2⟩ := w_one h
  cases c with
  | nx s2 => obtain ⟨ρ2, rfl, hr⟩ := h2; exact w_cons h1 (k s2 ρ2 hk hr)
  | rt y => obtain ⟨d, ρ2, rfl, hf⟩ := h2; cases hk; exact w_cons h1 ⟨d, ρ2, rfl, hf⟩
  | ct s2 => cases hk
  | bk s2 => cases hk
/-! ### loops -/
theorem l_forS {held : Env → Bool} {tg : Tg} {body : Env → Option Out} {e : α → Val} {f : σ → α → Option σ} (R : σ → Env → Prop) (hh : ∀ s ρ, R s ρ → held ρ = true)
    (hb : ∀ s x s2 ρ, f s x = some s2 → R s ρ → ∃ ρ1 o, asg tg (e x) ρ = some ρ1 ∧ body ρ1 = some o ∧ ∃ ρ2, (o = .nx ρ2 ∨ o = .ct ρ2) ∧ R s2 ρ2) :
    ∀ (xs : List α) (s s2 : σ) (ρ : Env), forS f xs s = some s2 → R s ρ → ∃ ρ2, forL held tg body (xs.map e) ρ = some (.nx ρ2) ∧ R s2 ρ2
  | [], s, s2, ρ, h, hr => by cases h; exact ⟨ρ, by rw [List.map_nil, fl_nil, if_pos (hh _ _ hr)], hr⟩
  | x :: xs, s, s2, ρ, h, hr => by
    obtain ⟨t, h1, h2⟩ := bs h
    obtain ⟨ρ1, o, e1, e2, ρ2, e3, hr2⟩ := hb s x t ρ h1 hr
    obtain ⟨ρ3, e4, hr3⟩ := l_forS R hh hb xs t s2 ρ2 h2 hr2
    refine ⟨ρ3, ?_, hr3⟩
    rw [List.map_cons, fl_cons, if_pos (hh _ _ hr), e1]
    show (body ρ1).bind _ = _
    rw [e2]
    rcases e3 with rfl | rfl <;> exact e4
def lpK (k : Env → Option Out) : Out → Option Out
  | .nx ρ2 => k ρ2
  | .ct ρ2 => k ρ2
  | .bk ρ2 => some (.nx ρ2)
  | .rt d ρ2 => some (.rt d ρ2)
theorem fl_go {held : Env → Bool} {tg : Tg} {body : Env → Option Out} {e : α → Val} {x : α} {xs : List α} {o : Out} (h1 : held ρ = true) (h2 : asg tg (e x) ρ = some ρ1) (h3 : body ρ1 = some o) : forL held tg body ((x :: xs).map e) ρ = lpK (forL held tg body (xs.map e)) o := by
  rw [List.map_cons, fl_cons, if_pos h1, h2]
  show (body ρ1).bind _ = _
  rw [h3]
  cases o <;> rfl
theorem l_forC {ρt : Type} {held : Env → Bool} {tg : Tg} {body : Env → Option Out} {e : α → Val} {f : σ → α → Option (Ctl σ ρt)} (R : σ → Env → Prop) (F : ρt → Out → Prop) (hh : ∀ s ρ, R s ρ → held ρ = true)
    (hb : ∀ s x c ρ, f s x = some c → R s ρ → ∃ ρ1 o, asg tg (e x) ρ = some ρ1 ∧ body ρ1 = some o ∧ Pc R F c o) :
    ∀ (xs : List α) (s : σ) (c : Ctl σ ρt) (ρ : Env), forC f xs s = some c → R s ρ → ∃ o, forL held tg body (xs.map e) ρ = some o ∧ Pc R F c o
  | [], s, c, ρ, h, hr => by cases h; exact ⟨.nx ρ, by rw [List.map_nil, fl_nil, if_pos (hh _ _ hr)], ρ, rfl, hr⟩
  | x :: xs, s, c, ρ, h, hr => by
    obtain ⟨t, h1, h2⟩ := bs h
    obtain ⟨ρ1, o, e1, e2, hp⟩ := hb s x t ρ h1 hr
    rw [fl_go (hh _ _ hr) e1 e2]
    cases t with
    | nx s2 => obtain ⟨ρ2, rfl, hr2⟩ := hp; exact l_forC R F hh hb xs s2 c ρ2 h2 hr2
    | ct s2 => obtain ⟨ρ2, rfl, hr2⟩ := hp; exact l_forC R F hh hb xs s2 c ρ2 h2 hr2
    | bk s2 => obtain ⟨ρ2, rfl, hr2⟩ := hp; cases h2; exact ⟨_, rfl, ρ2, rfl, hr2⟩
    | rt y => obtain ⟨d, ρ2, rfl, hf⟩ := hp; cases h2; exact ⟨_, rfl, d, ρ2, rfl, hf⟩
theorem w_for {tg : Tg} {it : It} {e : α → Val} {f : σ → α → Option σ} {xs : List α} {s s2 : σ} {ck : Option (Nat × Val)} (R : σ → Env → Prop) (hi : evIt cf it ρ = some (⟨xs.map e, ck⟩, ρ1)) (hs : forS f xs s = some s2) (hr : R s ρ1) (hh : ∀ s ρ, R s ρ → Itr.held ⟨xs.map e, ck⟩ ρ = true)
    (hb : ∀ s x s2 ρ, f s x = some s2 → R s ρ → ∃ ρ1, asg tg (e x) ρ = some ρ1 ∧ W cf fu b ρ1 (fun o => ∃ ρ2, o = .nx ρ2 ∧ R s2 ρ2)) (k : ∀ ρ2, R s2 ρ2 → W cf fu r ρ2 Q) : W cf fu (.cons (.for_ tg it b) r) ρ Q := by
  obtain ⟨ρ2, e1, hr2⟩ := l_forS (held := Itr.held ⟨xs.map e, ck⟩) (tg := tg) (body := exSs cf fu b) R hh (fun s x s2 ρ h1 h2 => by
    obtain ⟨ρ1, q1, o, q2, ρ2, q3, q4⟩ := hb s x s2 ρ h1 h2
    exact ⟨ρ1, o, q1, q2, ρ2, .inl q3, q4⟩) xs s s2 ρ1 hs hr
  exact w_cons (o := .nx ρ2) (by show (evIt cf it ρ).bind _ = _; rw [hi]; exact e1) (k ρ2 hr2)
theorem w_forC {ρt : Type} {tg : Tg} {it : It} {e : α → Val} {f : σ → α → Option (Ctl σ ρt)} {xs : List α} {s : σ} {c : Ctl σ ρt} {ck : Option (Nat × Val)} (R : σ → Env → Prop) (F : ρt → Out → Prop) (hi : evIt cf it ρ = some (⟨xs.map e, ck⟩, ρ1)) (hs : forC f xs s = some c) (hr : R s ρ1) (hh : ∀ s ρ, R s ρ → Itr.held ⟨xs.map e, ck⟩ ρ = true)
    (hb : ∀ s x c ρ, f s x = some c → R s ρ → ∃ ρ1, asg tg (e x) ρ = some ρ1 ∧ W cf fu b ρ1 (Pc R F c)) : W cf fu (.cons (.for_ tg it b) .nil) ρ (Pc R F c) := by
  obtain ⟨o, e1, hp⟩ := l_forC (held := Itr.held ⟨xs.map e, ck⟩) (tg := tg) (body := exSs cf fu b) R F hh (fun s x c ρ h1 h2 => by
    obtain ⟨ρ1, q1, o, q2, q3⟩ := hb s x c ρ h1 h2
    exact ⟨ρ1, o, q1, q2, q3⟩) xs s c ρ1 hs hr
  refine w_cons (o := o) (by show (evIt cf it ρ).bind _ = _; rw [hi]; exact e1) ?_
  cases o
  · exact w_nil hp
  · exact hp
  · exact hp
  · exact hp
theorem l_whileS {cd : Env → Option (Val × Env)} {body : Env → Option Out} {g : σ → Option Bool} {f : σ → Option σ} (R : σ → Env → Prop) (hc : ∀ s ρ b, g s = some b → R s ρ → cd ρ = some (eB b, ρ))
    (hb : ∀ s s2 ρ, f s = some s2 → R s ρ → ∃ o, body ρ = some o ∧ ∃ ρ2, (o = .nx ρ2 ∨ o = .ct ρ2) ∧ R s2 ρ2) :
    ∀ (n : Nat) (s s2 : σ) (ρ : Env), whileS g f n s = some s2 → R s ρ → ∃ ρ2, whileL cd body n ρ = some (.nx ρ2) ∧ R s2 ρ2
  | 0, s, s2, ρ, h, hr => by cases h
  | n + 1, s, s2, ρ, h, hr => by
    obtain ⟨b, h1, h2⟩ := bs h
    show ∃ ρ2, (cd ρ).bind _ = _ ∧ _
    rw [hc s ρ b h1 hr]
    rcases its h2 with ⟨rfl, h2⟩ | ⟨rfl, h2⟩
    · obtain ⟨t, h3, h4⟩ := bs h2
      obtain ⟨o, e2, ρ2, e3, hr2⟩ := hb s t ρ h3 hr
      obtain ⟨ρ3, e4, hr3⟩ := l_whileS R hc hb n t s2 ρ2 h4 hr2
      refine ⟨ρ3, ?_, hr3⟩
      show (body ρ).bind _ = _
      rw [e2]
      rcases e3 with rfl | rfl <;> exact e4
    · cases h2
      exact ⟨ρ, rfl, hr⟩
theorem l_whileC {ρt : Type} {cd : Env → Option (Val × Env)} {body : Env → Option Out} {g : σ → Option Bool} {f : σ → Option (Ctl σ ρt)} (R : σ → Env → Prop) (F : ρt → Out → Prop) (hc : ∀ s ρ b, g s = some b → R s ρ → cd ρ = some (eB b, ρ))
    (hb : ∀ s c ρ, f s = some c → R s ρ → ∃ o, body ρ = some o ∧ Pc R F c o) :
    ∀ (n : Nat) (s : σ) (c : Ctl σ ρt) (ρ : Env), whileC g f n s = some c → R s ρ → ∃ o, whileL cd body n ρ = some o ∧ Pc R F c o
  | 0, s, c, ρ, h, hr => by cases h
  | n + 1, s, c, ρ, h, hr => by
    obtain ⟨b, h1, h2⟩ := bs h
    show ∃ o, (cd ρ).bind _ = _ ∧ _
    rw [hc s ρ b h1 hr]
    rcases its h2 with ⟨rfl, h2⟩ | ⟨rfl, h2⟩
    · obtain ⟨t, h3, h4⟩ := bs h2
      obtain ⟨o, e2, hp⟩ := hb s t ρ h3 hr
      show ∃ o, (body ρ).bind _ = _ ∧ _
      rw [e2]
      cases t with
      | nx s2 => obtain ⟨ρ2, rfl, hr2⟩ := hp; exact l_whileC R F hc hb n s2 c ρ2 h4 hr2
      | ct s2 => obtain ⟨ρ2, rfl, hr2⟩ := hp; exact l_whileC R F hc hb n s2 c ρ2 h4 hr2
      | bk s2 => obtain ⟨ρ2, rfl, hr2⟩ := hp; cases h4; exact ⟨_, rfl, ρ2, rfl, hr2⟩
      | rt y => obtain ⟨d, ρ2, rfl, hf⟩ := hp; cases h4; exact ⟨_, rfl, d, ρ2, rfl, hf⟩
    · cases h2
      exact ⟨_, rfl, ρ, rfl, hr⟩
theorem w_while {cd : E} {g : σ → Option Bool} {f : σ → Option σ} {s s2 : σ} (R : σ → Env → Prop) (hs : whileS g f fu s = some s2) (hr : R s ρ) (hc : ∀ s ρ b, g s = some b → R s ρ → ev cf cd ρ = some (eB b, ρ))
    (hb : ∀ s s2 ρ, f s = some s2 → R s ρ → W cf fu b ρ (fun o => ∃ ρ2, o = .nx ρ2 ∧ R s2 ρ2)) (k : ∀ ρ2, R s2 ρ2 → W cf fu r ρ2 Q) : W cf fu (.cons (.while_ cd b) r) ρ Q := by
  obtain ⟨ρ2, e1, hr2⟩ := l_whileS (cd := ev cf cd) (body := exSs cf fu b) R hc (fun s s2 ρ h1 h2 => by
    obtain ⟨o, q2, ρ2, q3, q4⟩ := hb s s2 ρ h1 h2
    exact ⟨o, q2, ρ2, .inl q3, q4⟩) fu s s2 ρ hs hr
  exact w_cons (o := .nx ρ2) e1 (k ρ2 hr2)
theorem w_whileC {ρt : Type} {cd : E} {g : σ → Option Bool} {f : σ → Option (Ctl σ ρt)} {s : σ} {c : Ctl σ ρt} (R : σ → Env → Prop) (F : ρt → Out → Prop) (hs : whileC g f fu s = some c) (hr : R s ρ) (hc : ∀ s ρ b, g s = some b → R s ρ → ev cf cd ρ = some (eB b, ρ))
    (hb : ∀ s c ρ, f s = some c → R s ρ → W cf fu b ρ (Pc R F c)) : W cf fu (.cons (.while_ cd b) .nil) ρ (Pc R F c) := by
  obtain ⟨o, e1, hp⟩ := l_whileC (cd := ev cf cd) (body := exSs cf fu b) R F hc hb fu s c ρ hs hr
  refine w_cons (o := o) e1 ?_
  cases o
  · exact w_nil hp
  · exact hp
  · exact hp
  · exact hp
end
/-! ### defs -/
theorem run_of {T : List FnR} {fu k i np : Nat} {ds : List Val} {f : FnR} {b : Ss} {tg : List Nat} {ρ : Env} {r : Val × List (Option Val)} (hf : T[i]? = some f) (hl : ds.length = f.ps.length) (hb : f.body = b) (ht : tgSs b = tg) (hn : f.ps.length = np) (hr : frame f ds = ρ)
    (h : W (run T fu k) fu b ρ (fun o => finish tg np o = some r)) : run T fu (k + 1) i ds = some r := by
  subst hb ht hn hr
  rw [go hf hl]
  obtain ⟨o, h1, h2⟩ := h
  rw [h1]; exact h2
theorem take_of {T : List FnR} {fu k i : Nat} (hf : T[i]? = some fTake) (D : List Int) {m : Int} (h : 0 < m) : run T fu (k + 1) i [eL eI D, eI m] = some (eI (tk D m), [some (eL eI D.dropLast), some (eI m)]) := take_ok hf D h
def takeS (D : List Int) (m : Int) : Option (Int × List Int) := gd (0 < m) (tk D m, D.dropLast)
theorem takeS_of {T : List FnR} {fu k i : Nat} (hf : T[i]? = some fTake) {D : List Int} {m : Int} {x : Int} {D2 : List Int} (h : takeS D m = some (x, D2)) : run T fu (k + 1) i [eL eI D, eI m] = some (eI x, [some (eL eI D2), some (eI m)]) := by
  obtain ⟨h1, h2⟩ := gd_of h
  cases h2
  exact take_ok hf D h1
theorem sameS_of {α : Type} [DecidableEq α] {T : List FnR} {fu k i : Nat} (hf : T[i]? = some (fSame i)) {e : α → Val} {x y : α} {b : Bool} (h : sameS e x y = some b) : run T fu (k + 13) i [e x, e y] = some (eB b, [some (e x), some (e y)]) := by
  obtain ⟨⟨rfl, h2⟩, rfl⟩ := gd_of h
  exact same_ok hf 12 (k + 13) (e x) (by omega) (by omega) h2
end NV

set_option Elab.async false
set_option linter.all false
set_option maxRecDepth 100000
set_option maxHeartbeats 1000000
set_option synthInstance.maxSize 2000
namespace NV
open L2
section
variable {cf : Nat → List Val → Option (Val × List (Option Val))} {fu : Nat} {ρ ρ1 ρ2 ρ3 ρ4 : Env} {α β σ τ : Type} {r a b : Ss} {Q : Out → Prop} {e c : E}
theorem r_tail {x : Val} {xs : List Val} : primS (.tup (x :: xs)) (some 1) none = some (.tup xs) := by
  show some (Val.tup (cut (x :: xs) (some 1) none)) = _
  unfold cut
  rw [HT.sIx_none, show (1 : Int) = ((1 : Nat) : Int) from rfl, HT.sIx_nat, show min 1 (x :: xs).length = 1 by simp]
  simp
theorem un_s {X : Option Val} {e : α → Val} {o : Option α} {x : α} (h : X = some (eO e o)) (hx : o = some x) : X = some (e x) := by subst hx; exact h
theorem un_v {X : Option (Val × Env)} {e : α → Val} {o : Option α} {x : α} (h : X = some (eO e o, ρ)) (hx : o = some x) : X = some (e x, ρ) := by subst hx; exact h
theorem hf_q {o : Opd} {x y : Bool} (h : o.firm = true) : (x && !o.firm && y) = false := by rw [h]; cases x <;> rfl
theorem hf_n {x y : Bool} (h : y = false) : (x && y) = false := by rw [h]; cases x <;> rfl
theorem keepI_im {e : α → Val} {n : Nat} (h : Im e n) (q : n ≤ 64 := by decide) {x : α} : keepI (some (e x)) = some (e x) := if_pos (h.im q)
theorem evT {X : Option (Val × Env)} {en : α → Val × Env} {v y : α} (h : some v = some y) (p : X = some (en v)) : X = some (en y) := by cases h; exact p
theorem v_andM {a b : E} {x : Bool} {mb : Option α} {F0 y : α} (en : Bool → α → Val × Env) (ha : ev cf a ρ = some (eB x, ρ1)) (hx : (if x = true then mb else some F0) = some y) (hb : ∀ y, mb = some y → x = true → ev cf b ρ1 = some (en true y)) (h0 : en false F0 = (eB false, ρ1)) : ev cf (.and_ a b) ρ = some (en x y) := by
  cases x
  · cases hx; rw [h0]; exact v_andF ha rfl
  · exact v_andT ha rfl (hb y hx rfl)
theorem v_orM {a b : E} {x : Bool} {mb : Option α} {F0 y : α} (en : Bool → α → Val × Env) (ha : ev cf a ρ = some (eB x, ρ1)) (hx : (if x = true then some F0 else mb) = some y) (hb : ∀ y, mb = some y → x = false → ev cf b ρ1 = some (en false y)) (h0 : en true F0 = (eB true, ρ1)) : ev cf (.or_ a b) ρ = some (en x y) := by
  cases x
  · exact v_orF ha rfl (hb y hx rfl)
  · cases hx; rw [h0]; exact v_orT ha rfl
theorem v_iteM {a b c : E} {x : Bool} {ma mb : Option α} {y : α} (en : Bool → α → Val × Env) (hc : ev cf c ρ = some (eB x, ρ1)) (hx : (if x = true then ma else mb) = some y) (ha : ∀ y, ma = some y → x = true → ev cf a ρ1 = some (en true y)) (hb : ∀ y, mb = some y → x = false → ev cf b ρ1 = some (en false y)) : ev cf (.ite_ c a b) ρ = some (en x y) := by
  cases x
  · exact v_iteF hc rfl (hb y hx rfl)
  · exact v_iteT hc rfl (ha y hx rfl)
theorem t_elE {ow : List Nat} {tg : Tg} {el : E} {x : Val} {d : β → Val} {v y : β} (hy : some v = some y) (ha : asg tg x ρ = some ρ1) (he : ev cf el ρ1 = some (d v, ρ2)) (hw : wipeE ρ2 ow = ρ3) : stC cf ow tg el x ρ = some (some (d y), ρ3) := by
  cases hy; exact t_el ha he hw
theorem t_ifFE {ow : List Nat} {tg : Tg} {cd el : E} {x : Val} {b : Bool} (hb : some b = some false) (ha : asg tg x ρ = some ρ1) (hc : ev cf cd ρ1 = some (eB b, ρ2)) (hw : wipeE ρ2 ow = ρ3) : stI cf ow tg cd el x ρ = some (none, ρ3) := t_ifF ha hc (Option.some.inj hb) hw
theorem t_ifTE {ow : List Nat} {tg : Tg} {cd el : E} {x : Val} {b : Bool} {d : β → Val} {v y : β} (hb : some b = some true) (hy : some v = some y) (ha : asg tg x ρ = some ρ1) (hc : ev cf cd ρ1 = some (eB b, ρ2)) (he : ev cf el ρ2 = some (d v, ρ3)) (hw : wipeE ρ3 ow = ρ4) : stI cf ow tg cd el x ρ = some (some (d y), ρ4) := by
  cases hy; exact t_ifT ha hc (Option.some.inj hb) he hw
theorem t_elS {ow : List Nat} {tg : Tg} {el : E} {x : Val} {d : β → Val} {v : β} {s' s2 : σ} {y : Option β} (en : σ → Env) (hy : some (some v, s') = some (y, s2)) (ha : asg tg x ρ = some ρ1) (he : ev cf el ρ1 = some (d v, ρ2)) (hw : wipeE ρ2 ow = en s') : stC cf ow tg el x ρ = some (y.map d, en s2) := by
  cases hy; exact t_el ha he hw
theorem t_ifTS {ow : List Nat} {tg : Tg} {cd el : E} {x : Val} {b : Bool} {d : β → Val} {v : β} {s' s2 : σ} {y : Option β} (en : σ → Env) (hy : some (some v, s') = some (y, s2)) (hb : b = true) (ha : asg tg x ρ = some ρ1) (hc : ev cf cd ρ1 = some (eB b, ρ2)) (he : ev cf el ρ2 = some (d v, ρ3)) (hw : wipeE ρ3 ow = en s') : stI cf ow tg cd el x ρ = some (y.map d, en s2) := by
  cases hy; exact t_ifT ha hc hb he hw
theorem t_ifFS {ow : List Nat} {tg : Tg} {cd el : E} {x : Val} {b : Bool} {d : β → Val} {s' s2 : σ} {y : Option β} (en : σ → Env) (hy : some ((none : Option β), s') = some (y, s2)) (hb : b = false) (ha : asg tg x ρ = some ρ1) (hc : ev cf cd ρ1 = some (eB b, ρ2)) (hw : wipeE ρ2 ow = en s') : stI cf ow tg cd el x ρ = some (y.map d, en s2) := by
  cases hy; exact t_ifF ha hc hb hw
theorem w_asgE {tg : Tg} {enc : α → Val} {v p : α} (h : ev cf e ρ = some (enc v, ρ1)) (hp : p = v) (ha : asg tg (enc p) ρ1 = some ρ2) (k : W cf fu r ρ2 Q) : W cf fu (.cons (.asg tg e) r) ρ Q := by
  subst hp; exact w_asg h ha k
theorem w_par2E {i j : Nat} {f : E} {enc0 : α → Val} {enc1 : β → Val} {v0 p0 : α} {v1 p1 : β} (h : ev cf e ρ = some (enc0 v0, ρ1)) (h2 : ev cf f ρ1 = some (enc1 v1, ρ2)) (q0 : p0 = v0) (q1 : p1 = v1) (hl : i < ρ2.length ∧ j < ρ2.length) (he : (ρ2.set i (some (enc0 p0))).set j (some (enc1 p1)) = ρ3) (k : W cf fu r ρ3 Q) : W cf fu (.cons (.par2 i j e f) r) ρ Q := by
  subst q0 q1; exact w_par2 h h2 hl he k
theorem w_par3E {i j l : Nat} {f g : E} {enc0 : α → Val} {enc1 : β → Val} {enc2 : σ → Val} {v0 p0 : α} {v1 p1 : β} {v2 p2 : σ} (h : ev cf e ρ = some (enc0 v0, ρ1)) (h2 : ev cf f ρ1 = some (enc1 v1, ρ2)) (h3 : ev cf g ρ2 = some (enc2 v2, ρ3)) (q0 : p0 = v0) (q1 : p1 = v1) (q2 : p2 = v2) (hl : (i < ρ3.length ∧ j < ρ3.length) ∧ l < ρ3.length) (he : ((ρ3.set i (some (enc0 p0))).set j (some (enc1 p1))).set l (some (enc2 p2)) = ρ4) (k : W cf fu r ρ4 Q) : W cf fu (.cons (.par3 i j l e f g) r) ρ Q := by
  subst q0 q1 q2; exact w_par3 h h2 h3 hl he k
theorem w_augE {i : Nat} {p : P2} {x y : Val} {v z : Int} (hx : Env.get ρ i = some x) (h : ev cf e ρ = some (y, ρ1)) (hx2 : Env.get ρ1 i = some x) (hz : z = v) (hp : agV p x y = some (eI v)) (he : ρ1.set i (some (eI z)) = ρ2) (k : W cf fu r ρ2 Q) : W cf fu (.cons (.aug i p e) r) ρ Q := by
  subst hz; exact w_aug hx h hx2 hp he k
/-- a branch that stands alone -/
theorem w_thru (h : W cf fu a ρ Q) : W cf fu a ρ (Sq cf fu .nil Q) := by
  obtain ⟨o, h1, h2⟩ := h
  refine ⟨o, h1, ?_⟩
  cases o with
  | nx ρ1 => exact w_nil h2
  | rt d ρ1 => exact h2
  | bk ρ1 => exact h2
  | ct ρ1 => exact h2
end
theorem run_ofE {T : List FnR} {fu k i np : Nat} {ds : List Val} {f : FnR} {b : Ss} {tg : List Nat} {ρ : Env} {d : Val} (hf : T[i]? = some f) (hl : ds.length = f.ps.length) (hb : f.body = b) (ht : tgSs b = tg) (hn : f.ps.length = np) (hr : frame f ds = ρ)
    (h : W (run T fu k) fu b ρ (fun o => ∃ os, finish tg np o = some (d, os))) : ∃ os, run T fu (k + 1) i ds = some (d, os) := by
  subst hb ht hn hr
  rw [go hf hl]
  obtain ⟨o, h1, os, h2⟩ := h
  exact ⟨os, by rw [h1]; exact h2⟩
end NV

set_option Elab.async false
set_option linter.all false
set_option maxRecDepth 100000
set_option maxHeartbeats 1000000
set_option synthInstance.maxSize 2000
/-! Plain laws of the typed operations. -/
namespace NV
section
variable {α β σ τ ρ : Type}
theorem lt_eq {v : α} {f : α → β} : lt v f = f v := rfl
theorem b2_some {γ : Type} {x : α} {y : β} {f : α → β → Option γ} : b2 (some (x, y)) f = f x y := rfl
theorem b3_some {γ δ : Type} {x : α} {y : β} {z : γ} {f : α → β → γ → Option δ} : b3 (some (x, y, z)) f = f x y z := rfl
theorem b4_some {γ δ ε : Type} {x : α} {y : β} {z : γ} {w : δ} {f : α → β → γ → δ → Option ε} : b4 (some (x, y, z, w)) f = f x y z w := rfl
theorem thenF_nx {s : σ} {k : σ → Option ρ} : thenF (Ctl.nx s : Ctl σ ρ) k = k s := rfl
theorem thenC_nx {s : σ} {k : σ → Option (Ctl τ ρ)} : thenC (Ctl.nx s : Ctl σ ρ) k = k s := rfl
theorem thenF_rt {x : ρ} {k : σ → Option ρ} : thenF (Ctl.rt x : Ctl σ ρ) k = some x := rfl
theorem thenC_rt {x : ρ} {k : σ → Option (Ctl τ ρ)} : thenC (Ctl.rt x : Ctl σ ρ) k = some (.rt x) := rfl
theorem catS_ok {xs ys : List α} (h : xs.length + ys.length ≤ 16777216) : catS xs ys = some (xs ++ ys) := if_pos h
theorem snoc_ok {xs : List α} {x : α} (h : xs.length < 16777216) : snoc xs x = some (xs ++ [x]) := if_pos h
theorem modS_ok {i j : Int} (h : 0 < j) : modS i j = some (i % j) := if_pos h
theorem mulS_ok {i j : Int} (h : i.natAbs < 2 ^ 64) : mulS i j = some (i * j) := if_pos (.inl h)
theorem mulS_ok2 {i j : Int} (h : j.natAbs < 2 ^ 64) : mulS i j = some (i * j) := if_pos (.inr (.inl h))
theorem log_lt {n : Nat} (h : n < 2 ^ 8999) : n.log2 < 9000 := by
  by_cases h0 : n = 0
  · subst h0; decide +kernel
  · have := (Nat.log2_lt h0).mpr h; omega
theorem divS_ok {i j : Int} (h : 0 < j) (h2 : j < 2 ^ 8999) : divS i j = some (i / j) := if_pos ⟨h, log_lt (by omega)⟩
theorem rg_ok {j : Int} (h : 0 ≤ j) (h2 : j ≤ 16777216) : rg j = some (rgL 0 j.toNat) := if_pos ⟨h2, by omega⟩
theorem rg_nat {n : Nat} (h : n ≤ 16777216) : rg (n : Int) = some (rgL 0 n) := by rw [rg_ok (by omega) (by omega)]; rfl
theorem rg2_ok {i j : Int} (h : -16777216 ≤ i) (h1 : i ≤ 16777216) (h2 : -16777216 ≤ j) (h3 : j ≤ 16777216) : rg2 i j = some (rgL i (j - i).toNat) := if_pos ⟨⟨h, h1⟩, h2, h3⟩
theorem rgL_len {lo : Int} {n : Nat} : (rgL lo n).length = n := by simp [rgL]
theorem rgL_at {lo : Int} {n i : Nat} {x : Int} (h : (rgL lo n)[i]? = some x) : i < n ∧ x = lo + i := by
  unfold rgL at h
  rw [List.getElem?_map] at h
  by_cases hm : i < n
  · rw [List.getElem?_range hm] at h; cases h; exact ⟨hm, rfl⟩
  · rw [List.getElem?_eq_none (by simpa using hm)] at h; cases h
theorem rgL_mem {lo x : Int} {n : Nat} : x ∈ rgL lo n ↔ lo ≤ x ∧ x < lo + n := by
  unfold rgL
  simp only [List.mem_map, List.mem_range]
  constructor
  · rintro ⟨a, h, rfl⟩; omega
  · intro h; exact ⟨(x - lo).toNat, by omega, by omega⟩
theorem repT_ok {xs : List α} {k : Int} (h : -1000000 ≤ k) (h1 : k ≤ 1000) (h2 : xs.length ≤ 1000) : repT xs k = some (List.replicate k.toNat xs).flatten := if_pos ⟨⟨h, h1⟩, h2⟩
theorem repL_ok {xs : List α} {k : Int} (h : -1000000 ≤ k) (h1 : k ≤ 1000000) (h2 : xs.length * k.toNat ≤ 1000000) : repL xs k = some (List.replicate k.toNat xs).flatten := if_pos ⟨⟨h, h1⟩, h2⟩
theorem rep1 {x : α} : ∀ n : Nat, (List.replicate n [x]).flatten = List.replicate n x
  | 0 => rfl
  | n + 1 => by rw [List.replicate_succ, List.flatten_cons, rep1 n]; rfl
theorem sameS_ok [DecidableEq α] {e : α → Val} {x y : α} (h : x = y) (h2 : nest 12 (e y) = true) : sameS e x y = some true := if_pos ⟨h, h2⟩
theorem at_nat {xs : List α} {j : Nat} (h : j < xs.length) : L2.atI xs (j : Int) = some xs[j] := atI_lt h
theorem at_of {xs : List α} {j : Nat} {x : α} (h : xs[j]? = some x) : L2.atI xs (j : Int) = some x := by
  obtain ⟨h1, h2⟩ := List.getElem?_eq_some_iff.mp h
  rw [atI_lt h1, h2]
theorem at_zero {x : α} {xs : List α} : L2.atI (x :: xs) 0 = some x := at_nat (xs := x :: xs) (j := 0) (by simp)
theorem at_last {xs : List α} (h : xs ≠ []) : L2.atI xs (-1) = some (xs.getLast h) := by
  have hl := List.length_pos_iff.mpr h
  unfold L2.atI L2.ixN
  rw [if_neg (by omega), if_pos (by omega)]
  show xs[((-1 : Int) + xs.length).toNat]? = _
  rw [show ((-1 : Int) + xs.length).toNat = xs.length - 1 by omega, ← List.getLast?_eq_getElem?, List.getLast?_eq_some_getLast h]
theorem set_nat {xs : List α} {j : Nat} {x : α} (h : j < xs.length) : setS xs (j : Int) x = some (xs.set j x) := by
  unfold setS; rw [ixN_nat h]; rfl
/-! ### draws -/
theorem take_ex (D : List Int) {m : Int} (h : 0 < m) : ∃ x D2, takeS D m = some (x, D2) ∧ 0 ≤ x ∧ x < m :=
  ⟨_, _, if_pos h, tk_lo D h, tk_hi D h⟩
/-- .. as a number -/
theorem take_nat (D : List Int) {m : Nat} (h : 0 < m) : ∃ (x : Nat) (D2 : List Int), takeS D (m : Int) = some ((x : Int), D2) ∧ x < m := by
  obtain ⟨x, D2, h1, h2, h3⟩ := take_ex D (m := (m : Int)) (by omega)
  obtain ⟨n, rfl⟩ := Int.eq_ofNat_of_zero_le h2
  exact ⟨n, D2, h1, by omega⟩
/-! ### comprehensions -/
theorem mapO_ok {f : α → Option β} {g : α → β} : ∀ {xs : List α}, (∀ x ∈ xs, f x = some (g x)) → mapO f xs = some (xs.map g)
  | [], _ => rfl
  | x :: xs, h => by
    show (f x).bind _ = _
    rw [h x (by simp)]
    show (mapO f xs).bind _ = _
    rw [mapO_ok fun y hy => h y (by simp [hy])]; rfl
theorem compO_ok {xs : List α} {f : α → Option β} (g : α → β) (hl : xs.length < 16777216) (h : ∀ x ∈ xs, f x = some (g x)) : compO xs f = some (xs.map g) := by
  unfold compO; rw [if_pos hl]; exact mapO_ok h
theorem compO_pure {xs : List α} {g : α → β} (hl : xs.length < 16777216) : compO xs (fun x => some (g x)) = some (xs.map g) := compO_ok g hl fun _ _ => rfl
theorem fmO_ok {p : α → Option Bool} {f : α → Option β} {q : α → Bool} {g : α → β} : ∀ {xs : List α}, (∀ x ∈ xs, p x = some (q x)) → (∀ x ∈ xs, q x = true → f x = some (g x)) → fmO (fun x => (p x).bind fun b => if b = true then (f x).map some else some none) xs = some ((xs.filter q).map g)
  | [], _, _ => rfl
  | x :: xs, h, h2 => by
    show ((p x).bind _).bind _ = _
    rw [h x (by simp)]
    have ih := fmO_ok (xs := xs) (fun y hy => h y (by simp [hy])) (fun y hy => h2 y (by simp [hy]))
    cases e : q x with
    | false =>
      show (some none : Option (Option β)).bind _ = _
      show (fmO _ xs).bind _ = _
      rw [ih, List.filter_cons_of_neg (by simp [e])]; rfl
    | true =>
      show ((f x).map some).bind _ = _
      rw [h2 x (by simp) e]
      show (fmO _ xs).bind _ = _
      rw [ih, List.filter_cons_of_pos e]; rfl
theorem compF_ok {xs : List α} {p : α → Option Bool} {f : α → Option β} (q : α → Bool) (g : α → β) (hl : xs.length < 16777216) (hp : ∀ x ∈ xs, p x = some (q x)) (hf : ∀ x ∈ xs, q x = true → f x = some (g x)) : compF xs p f = some ((xs.filter q).map g) := by
  unfold compF; rw [if_pos hl]; exact fmO_ok hp hf
theorem compF_pure {xs : List α} {q : α → Bool} {g : α → β} (hl : xs.length < 16777216) : compF xs (fun x => some (q x)) (fun x => some (g x)) = some ((xs.filter q).map g) := compF_ok q g hl (fun _ _ => rfl) fun _ _ _ => rfl
theorem compF_self {xs : List α} {q : α → Bool} (hl : xs.length < 16777216) : compF xs (fun x => some (q x)) (fun x => some x) = some (xs.filter q) := (compF_pure (g := id) hl).trans (by rw [List.map_id])
/-- draws in a comprehension: what each comes to -/
theorem fmS_ex {f : σ → α → Option (Option β × σ)} (P : α → β → Prop) : ∀ (xs : List α) (s : σ), (∀ s, ∀ x ∈ xs, ∃ y s2, f s x = some (some y, s2) ∧ P x y) → ∃ ys s2, fmS f xs s = some (ys, s2) ∧ ys.length = xs.length ∧ ∀ i (h : i < xs.length) (h2 : i < ys.length), P xs[i] ys[i]
  | [], s, _ => ⟨[], s, rfl, rfl, fun i h => by simp at h⟩
  | x :: xs, s, h => by
    obtain ⟨y, s1, e1, p1⟩ := h s x (by simp)
    obtain ⟨ys, s2, e2, l2, p2⟩ := fmS_ex P xs s1 fun s z hz => h s z (by simp [hz])
    refine ⟨y :: ys, s2, ?_, by simp [l2], fun i h1 h2 => ?_⟩
    · show (f s x).bind _ = _
      rw [e1]; show (fmS f xs s1).bind _ = _
      rw [e2]; rfl
    · cases i with
      | zero => exact p1
      | succ i => exact p2 i (by simpa using h1) (by simpa using h2)
theorem compS_ex {xs : List α} {s : σ} {f : σ → α → Option (Option β × σ)} (P : α → β → Prop) (hl : xs.length < 16777216) (h : ∀ s, ∀ x ∈ xs, ∃ y s2, f s x = some (some y, s2) ∧ P x y) : ∃ ys s2, compS xs s f = some (ys, s2) ∧ ys.length = xs.length ∧ ∀ i (h : i < xs.length) (h2 : i < ys.length), P xs[i] ys[i] := by
  unfold compS; rw [if_pos hl]; exact fmS_ex P xs s h
/-- .. of which nothing but a property of each is told -/
theorem compS_all {xs : List α} {s : σ} {f : σ → α → Option (Option β × σ)} (P : β → Prop) (hl : xs.length < 16777216) (h : ∀ s, ∀ x ∈ xs, ∃ y s2, f s x = some (some y, s2) ∧ P y) : ∃ ys s2, compS xs s f = some (ys, s2) ∧ ys.length = xs.length ∧ ∀ y ∈ ys, P y := by
  obtain ⟨ys, s2, e, l, p⟩ := compS_ex (fun _ y => P y) hl h
  refine ⟨ys, s2, e, l, fun y hy => ?_⟩
  obtain ⟨i, hi, rfl⟩ := List.mem_iff_getElem.mp hy
  exact p i (by omega) hi
/-- draws with a test: a part of the row -/
theorem fmS_filt {f : σ → α → Option (Option β × σ)} (g : α → β) : ∀ (xs : List α) (s : σ), (∀ s, ∀ x ∈ xs, ∃ s2, f s x = some (some (g x), s2) ∨ f s x = some (none, s2)) → ∃ (ys : List α) (s2 : σ), fmS f xs s = some (ys.map g, s2) ∧ ys.Sublist xs
  | [], s, _ => ⟨[], s, rfl, .slnil⟩
  | x :: xs, s, h => by
    obtain ⟨s1, e1⟩ := h s x (by simp)
    obtain ⟨ys, s2, e2, l2⟩ := fmS_filt g xs s1 fun s z hz => h s z (by simp [hz])
    rcases e1 with e1 | e1
    · refine ⟨x :: ys, s2, ?_, l2.cons₂ x⟩
      show (f s x).bind _ = _
      rw [e1]; show (fmS f xs s1).bind _ = _
      rw [e2]; rfl
    · refine ⟨ys, s2, ?_, l2.cons x⟩
      show (f s x).bind _ = _
      rw [e1]; show (fmS f xs s1).bind _ = _
      rw [e2]; rfl
theorem compS_filt {xs : List α} {s : σ} {f : σ → α → Option (Option β × σ)} (g : α → β) (hl : xs.length < 16777216) (h : ∀ s, ∀ x ∈ xs, ∃ s2, f s x = some (some (g x), s2) ∨ f s x = some (none, s2)) : ∃ (ys : List α) (s2 : σ), compS xs s f = some (ys.map g, s2) ∧ ys.Sublist xs := by
  unfold compS; rw [if_pos hl]; exact fmS_filt g xs s h
/-! ### loops -/
theorem forS_ex {f : σ → α → Option σ} (I : Nat → σ → Prop) : ∀ (xs : List α) (j : Nat) (s : σ), I j s → (∀ i x s, xs[i]? = some x → I (j + i) s → ∃ s2, f s x = some s2 ∧ I (j + i + 1) s2) → ∃ s2, forS f xs s = some s2 ∧ I (j + xs.length) s2
  | [], j, s, h, _ => ⟨s, rfl, h⟩
  | x :: xs, j, s, h, hs => by
    obtain ⟨s1, e1, h1⟩ := hs 0 x s rfl h
    obtain ⟨s2, e2, h2⟩ := forS_ex I xs (j + 1) s1 h1 fun i y t hy ht => by
      have q := hs (i + 1) y t (by simpa using hy) (by rw [show j + (i + 1) = j + 1 + i by omega]; exact ht)
      rwa [show j + (i + 1) + 1 = j + 1 + i + 1 by omega] at q
    refine ⟨s2, ?_, by rw [List.length_cons, show j + (xs.length + 1) = j + 1 + xs.length by omega]; exact h2⟩
    show (f s x).bind _ = _
    rw [e1]; exact e2
theorem forS_rg {f : σ → Int → Option σ} (I : Nat → σ → Prop) {lo : Int} {n : Nat} {s : σ} (h : I 0 s) (hs : ∀ i s, i < n → I i s → ∃ s2, f s (lo + i) = some s2 ∧ I (i + 1) s2) : ∃ s2, forS f (rgL lo n) s = some s2 ∧ I n s2 := by
  obtain ⟨s2, e, h2⟩ := forS_ex I (rgL lo n) 0 s h fun i x s hx hi => by
    obtain ⟨h1, rfl⟩ := rgL_at hx
    rw [Nat.zero_add] at hi ⊢
    exact hs i s h1 hi
  rw [Nat.zero_add, rgL_len] at h2
  exact ⟨s2, e, h2⟩
theorem forC_ex {f : σ → α → Option (Ctl σ ρ)} (I : Nat → σ → Prop) : ∀ (xs : List α) (j : Nat) (s : σ), I j s → (∀ i x s, xs[i]? = some x → I (j + i) s → ∃ s2, (f s x = some (.nx s2) ∨ f s x = some (.ct s2)) ∧ I (j + i + 1) s2) → ∃ s2, forC f xs s = some (.nx s2) ∧ I (j + xs.length) s2
  | [], j, s, h, _ => ⟨s, rfl, h⟩
  | x :: xs, j, s, h, hs => by
    obtain ⟨s1, e1, h1⟩ := hs 0 x s rfl h
    obtain ⟨s2, e2, h2⟩ := forC_ex I xs (j + 1) s1 h1 fun i y t hy ht => by
      have q := hs (i + 1) y t (by simpa using hy) (by rw [show j + (i + 1) = j + 1 + i by omega]; exact ht)
      rwa [show j + (i + 1) + 1 = j + 1 + i + 1 by omega] at q
    refine ⟨s2, ?_, by rw [List.length_cons, show j + (xs.length + 1) = j + 1 + xs.length by omega]; exact h2⟩
    show (f s x).bind _ = _
    rcases e1 with e1 | e1 <;> rw [e1] <;> exact e2
theorem forC_rg {f : σ → Int → Option (Ctl σ ρ)} (I : Nat → σ → Prop) {lo : Int} {n : Nat} {s : σ} (h : I 0 s) (hs : ∀ i s, i < n → I i s → ∃ s2, (f s (lo + i) = some (.nx s2) ∨ f s (lo + i) = some (.ct s2)) ∧ I (i + 1) s2) : ∃ s2, forC f (rgL lo n) s = some (.nx s2) ∧ I n s2 := by
  obtain ⟨s2, e, h2⟩ := forC_ex I (rgL lo n) 0 s h fun i x s hx hi => by
    obtain ⟨h1, rfl⟩ := rgL_at hx
    rw [Nat.zero_add] at hi ⊢
    exact hs i s h1 hi
  rw [Nat.zero_add, rgL_len] at h2
  exact ⟨s2, e, h2⟩
/-- a walk that keeps one and the same property -/
theorem forC_all {f : σ → α → Option (Ctl σ ρ)} (I : σ → Prop) {xs : List α} {s : σ} (h : I s) (hs : ∀ x ∈ xs, ∀ s, I s → ∃ s2, (f s x = some (.nx s2) ∨ f s x = some (.ct s2)) ∧ I s2) : ∃ s2, forC f xs s = some (.nx s2) ∧ I s2 :=
  forC_ex (fun _ => I) xs 0 s h fun i x s hx hi => hs x (List.mem_of_getElem? hx) s hi
theorem forS_all {f : σ → α → Option σ} (I : σ → Prop) {xs : List α} {s : σ} (h : I s) (hs : ∀ x ∈ xs, ∀ s, I s → ∃ s2, f s x = some s2 ∧ I s2) : ∃ s2, forS f xs s = some s2 ∧ I s2 :=
  forS_ex (fun _ => I) xs 0 s h fun i x s hx hi => hs x (List.mem_of_getElem? hx) s hi
theorem whileS_ex {c : σ → Option Bool} {f : σ → Option σ} (I : σ → Prop) (m : σ → Nat) (hc : ∀ s, I s → ∃ b, c s = some b ∧ (b = true → ∃ s2, f s = some s2 ∧ I s2 ∧ m s2 < m s)) : ∀ (n : Nat) (s : σ), I s → m s < n → ∃ s2, whileS c f n s = some s2 ∧ I s2 ∧ c s2 = some false
  | 0, s, _, h => by omega
  | n + 1, s, hi, hm => by
    obtain ⟨b, e1, h1⟩ := hc s hi
    show ∃ s2, (c s).bind _ = _ ∧ _
    rw [e1]
    cases b with
    | false => exact ⟨s, rfl, hi, e1⟩
    | true =>
      obtain ⟨s2, e2, h2, h3⟩ := h1 rfl
      obtain ⟨s3, e3, h4⟩ := whileS_ex I m hc n s2 h2 (by omega)
      refine ⟨s3, ?_, h4⟩
      show (f s).bind _ = _
      rw [e2]; exact e3
theorem whileC_ex {c : σ → Option Bool} {f : σ → Option (Ctl σ ρ)} (I : σ → Prop) (m : σ → Nat) (hc : ∀ s, I s → ∃ b, c s = some b ∧ (b = true → ∃ s2, (f s = some (.nx s2) ∨ f s = some (.ct s2)) ∧ I s2 ∧ m s2 < m s)) : ∀ (n : Nat) (s : σ), I s → m s < n → ∃ s2, whileC c f n s = some (.nx s2) ∧ I s2 ∧ c s2 = some false
  | 0, s, _, h => by omega
  | n + 1, s, hi, hm => by
    obtain ⟨b, e1, h1⟩ := hc s hi
    show ∃ s2, (c s).bind _ = _ ∧ _
    rw [e1]
    cases b with
    | false => exact ⟨s, rfl, hi, e1⟩
    | true =>
      obtain ⟨s2, e2, h2, h3⟩ := h1 rfl
      obtain ⟨s3, e3, h4⟩ := whileC_ex I m hc n s2 h2 (by omega)
      refine ⟨s3, ?_, h4⟩
      show (f s).bind _ = _
      rcases e2 with e2 | e2 <;> rw [e2] <;> exact e3
end
/-! ### nesting, for what is to be the same -/
theorem nest_I {n : Nat} {x : Int} : nest n (eI x) = true := by cases n <;> rfl
theorem nest_B {n : Nat} {x : Bool} : nest n (eB x) = true := by cases n <;> rfl
theorem nest_U {n : Nat} {x : Unit} : nest n (eU x) = true := by cases n <;> rfl
theorem nest_tup {n : Nat} {ds : List Val} : nest (n + 1) (.tup ds) = (decide (ds.length ≤ 16777216) && ds.all (nest n)) := rfl
theorem nest_T {α : Type} {e : α → Val} {n : Nat} {xs : List α} (hl : xs.length ≤ 16777216) (h : ∀ x ∈ xs, nest n (e x) = true) : nest (n + 1) (eT e xs) = true := by
  show (decide ((xs.map e).length ≤ 16777216) && (xs.map e).all (nest n)) = true
  rw [List.length_map, decide_eq_true hl, Bool.true_and, List.all_map, List.all_eq_true]
  exact h
theorem nest_TI {n : Nat} {xs : List Int} (hl : xs.length ≤ 16777216) : nest (n + 1) (eT eI xs) = true := nest_T hl fun _ _ => nest_I
theorem nest_O {α : Type} {e : α → Val} {n : Nat} {x : Option α} (h : ∀ y, x = some y → nest n (e y) = true) : nest n (eO e x) = true := by
  cases x with
  | none => cases n <;> rfl
  | some y => exact h y rfl
end NV

set_option Elab.async false
set_option linter.all false
set_option maxRecDepth 100000
set_option maxHeartbeats 1000000
set_option synthInstance.maxSize 2000
/-! A typed text comes to something of which .. holds. -/
namespace NV
section
variable {α β γ δ σ τ ρ : Type}
def Yes (m : Option γ) (Q : γ → Prop) : Prop := ∃ a, m = some a ∧ Q a
theorem Yes.eq {m : Option γ} {x : γ} (h : Yes m (· = x)) : m = some x := by
  obtain ⟨a, e, rfl⟩ := h; exact e
theorem yes_eq {m : Option γ} {x : γ} (h : m = some x) : Yes m (· = x) := ⟨x, h, rfl⟩
theorem yes_imp {m : Option γ} {P Q : γ → Prop} (h : Yes m P) (k : ∀ a, P a → Q a) : Yes m Q := let ⟨a, e, p⟩ := h; ⟨a, e, k a p⟩
theorem yes_some {a : γ} {Q : γ → Prop} (h : Q a) : Yes (some a) Q := ⟨a, rfl, h⟩
variable {Q : δ → Prop}
theorem yes_bind {m : Option γ} {P : γ → Prop} {k : γ → Option δ} (h : Yes m P) (q : ∀ a, P a → Yes (k a) Q) : Yes (m.bind k) Q := by
  obtain ⟨a, e, p⟩ := h
  rw [e]; exact q a p
/-- what it comes to is known -/
theorem yes_to {m : Option γ} {k : γ → Option δ} {a : γ} (h : m = some a) (q : Yes (k a) Q) : Yes (m.bind k) Q := by rw [h]; exact q
theorem yes_b2 {m : Option (α × β)} {P : α → β → Prop} {k : α → β → Option δ} (h : Yes m (fun p => P p.1 p.2)) (q : ∀ x y, P x y → Yes (k x y) Q) : Yes (b2 m k) Q := by
  obtain ⟨a, e, p⟩ := h
  unfold b2; rw [e]; exact q _ _ p
theorem yes_b2to {m : Option (α × β)} {k : α → β → Option δ} {x : α} {y : β} (h : m = some (x, y)) (q : Yes (k x y) Q) : Yes (b2 m k) Q := by rw [h]; exact q
theorem yes_b3 {m : Option (α × β × γ)} {P : α → β → γ → Prop} {k : α → β → γ → Option δ} (h : Yes m (fun p => P p.1 p.2.1 p.2.2)) (q : ∀ x y z, P x y z → Yes (k x y z) Q) : Yes (b3 m k) Q := by
  obtain ⟨a, e, p⟩ := h
  unfold b3; rw [e]; exact q _ _ _ p
theorem yes_b3to {m : Option (α × β × γ)} {k : α → β → γ → Option δ} {x : α} {y : β} {z : γ} (h : m = some (x, y, z)) (q : Yes (k x y z) Q) : Yes (b3 m k) Q := by rw [h]; exact q
theorem yes_lt {v : α} {k : α → Option δ} (q : Yes (k v) Q) : Yes (lt v k) Q := q
/-- a value, named -/
theorem yes_ltN {v : α} {k : α → Option δ} (q : ∀ x, x = v → Yes (k x) Q) : Yes (lt v k) Q := q v rfl
theorem yes_take {D : List Int} {m : Int} {k : Int → List Int → Option δ} (h : 0 < m) (q : ∀ x D2, 0 ≤ x → x < m → Yes (k x D2) Q) : Yes (b2 (takeS D m) k) Q := by
  obtain ⟨x, D2, e, h1, h2⟩ := take_ex D h
  rw [e]; exact q x D2 h1 h2
theorem yes_takeN {D : List Int} {m : Nat} {k : Int → List Int → Option δ} (h : 0 < m) (q : ∀ (x : Nat) D2, x < m → Yes (k (x : Int) D2) Q) : Yes (b2 (takeS D (m : Int)) k) Q := by
  obtain ⟨x, D2, e, h2⟩ := take_nat D h
  rw [e]; exact q x D2 h2
theorem yes_if {c : Bool} {a b : Option δ} (h1 : c = true → Yes a Q) (h2 : c = false → Yes b Q) : Yes (if c = true then a else b) Q := by
  cases c
  · exact h2 rfl
  · exact h1 rfl
theorem yes_ifT {c : Bool} {a b : Option δ} (h : c = true) (q : Yes a Q) : Yes (if c = true then a else b) Q := by subst h; exact q
theorem yes_ifF {c : Bool} {a b : Option δ} (h : c = false) (q : Yes b Q) : Yes (if c = true then a else b) Q := by subst h; exact q
/-- a walk goes on -/
def Nx (I : σ → Prop) (c : Ctl σ ρ) : Prop := match c with
  | .nx s => I s
  | .ct s => I s
  | _ => False
theorem yes_nx {I : σ → Prop} {s : σ} (h : I s) : Yes (some (Ctl.nx s : Ctl σ ρ)) (Nx I) := ⟨_, rfl, h⟩
theorem yes_ct {I : σ → Prop} {s : σ} (h : I s) : Yes (some (Ctl.ct s : Ctl σ ρ)) (Nx I) := ⟨_, rfl, h⟩
theorem Nx.of {I : σ → Prop} {m : Option (Ctl σ ρ)} (h : Yes m (Nx I)) : ∃ s2, (m = some (.nx s2) ∨ m = some (.ct s2)) ∧ I s2 := by
  obtain ⟨c, e, q⟩ := h
  cases c with
  | nx s => exact ⟨s, .inl e, q⟩
  | ct s => exact ⟨s, .inr e, q⟩
  | bk s => cases q
  | rt x => cases q
theorem yes_forC {f : σ → α → Option (Ctl σ ρ)} {xs : List α} {s : σ} {k : Ctl σ ρ → Option δ} (I : Nat → σ → Prop) (h : I 0 s) (hs : ∀ i x s, xs[i]? = some x → I i s → Yes (f s x) (Nx (I (i + 1)))) (q : ∀ s2, I xs.length s2 → Yes (k (.nx s2)) Q) : Yes ((forC f xs s).bind k) Q := by
  obtain ⟨s2, e, h2⟩ := forC_ex I xs 0 s h fun i x s hx hi => by
    rw [Nat.zero_add] at hi ⊢
    exact Nx.of (hs i x s hx hi)
  rw [Nat.zero_add] at h2
  rw [e]; exact q s2 h2
theorem yes_forCr {f : σ → Int → Option (Ctl σ ρ)} {lo : Int} {n : Nat} {s : σ} {k : Ctl σ ρ → Option δ} (I : Nat → σ → Prop) (h : I 0 s) (hs : ∀ i s, i < n → I i s → Yes (f s (lo + i)) (Nx (I (i + 1)))) (q : ∀ s2, I n s2 → Yes (k (.nx s2)) Q) : Yes ((forC f (rgL lo n) s).bind k) Q :=
  yes_forC I h (fun i x s hx hi => by obtain ⟨h1, rfl⟩ := rgL_at hx; exact hs i s h1 hi) fun s2 h2 => q s2 (by rwa [rgL_len] at h2)
theorem yes_forCa {f : σ → α → Option (Ctl σ ρ)} {xs : List α} {s : σ} {k : Ctl σ ρ → Option δ} (I : σ → Prop) (h : I s) (hs : ∀ x ∈ xs, ∀ s, I s → Yes (f s x) (Nx I)) (q : ∀ s2, I s2 → Yes (k (.nx s2)) Q) : Yes ((forC f xs s).bind k) Q :=
  yes_forC (fun _ => I) h (fun i x s hx hi => hs x (List.mem_of_getElem? hx) s hi) q
theorem yes_forSS {f : σ → α → Option σ} {xs : List α} {s : σ} (I : Nat → σ → Prop) (h : I 0 s) (hs : ∀ i x s, xs[i]? = some x → I i s → Yes (f s x) (I (i + 1))) : Yes (forS f xs s) (I xs.length) := by
  obtain ⟨s2, e, h2⟩ := forS_ex I xs 0 s h fun i x s hx hi => by
    rw [Nat.zero_add] at hi ⊢
    exact hs i x s hx hi
  rw [Nat.zero_add] at h2
  exact ⟨s2, e, h2⟩
theorem yes_forSr {f : σ → Int → Option σ} {lo : Int} {n : Nat} {s : σ} (I : Nat → σ → Prop) (h : I 0 s) (hs : ∀ i s, i < n → I i s → Yes (f s (lo + i)) (I (i + 1))) : Yes (forS f (rgL lo n) s) (I n) := by
  have := yes_forSS (f := f) (xs := rgL lo n) I h fun i x s hx hi => by obtain ⟨h1, rfl⟩ := rgL_at hx; exact hs i s h1 hi
  rwa [rgL_len] at this
theorem yes_forSa {f : σ → α → Option σ} {xs : List α} {s : σ} (I : σ → Prop) (h : I s) (hs : ∀ x ∈ xs, ∀ s, I s → Yes (f s x) I) : Yes (forS f xs s) I :=
  yes_forSS (fun _ => I) h fun i x s hx hi => hs x (List.mem_of_getElem? hx) s hi
theorem yes_whileS {c : σ → Option Bool} {f : σ → Option σ} {n : Nat} {s : σ} (I : σ → Prop) (m : σ → Nat) (h : I s) (hm : m s < n) (hs : ∀ s, I s → ∃ b, c s = some b ∧ (b = true → Yes (f s) (fun s2 => I s2 ∧ m s2 < m s))) : Yes (whileS c f n s) (fun s2 => I s2 ∧ c s2 = some false) := by
  obtain ⟨s2, e, h2⟩ := whileS_ex I m (fun s hi => by
    obtain ⟨b, e, q⟩ := hs s hi
    exact ⟨b, e, fun hb => let ⟨s2, e2, h2⟩ := q hb; ⟨s2, e2, h2.1, h2.2⟩⟩) n s h hm
  exact ⟨s2, e, h2⟩
theorem yes_compS {xs : List α} {s : σ} {f : σ → α → Option (Option β × σ)} {k : List β → σ → Option δ} (P : β → Prop) (hl : xs.length < 16777216) (h : ∀ s, ∀ x ∈ xs, Yes (f s x) (fun p => ∃ y, p.1 = some y ∧ P y)) (q : ∀ ys s2, ys.length = xs.length → (∀ y ∈ ys, P y) → Yes (k ys s2) Q) : Yes (b2 (compS xs s f) k) Q := by
  obtain ⟨ys, s2, e, h1, h2⟩ := compS_all (s := s) P hl fun s x hx => by
    obtain ⟨⟨p1, p2⟩, e, y, hy, hp⟩ := h s x hx
    dsimp only at hy
    subst hy
    exact ⟨y, p2, e, hp⟩
  rw [e]; exact q ys s2 h1 h2
theorem yes_compSx {xs : List α} {s : σ} {f : σ → α → Option (Option β × σ)} {k : List β → σ → Option δ} (P : α → β → Prop) (hl : xs.length < 16777216) (h : ∀ s, ∀ x ∈ xs, Yes (f s x) (fun p => ∃ y, p.1 = some y ∧ P x y)) (q : ∀ ys s2, ys.length = xs.length → (∀ i (h : i < xs.length) (h2 : i < ys.length), P xs[i] ys[i]) → Yes (k ys s2) Q) : Yes (b2 (compS xs s f) k) Q := by
  obtain ⟨ys, s2, e, h1, h2⟩ := compS_ex (s := s) P hl fun s x hx => by
    obtain ⟨⟨p1, p2⟩, e, y, hy, hp⟩ := h s x hx
    dsimp only at hy
    subst hy
    exact ⟨y, p2, e, hp⟩
  rw [e]; exact q ys s2 h1 h2
/-- a part of the row -/
theorem yes_compSf {xs : List α} {s : σ} {f : σ → α → Option (Option β × σ)} {k : List β → σ → Option δ} (g : α → β) (hl : xs.length < 16777216) (h : ∀ s, ∀ x ∈ xs, Yes (f s x) (fun p => p.1 = some (g x) ∨ p.1 = none)) (q : ∀ (ys : List α) s2, ys.Sublist xs → Yes (k (ys.map g) s2) Q) : Yes (b2 (compS xs s f) k) Q := by
  obtain ⟨ys, s2, e, h1⟩ := compS_filt (s := s) g hl fun s x hx => by
    obtain ⟨⟨p1, p2⟩, e, hp⟩ := h s x hx
    refine ⟨p2, ?_⟩
    rcases hp with rfl | rfl
    · exact .inl e
    · exact .inr e
  rw [e]; exact q ys s2 h1
end
end NV

set_option Elab.async false
set_option linter.all false
set_option maxRecDepth 100000
set_option maxHeartbeats 0
namespace K42
open PySem PySem.Spec L2
def r0 : NV.FnR := ⟨"place_by_turns", ["asks", "turn"], ["asks", "turn", "place"], (.cons (.for_ (.n 2) (.v 0) (.cons (.if_ (.q (.p2 .ge (.v 2) (.v 1))) (.cons (.ret (.q (.v 2))) .nil) .nil) .nil)) (.cons (.ret (.q (.p2 .idx (.v 0) (.c (.int 0))))) .nil))⟩
def r1 : NV.FnR := ⟨"place_by_ages", ["asks", "ages"], ["asks", "ages"], (.cons (.ret (.p2 .idx (.v 0) (.e (.index (.v 1) (.p1 .min (.v 1)))))) .nil)⟩
def r2 : NV.FnR := ⟨"granted", ["kind", "asks", "turn", "ages"], ["kind", "asks", "turn", "ages"], (.cons (.if_ (.q (.p2 .eq (.v 0) (.c (.str "turns")))) (.cons (.ret (.call 0 (.v 1 (.v 2 .nil)))) .nil) .nil) (.cons (.if_ (.q (.p2 .eq (.v 0) (.c (.str "oldest")))) (.cons (.ret (.call 1 (.v 1 (.v 3 .nil)))) .nil) .nil) (.cons (.ret (.q (.p2 .idx (.v 1) (.c (.int 0))))) .nil)))⟩
def r3 : NV.FnR := ⟨"turn_behind", ["kind", "place", "ports", "turn"], ["kind", "place", "ports", "turn"], (.cons (.if_ (.q (.p2 .eq (.v 0) (.c (.str "turns")))) (.cons (.ret (.q (.p2 .mod (.p2 .add (.v 1) (.c (.int 1))) (.v 2)))) .nil) .nil) (.cons (.ret (.q (.v 3))) .nil))⟩
def r4 : NV.FnR := ⟨"waits_at_most", ["ports"], ["ports"], (.cons (.ret (.q (.p2 .sub (.v 0) (.c (.int 1))))) .nil)⟩
def r5 : NV.FnR := ⟨"ask_always", ["asks", "rounds"], ["asks", "rounds", "found", "at", "place"], (.cons (.asg (.n 2) (.p1 .list (.q (.p2 .idx (.v 0) (.c (.int 0)))))) (.cons (.for_ (.n 3) (.rng2 (.q (.c (.int 1))) (.q (.v 1))) (.cons (.asg (.n 2) (.compIf [4] (.n 4) (.v 2) (.q (.p2 .isin (.v 4) (.p2 .idx (.v 0) (.v 3)))) (.q (.v 4)))) .nil)) (.cons (.ret (.mv 2)) .nil)))⟩
def r6 : NV.FnR := ⟨"starved", ["asks", "rounds"], ["asks", "rounds", "served", "at", "place"], (.cons (.asg (.n 2) (.lst .nil)) (.cons (.for_ (.n 3) (.rng1 (.q (.v 1))) (.cons (.if_ (.q (.p2 .gt (.p1 .len (.p2 .idx (.v 0) (.v 3))) (.c (.int 0)))) (.cons (.app 2 (.call 2 (.e (.q (.c (.str "fixed"))) (.e (.q (.p2 .idx (.v 0) (.v 3))) (.e (.q (.c (.int 0))) (.e (.rw .nil) .nil)))))) .nil) .nil) .nil)) (.cons (.ret (.p1 .tuple (.e (.compIf [4] (.n 4) (.e (.call 5 (.v 0 (.v 1 .nil)))) (.q (.p2 .notin (.v 4) (.v 2))) (.q (.v 4)))))) .nil)))⟩
def r7 : NV.FnR := ⟨"shares_of", ["kind", "ports", "rounds"], ["kind", "ports", "rounds", "place"], (.cons (.if_ (.q (.p2 .eq (.v 0) (.c (.str "turns")))) (.cons (.ret (.p1 .tuple (.e (.comp [3] (.n 3) (.rng1 (.q (.v 1))) (.q (.p2 .add (.p2 .fdiv (.v 2) (.v 1)) (.p1 .int (.p2 .lt (.v 3) (.p2 .mod (.v 2) (.v 1)))))))))) .nil) .nil) (.cons (.ret (.p2 .add (.e (.rw (.cons (.q (.v 2)) .nil))) (.e (.p2 .mul (.e (.rw (.cons (.q (.c (.int 0))) .nil))) (.q (.p2 .sub (.v 1) (.c (.int 1)))))))) .nil))⟩
def r8 : NV.FnR := ⟨"_law_draws", ["script", "many"], ["script", "many", "cells", "rest", "draws", "k", "at", "cell", "once"], (.cons (.asg (.n 2) (.comp [7] (.n 7) (.v 0) (.q (.p1 .int (.v 7))))) (.cons (.if_ (.q (.p2 .eq (.p1 .len (.v 2)) (.c (.int 0)))) (.cons (.app 2 (.q (.c (.int 0)))) .nil) .nil) (.cons (.asg (.n 3) (.p1 .list (.v 2))) (.cons (.asg (.n 4) (.lst .nil)) (.cons (.for_ (.n 5) (.rng1 (.q (.v 1))) (.cons (.asg (.n 6) (.q (.p2 .mod (.v 5) (.p1 .len (.v 2))))) (.cons (.if_ (.and_ (.q (.p2 .ge (.p2 .idx (.v 2) (.v 6)) (.p2 .pow (.c (.int 10)) (.c (.int 18))))) (.q (.p2 .gt (.p2 .idx (.v 3) (.v 6)) (.c (.int 0))))) (.cons (.app 4 (.q (.p2 .mod (.p1 .int (.p2 .idx (.v 3) (.v 6))) (.c (.int 1000))))) (.cons (.sset 3 (.v 6) (.q (.p2 .fdiv (.p2 .idx (.v 3) (.v 6)) (.c (.int 1000))))) .nil)) (.cons (.asg (.n 8) (.q (.p2 .mod (.p1 .int (.p2 .add (.p2 .add (.p2 .mul (.p2 .idx (.v 2) (.v 6)) (.c (.int 48271))) (.p2 .mul (.v 5) (.c (.int 69621)))) (.c (.int 11)))) (.c (.int 2147483647))))) (.cons (.app 4 (.q (.p2 .mod (.p1 .int (.p2 .add (.p2 .add (.p2 .mul (.v 8) (.v 8)) (.p2 .mul (.c (.int 3)) (.v 8))) (.v 5))) (.c (.int 1000003))))) .nil))) .nil))) (.cons (.rev 4) (.cons (.ret (.mv 4)) .nil)))))))⟩
def r9 : NV.FnR := ⟨"_law_take", ["draws", "many"], ["draws", "many"], (.cons (.if_ (.q (.p2 .eq (.p1 .len (.v 0)) (.c (.int 0)))) (.cons (.ret (.q (.c (.int 0)))) .nil) .nil) (.cons (.ret (.p2 .mod (.e (.p1 .int (.e (.pop 0)))) (.v 1))) .nil))⟩
def r10 : NV.FnR := ⟨"_law_same", ["actual", "due"], ["actual", "due", "k"], (.cons (.if_ (.q (.p1 .isBool (.v 1))) (.cons (.ret (.and_ (.q (.p1 .isBool (.v 0))) (.q (.p2 .eq (.v 0) (.v 1))))) .nil) .nil) (.cons (.if_ (.q (.p1 .isInt (.v 1))) (.cons (.ret (.and_ (.q (.p1 .isInt (.v 0))) (.and_ (.not_ (.q (.p1 .isBool (.v 0)))) (.q (.p2 .eq (.v 0) (.v 1)))))) .nil) .nil) (.cons (.if_ (.q (.p1 .isStr (.v 1))) (.cons (.ret (.and_ (.q (.p1 .isStr (.v 0))) (.q (.p2 .eq (.v 0) (.v 1))))) .nil) .nil) (.cons (.if_ (.q (.p2 .isN (.v 1) (.c .non))) (.cons (.ret (.q (.p2 .isN (.v 0) (.c .non)))) .nil) .nil) (.cons (.if_ (.or_ (.not_ (.q (.p1 .isTuple (.v 0)))) (.q (.p2 .ne (.p1 .len (.v 0)) (.p1 .len (.v 1))))) (.cons (.ret (.q (.c (.bl false)))) .nil) .nil) (.cons (.for_ (.n 2) (.rng1 (.q (.p1 .len (.v 1)))) (.cons (.if_ (.not_ (.call 10 (.e (.q (.p2 .idx (.v 0) (.v 2))) (.e (.q (.p2 .idx (.v 1) (.v 2))) .nil)))) (.cons (.ret (.q (.c (.bl false)))) .nil) .nil) .nil)) (.cons (.ret (.q (.c (.bl true)))) .nil)))))))⟩
def r11 : NV.FnR := ⟨"_law_places", ["draws", "ports", "rare"], ["draws", "ports", "rare", "found", "place"], (.cons (.asg (.n 3) (.compIf [4] (.n 4) (.rng1 (.q (.v 1))) (.p2 .eq (.e (.call 9 (.v 0 (.v 2 .nil)))) (.q (.c (.int 0)))) (.q (.v 4)))) (.cons (.if_ (.q (.p2 .eq (.p1 .len (.v 3)) (.c (.int 0)))) (.cons (.app 3 (.call 9 (.v 0 (.v 1 .nil)))) .nil) .nil) (.cons (.ret (.q (.p1 .tuple (.v 3)))) .nil)))⟩
def r12 : NV.FnR := ⟨"_law_ages", ["draws", "many"], ["draws", "many", "left", "late", "found", "k"], (.cons (.asg (.n 2) (.lrg true (.q (.v 1)))) (.cons (.asg (.n 3) (.p2 .idx (.e (.lst (.cons (.q (.c (.int 1))) (.cons (.q (.c (.int 4))) (.cons (.q (.c (.int 10000))) .nil))))) (.e (.call 9 (.v 0 (.e (.q (.c (.int 3))) .nil)))))) (.cons (.asg (.n 4) (.lst .nil)) (.cons (.for_ (.n 5) (.rng1 (.q (.v 1))) (.cons (.app 4 (.tup (.cons (.call 9 (.v 0 (.v 3 .nil))) (.cons (.popAt 2 (.call 9 (.v 0 (.e (.q (.p1 .len (.v 2))) .nil)))) .nil)))) .nil)) (.cons (.ret (.q (.p1 .tuple (.v 4)))) .nil)))))⟩
def r13 : NV.FnR := ⟨"_law_rounds", ["draws", "ports"], ["draws", "ports", "style", "always", "found", "step", "asks"], (.cons (.asg (.n 2) (.call 9 (.v 0 (.e (.q (.c (.int 3))) .nil)))) (.cons (.asg (.n 3) (.call 11 (.v 0 (.v 1 (.e (.q (.c (.int 2))) .nil))))) (.cons (.asg (.n 4) (.lst .nil)) (.cons (.for_ (.n 5) (.rng1 (.p2 .add (.q (.c (.int 1))) (.e (.call 9 (.v 0 (.e (.p2 .idx (.e (.lst (.cons (.q (.c (.int 4))) (.cons (.q (.c (.int 12))) (.cons (.q (.c (.int 40))) .nil))))) (.e (.call 9 (.v 0 (.e (.q (.c (.int 3))) .nil))))) .nil)))))) (.cons (.asg (.n 6) (.call 11 (.v 0 (.v 1 (.e (.q (.c (.int 2))) .nil))))) (.cons (.if_ (.q (.p2 .eq (.v 2) (.c (.int 1)))) (.cons (.asg (.n 6) (.q (.p1 .tuple (.p1 .sset (.p2 .add (.v 6) (.v 3)))))) .nil) .nil) (.cons (.if_ (.q (.p2 .eq (.v 2) (.c (.int 2)))) (.cons (.asg (.n 6) (.lrg false (.q (.v 1)))) .nil) .nil) (.cons (.app 4 (.q (.v 6))) .nil))))) (.cons (.ret (.q (.p1 .tuple (.v 4)))) .nil)))))⟩
def r14 : NV.FnR := ⟨"_law_is_place", ["place", "ports"], ["place", "ports"], (.cons (.ret (.and_ (.q (.p1 .isInt (.v 0))) (.and_ (.not_ (.q (.p1 .isBool (.v 0)))) (.and_ (.q (.p2 .le (.c (.int 0)) (.v 0))) (.q (.p2 .lt (.v 0) (.v 1))))))) .nil)⟩
def r15 : NV.FnR := ⟨"_law_turns_fair", ["draws", "rounds", "ports"], ["draws", "rounds", "ports", "turn", "most", "ahead", "asks", "place", "own"], (.cons (.asg (.n 3) (.call 9 (.v 0 (.v 2 .nil)))) (.cons (.asg (.n 4) (.call 4 (.v 2 .nil))) (.cons (.if_ (.not_ (.call 10 (.v 4 (.e (.q (.p2 .sub (.v 2) (.c (.int 1)))) .nil)))) (.cons (.ret (.q (.c (.bl false)))) .nil) .nil) (.cons (.asg (.n 5) (.comp [7] (.n 7) (.rng1 (.q (.v 2))) (.lst .nil))) (.cons (.for_ (.n 6) (.v 1) (.cons (.asg (.n 7) (.call 2 (.e (.q (.c (.str "turns"))) (.v 6 (.v 3 (.e (.call 12 (.v 0 (.e (.q (.p1 .len (.v 6))) .nil))) .nil)))))) (.cons (.if_ (.or_ (.not_ (.call 14 (.v 7 (.v 2 .nil)))) (.q (.p2 .notin (.v 7) (.v 6)))) (.cons (.ret (.q (.c (.bl false)))) .nil) .nil) (.cons (.for_ (.n 8) (.rng1 (.q (.v 2))) (.cons (.if_ (.or_ (.q (.p2 .eq (.v 8) (.v 7))) (.q (.p2 .notin (.v 8) (.v 6)))) (.cons (.sset 5 (.v 8) (.lst .nil)) .nil) (.cons (.sset 5 (.v 8) (.p2 .add (.q (.p2 .idx (.v 5) (.v 8))) (.q (.l1 (.v 7))))) .nil)) (.cons (.if_ (.or_ (.q (.p2 .gt (.p1 .len (.p2 .idx (.v 5) (.v 8))) (.v 4))) (.q (.p2 .lt (.p1 .nset (.p2 .idx (.v 5) (.v 8))) (.p1 .len (.p2 .idx (.v 5) (.v 8)))))) (.cons (.ret (.q (.c (.bl false)))) .nil) .nil) .nil))) (.cons (.asg (.n 3) (.call 3 (.e (.q (.c (.str "turns"))) (.v 7 (.v 2 (.v 3 .nil)))))) (.cons (.if_ (.not_ (.call 14 (.v 3 (.v 2 .nil)))) (.cons (.ret (.q (.c (.bl false)))) .nil) .nil) .nil)))))) (.cons (.ret (.q (.c (.bl true)))) .nil))))))⟩
def r16 : NV.FnR := ⟨"_law_all_come", ["draws", "asks", "ports"], ["draws", "asks", "ports", "turn", "found", "step", "first", "at", "place", "own"], (.cons (.asg (.n 3) (.call 9 (.v 0 (.v 2 .nil)))) (.cons (.asg (.n 4) (.lst .nil)) (.cons (.for_ (.n 5) (.rng1 (.q (.p2 .mul (.c (.int 2)) (.p1 .len (.v 1))))) (.cons (.asg (.n 8) (.call 2 (.e (.q (.c (.str "turns"))) (.v 1 (.v 3 (.e (.p1 .tuple (.e (.comp [9] (.n 9) (.v 1) (.tup (.cons (.q (.c (.int 0))) (.cons (.q (.v 9)) .nil)))))) .nil)))))) (.cons (.if_ (.or_ (.not_ (.call 14 (.v 8 (.v 2 .nil)))) (.q (.p2 .notin (.v 8) (.v 1)))) (.cons (.ret (.q (.c (.bl false)))) .nil) .nil) (.cons (.app 4 (.q (.v 8))) (.cons (.asg (.n 3) (.call 3 (.e (.q (.c (.str "turns"))) (.v 8 (.v 2 (.v 3 .nil)))))) (.cons (.if_ (.not_ (.call 10 (.v 3 (.e (.q (.p2 .mod (.p1 .int (.p2 .add (.v 8) (.c (.int 1)))) (.v 2))) .nil)))) (.cons (.ret (.q (.c (.bl false)))) .nil) .nil) .nil)))))) (.cons (.asg (.n 6) (.sl (.v 4) .no (.yes (.p1 .len (.v 1))))) (.cons (.asg (.n 7) (.index (.v 6) (.p1 .min (.v 6)))) (.cons (.ret (.and_ (.q (.p2 .eq (.v 4) (.p2 .add (.v 6) (.v 6)))) (.p2 .eq (.e (.p2 .add (.e (.sl (.v 6) (.yes (.v 7)) .no)) (.e (.sl (.v 6) .no (.yes (.v 7)))))) (.q (.p1 .list (.v 1)))))) .nil))))))⟩
def r17 : NV.FnR := ⟨"_law_oldest_fair", ["draws", "rounds", "ports"], ["draws", "rounds", "ports", "number", "ages", "asks", "place", "own"], (.cons (.asg (.n 3) (.q (.v 2))) (.cons (.asg (.n 4) (.comp [7] (.n 7) (.rng1 (.q (.v 2))) (.tup (.cons (.call 9 (.v 0 (.e (.q (.c (.int 3))) .nil))) (.cons (.q (.v 7)) .nil))))) (.cons (.for_ (.n 5) (.v 1) (.cons (.asg (.n 6) (.call 2 (.e (.q (.c (.str "oldest"))) (.v 5 (.e (.call 9 (.v 0 (.v 2 .nil))) (.e (.p1 .tuple (.e (.comp [7] (.n 7) (.v 5) (.q (.p2 .idx (.v 4) (.v 7)))))) .nil)))))) (.cons (.if_ (.or_ (.not_ (.call 14 (.v 6 (.v 2 .nil)))) (.q (.p2 .notin (.v 6) (.v 5)))) (.cons (.ret (.q (.c (.bl false)))) .nil) .nil) (.cons (.if_ (.p2 .gt (.e (.p1 .len (.e (.compIf [7] (.n 7) (.v 5) (.q (.p2 .lt (.p2 .idx (.v 4) (.v 7)) (.p2 .idx (.v 4) (.v 6)))) (.q (.v 7)))))) (.q (.c (.int 0)))) (.cons (.ret (.q (.c (.bl false)))) .nil) .nil) (.cons (.if_ (.not_ (.call 10 (.e (.call 3 (.e (.q (.c (.str "oldest"))) (.v 6 (.v 2 (.e (.q (.p2 .mod (.p1 .int (.v 6)) (.v 2))) .nil))))) (.v 6 .nil)))) (.cons (.ret (.q (.c (.bl false)))) .nil) .nil) (.cons (.sset 4 (.v 6) (.tup (.cons (.q (.p2 .add (.c (.int 3)) (.v 3))) (.cons (.q (.v 3)) .nil)))) (.cons (.asg (.n 3) (.q (.p2 .add (.v 3) (.c (.int 1))))) .nil))))))) (.cons (.ret (.q (.c (.bl true)))) .nil))))⟩
def r18 : NV.FnR := ⟨"_law_fixed_unfair", ["draws", "rounds", "ports"], ["draws", "rounds", "ports", "served", "asks", "many", "due", "own", "turn", "place"], (.cons (.asg (.n 3) (.lst .nil)) (.cons (.for_ (.n 4) (.v 1) (.cons (.asg (.n 8) (.call 9 (.v 0 (.v 2 .nil)))) (.cons (.asg (.n 9) (.call 2 (.e (.q (.c (.str "fixed"))) (.v 4 (.v 8 (.e (.call 12 (.v 0 (.e (.q (.p1 .len (.v 4))) .nil))) .nil)))))) (.cons (.if_ (.or_ (.not_ (.call 10 (.v 9 (.e (.q (.p1 .min (.v 4))) .nil)))) (.not_ (.call 10 (.e (.call 3 (.e (.q (.c (.str "fixed"))) (.v 9 (.v 2 (.v 8 .nil))))) (.v 8 .nil))))) (.cons (.ret (.q (.c (.bl false)))) .nil) .nil) (.cons (.app 3 (.q (.v 9))) .nil))))) (.cons (.asg (.n 5) (.p2 .add (.q (.c (.int 1))) (.e (.call 9 (.v 0 (.e (.q (.p1 .len (.v 1))) .nil)))))) (.cons (.asg (.n 6) (.lst .nil)) (.cons (.for_ (.n 7) (.rng1 (.q (.v 2))) (.cons (.if_ (.and_ (.p2 .notin (.v 7) (.e (.sl (.v 3) .no (.yes (.v 5))))) (.p2 .eq (.e (.p1 .len (.e (.compIf [4] (.n 4) (.e (.sl (.v 1) .no (.yes (.v 5)))) (.q (.p2 .isin (.v 7) (.v 4))) (.q (.v 4)))))) (.v 5))) (.cons (.app 6 (.q (.v 7))) .nil) .nil) .nil)) (.cons (.ret (.call 10 (.e (.call 6 (.v 1 (.v 5 .nil))) (.e (.q (.p1 .tuple (.v 6))) .nil)))) .nil))))))⟩
def r19 : NV.FnR := ⟨"_law_shares_fair", ["draws", "ports"], ["draws", "ports", "rounds", "told", "one"], (.cons (.asg (.n 2) (.p2 .add (.q (.c (.int 1))) (.e (.call 9 (.v 0 (.e (.q (.c (.int 400))) .nil)))))) (.cons (.asg (.n 3) (.call 7 (.e (.q (.c (.str "turns"))) (.v 1 (.v 2 .nil))))) (.cons (.if_ (.or_ (.not_ (.q (.p1 .isTuple (.v 3)))) (.or_ (.q (.p2 .ne (.p1 .len (.v 3)) (.v 1))) (.p2 .gt (.e (.p1 .len (.e (.compIf [4] (.n 4) (.v 3) (.or_ (.not_ (.q (.p1 .isInt (.v 4)))) (.q (.p1 .isBool (.v 4)))) (.q (.v 4)))))) (.q (.c (.int 0)))))) (.cons (.ret (.q (.c (.bl false)))) .nil) .nil) (.cons (.if_ (.or_ (.q (.p2 .ne (.p1 .sum (.v 3)) (.v 2))) (.or_ (.q (.p2 .gt (.p2 .sub (.p1 .max (.v 3)) (.p1 .min (.v 3))) (.c (.int 1)))) (.q (.p2 .ne (.p1 .list (.v 3)) (.p1 .sortedR (.v 3)))))) (.cons (.ret (.q (.c (.bl false)))) .nil) .nil) (.cons (.ret (.and_ (.call 10 (.e (.call 7 (.e (.q (.c (.str "oldest"))) (.v 1 (.v 2 .nil)))) (.e (.p2 .add (.e (.rw (.cons (.q (.v 2)) .nil))) (.e (.p2 .mul (.e (.rw (.cons (.q (.c (.int 0))) .nil))) (.q (.p2 .sub (.v 1) (.c (.int 1))))))) .nil))) (.call 10 (.e (.call 7 (.e (.q (.c (.str "fixed"))) (.v 1 (.v 2 .nil)))) (.e (.p2 .add (.e (.rw (.cons (.q (.v 2)) .nil))) (.e (.p2 .mul (.e (.rw (.cons (.q (.c (.int 0))) .nil))) (.q (.p2 .sub (.v 1) (.c (.int 1))))))) .nil))))) .nil)))))⟩
def r20 : NV.FnR := ⟨"law", ["script"], ["script", "draws", "most", "rounds", "turn", "found", "asks", "ports", "place", "own"], (.cons (.asg (.n 1) (.call 8 (.v 0 (.e (.q (.c (.int 2400))) .nil)))) (.cons (.for_ (.n 2) (.e (.lst (.cons (.q (.c (.int 3))) (.cons (.q (.c (.int 7))) .nil)))) (.cons (.asg (.n 7) (.p2 .add (.q (.c (.int 1))) (.e (.call 9 (.v 1 (.v 2 .nil)))))) (.cons (.asg (.n 3) (.call 13 (.v 1 (.v 7 .nil)))) (.cons (.if_ (.or_ (.not_ (.call 15 (.v 1 (.v 3 (.v 7 .nil))))) (.not_ (.call 16 (.v 1 (.e (.q (.p2 .idx (.v 3) (.p1 .neg (.c (.int 1))))) (.v 7 .nil)))))) (.cons (.ret (.q (.c (.bl false)))) .nil) .nil) (.cons (.if_ (.or_ (.not_ (.call 17 (.v 1 (.v 3 (.v 7 .nil))))) (.or_ (.not_ (.call 18 (.v 1 (.v 3 (.v 7 .nil))))) (.not_ (.call 19 (.v 1 (.v 7 .nil)))))) (.cons (.ret (.q (.c (.bl false)))) .nil) .nil) .nil))))) (.cons (.asg (.n 3) (.rw (.cons (.rw (.cons (.q (.c (.int 0))) (.cons (.q (.c (.int 1))) (.cons (.q (.c (.int 2))) .nil)))) (.cons (.rw (.cons (.q (.c (.int 0))) (.cons (.q (.c (.int 1))) (.cons (.q (.c (.int 2))) .nil)))) (.cons (.rw (.cons (.q (.c (.int 0))) (.cons (.q (.c (.int 2))) .nil))) (.cons (.rw (.cons (.q (.c (.int 1))) (.cons (.q (.c (.int 2))) .nil))) .nil)))))) (.cons (.asg (.n 4) (.q (.c (.int 1)))) (.cons (.asg (.n 5) (.lst .nil)) (.cons (.for_ (.n 6) (.v 3) (.cons (.asg (.n 8) (.call 2 (.e (.q (.c (.str "turns"))) (.v 6 (.v 4 (.e (.p1 .tuple (.e (.comp [9] (.n 9) (.v 6) (.tup (.cons (.q (.p2 .sub (.c (.int 9)) (.v 9))) (.cons (.q (.v 9)) .nil)))))) .nil)))))) (.cons (.if_ (.not_ (.call 14 (.v 8 (.e (.q (.c (.int 3))) .nil)))) (.cons (.ret (.q (.c (.bl false)))) .nil) .nil) (.cons (.app 5 (.q (.v 8))) (.cons (.asg (.n 4) (.call 3 (.e (.q (.c (.str "turns"))) (.v 8 (.e (.q (.c (.int 3))) (.v 4 .nil)))))) .nil))))) (.cons (.ret (.and_ (.p2 .eq (.v 5) (.e (.lst (.cons (.q (.c (.int 1))) (.cons (.q (.c (.int 2))) (.cons (.q (.c (.int 0))) (.cons (.q (.c (.int 1))) .nil))))))) (.and_ (.call 10 (.v 4 (.e (.q (.c (.int 2))) .nil))) (.and_ (.call 10 (.e (.call 6 (.v 3 (.e (.q (.c (.int 4))) .nil))) (.e (.rw (.cons (.q (.c (.int 2))) .nil)) .nil))) (.call 10 (.e (.call 7 (.e (.q (.c (.str "turns"))) (.e (.q (.c (.int 3))) (.e (.q (.c (.int 8))) .nil)))) (.e (.rw (.cons (.q (.c (.int 3))) (.cons (.q (.c (.int 3))) (.cons (.q (.c (.int 2))) .nil)))) .nil))))))) .nil)))))))⟩
def tb : List NV.FnR := [r0, r1, r2, r3, r4, r5, r6, r7, r8, r9, r10, r11, r12, r13, r14, r15, r16, r17, r18, r19, r20]
end K42

set_option Elab.async false
set_option linter.all false
set_option maxRecDepth 100000
set_option maxHeartbeats 0
namespace K42
open PySem PySem.Spec L2
def topS (i : Nat) : Stmt := PySem.Challenge.pw_neverwedged_k42_whole_turns_are_fair.main.body.getD i (.Pass ⟨0, 0, 0, 0⟩)
abbrev s0 : Stmt := topS 1
abbrev s1 : Stmt := topS 2
abbrev s2 : Stmt := topS 3
abbrev s3 : Stmt := topS 4
abbrev s4 : Stmt := topS 5
abbrev s5 : Stmt := topS 6
abbrev s6 : Stmt := topS 7
abbrev s7 : Stmt := topS 8
abbrev s8 : Stmt := topS 10
abbrev s9 : Stmt := topS 11
abbrev s10 : Stmt := topS 12
abbrev s11 : Stmt := topS 13
abbrev s12 : Stmt := topS 14
abbrev s13 : Stmt := topS 15
abbrev s14 : Stmt := topS 16
abbrev s15 : Stmt := topS 17
abbrev s16 : Stmt := topS 18
abbrev s17 : Stmt := topS 19
abbrev s18 : Stmt := topS 20
abbrev s19 : Stmt := topS 21
abbrev s20 : Stmt := topS 22
theorem sc0 : FnScope r0.ns r0.ps (defScope s0) := ⟨rfl, rfl, rfl, by decide +kernel, rfl, by decide +kernel, by decide +kernel⟩
theorem ma0 : NV.mSs tb r0.ns (defScope s0) r0.body (defBody s0) = true := by decide +kernel
theorem sc1 : FnScope r1.ns r1.ps (defScope s1) := ⟨rfl, rfl, rfl, by decide +kernel, rfl, by decide +kernel, by decide +kernel⟩
theorem ma1 : NV.mSs tb r1.ns (defScope s1) r1.body (defBody s1) = true := by decide +kernel
theorem sc2 : FnScope r2.ns r2.ps (defScope s2) := ⟨rfl, rfl, rfl, by decide +kernel, rfl, by decide +kernel, by decide +kernel⟩
theorem ma2 : NV.mSs tb r2.ns (defScope s2) r2.body (defBody s2) = true := by decide +kernel
theorem sc3 : FnScope r3.ns r3.ps (defScope s3) := ⟨rfl, rfl, rfl, by decide +kernel, rfl, by decide +kernel, by decide +kernel⟩
theorem ma3 : NV.mSs tb r3.ns (defScope s3) r3.body (defBody s3) = true := by decide +kernel
theorem sc4 : FnScope r4.ns r4.ps (defScope s4) := ⟨rfl, rfl, rfl, by decide +kernel, rfl, by decide +kernel, by decide +kernel⟩
theorem ma4 : NV.mSs tb r4.ns (defScope s4) r4.body (defBody s4) = true := by decide +kernel
theorem sc5 : FnScope r5.ns r5.ps (defScope s5) := ⟨rfl, rfl, rfl, by decide +kernel, rfl, by decide +kernel, by decide +kernel⟩
theorem ma5 : NV.mSs tb r5.ns (defScope s5) r5.body (defBody s5) = true := by decide +kernel
theorem sc6 : FnScope r6.ns r6.ps (defScope s6) := ⟨rfl, rfl, rfl, by decide +kernel, rfl, by decide +kernel, by decide +kernel⟩
theorem ma6 : NV.mSs tb r6.ns (defScope s6) r6.body (defBody s6) = true := by decide +kernel
theorem sc7 : FnScope r7.ns r7.ps (defScope s7) := ⟨rfl, rfl, rfl, by decide +kernel, rfl, by decide +kernel, by decide +kernel⟩
theorem ma7 : NV.mSs tb r7.ns (defScope s7) r7.body (defBody s7) = true := by decide +kernel
theorem sc8 : FnScope r8.ns r8.ps (defScope s8) := ⟨rfl, rfl, rfl, by decide +kernel, rfl, by decide +kernel, by decide +kernel⟩
theorem ma8 : NV.mSs tb r8.ns (defScope s8) r8.body (defBody s8) = true := by decide +kernel
theorem sc9 : FnScope r9.ns r9.ps (defScope s9) := ⟨rfl, rfl, rfl, by decide +kernel, rfl, by decide +kernel, by decide +kernel⟩
theorem ma9 : NV.mSs tb r9.ns (defScope s9) r9.body (defBody s9) = true := by decide +kernel
theorem sc10 : FnScope r10.ns r10.ps (defScope s10) := ⟨rfl, rfl, rfl, by decide +kernel, rfl, by decide +kernel, by decide +kernel⟩
theorem ma10 : NV.mSs tb r10.ns (defScope s10) r10.body (defBody s10) = true := by decide +kernel
theorem sc11 : FnScope r11.ns r11.ps (defScope s11) := ⟨rfl, rfl, rfl, by decide +kernel, rfl, by decide +kernel, by decide +kernel⟩
theorem ma11 : NV.mSs tb r11.ns (defScope s11) r11.body (defBody s11) = true := by decide +kernel
theorem sc12 : FnScope r12.ns r12.ps (defScope s12) := ⟨rfl, rfl, rfl, by decide +kernel, rfl, by decide +kernel, by decide +kernel⟩
theorem ma12 : NV.mSs tb r12.ns (defScope s12) r12.body (defBody s12) = true := by decide +kernel
theorem sc13 : FnScope r13.ns r13.ps (defScope s13) := ⟨rfl, rfl, rfl, by decide +kernel, rfl, by decide +kernel, by decide +kernel⟩
theorem ma13 : NV.mSs tb r13.ns (defScope s13) r13.body (defBody s13) = true := by decide +kernel
theorem sc14 : FnScope r14.ns r14.ps (defScope s14) := ⟨rfl, rfl, rfl, by decide +kernel, rfl, by decide +kernel, by decide +kernel⟩
theorem ma14 : NV.mSs tb r14.ns (defScope s14) r14.body (defBody s14) = true := by decide +kernel
theorem sc15 : FnScope r15.ns r15.ps (defScope s15) := ⟨rfl, rfl, rfl, by decide +kernel, rfl, by decide +kernel, by decide +kernel⟩
theorem ma15 : NV.mSs tb r15.ns (defScope s15) r15.body (defBody s15) = true := by decide +kernel
theorem sc16 : FnScope r16.ns r16.ps (defScope s16) := ⟨rfl, rfl, rfl, by decide +kernel, rfl, by decide +kernel, by decide +kernel⟩
theorem ma16 : NV.mSs tb r16.ns (defScope s16) r16.body (defBody s16) = true := by decide +kernel
theorem sc17 : FnScope r17.ns r17.ps (defScope s17) := ⟨rfl, rfl, rfl, by decide +kernel, rfl, by decide +kernel, by decide +kernel⟩
theorem ma17 : NV.mSs tb r17.ns (defScope s17) r17.body (defBody s17) = true := by decide +kernel
theorem sc18 : FnScope r18.ns r18.ps (defScope s18) := ⟨rfl, rfl, rfl, by decide +kernel, rfl, by decide +kernel, by decide +kernel⟩
theorem ma18 : NV.mSs tb r18.ns (defScope s18) r18.body (defBody s18) = true := by decide +kernel
theorem sc19 : FnScope r19.ns r19.ps (defScope s19) := ⟨rfl, rfl, rfl, by decide +kernel, rfl, by decide +kernel, by decide +kernel⟩
theorem ma19 : NV.mSs tb r19.ns (defScope s19) r19.body (defBody s19) = true := by decide +kernel
theorem sc20 : FnScope r20.ns r20.ps (defScope s20) := ⟨rfl, rfl, rfl, by decide +kernel, rfl, by decide +kernel, by decide +kernel⟩
theorem ma20 : NV.mSs tb r20.ns (defScope s20) r20.body (defBody s20) = true := by decide +kernel
theorem all_mk {l : PySem.W.OpenLaw} {fu k : Nat} {w : World} {K : PySem.W.Frag} {h : Heap} {mg : Str → Option Value} {fa f0 f1 f2 f3 f4 f5 f6 f7 f8 f9 f10 f11 f12 f13 f14 f15 f16 f17 f18 f19 f20 : Addr} (X : K.In h) (G : h.Ns mainGlobals mg) (hfa : mg "law" = some (.ref fa))
    {od0 an0 od1 an1 od2 an2 od3 an3 od4 an4 od5 an5 od6 an6 od7 an7 od8 an8 od9 an9 od10 an10 od11 an11 od12 an12 od13 an13 od14 an14 od15 an15 od16 an16 od17 an17 od18 an18 od19 an19 od20 an20 : Option Addr} {sl0 sl1 sl2 sl3 sl4 sl5 sl6 sl7 sl8 sl9 sl10 sl11 sl12 sl13 sl14 sl15 sl16 sl17 sl18 sl19 sl20 : Array (Option Value)} {oc0 kV0 dc0 pm0 cd0 ct0 oc1 kV1 dc1 pm1 cd1 ct1 oc2 kV2 dc2 pm2 cd2 ct2 oc3 kV3 dc3 pm3 cd3 ct3 oc4 kV4 dc4 pm4 cd4 ct4 oc5 kV5 dc5 pm5 cd5 ct5 oc6 kV6 dc6 pm6 cd6 ct6 oc7 kV7 dc7 pm7 cd7 ct7 oc8 kV8 dc8 pm8 cd8 ct8 oc9 kV9 dc9 pm9 cd9 ct9 oc10 kV10 dc10 pm10 cd10 ct10 oc11 kV11 dc11 pm11 cd11 ct11 oc12 kV12 dc12 pm12 cd12 ct12 oc13 kV13 dc13 pm13 cd13 ct13 oc14 kV14 dc14 pm14 cd14 ct14 oc15 kV15 dc15 pm15 cd15 ct15 oc16 kV16 dc16 pm16 cd16 ct16 oc17 kV17 dc17 pm17 cd17 ct17 oc18 kV18 dc18 pm18 cd18 ct18 oc19 kV19 dc19 pm19 cd19 ct19 oc20 kV20 dc20 pm20 cd20 ct20 : Value}
    (a0 : PySem.W.nsIn K mainGlobals "place_by_turns" = some (some (.ref f0))) (l0 : K.lookup f0 = some ⟨oc0, od0, .func (PySem.W.fnOf "place_by_turns" "place_by_turns" (defArgs s0) (defBody s0) (defScope s0) .none kV0 dc0 pm0 an0 cd0 ct0), sl0⟩) (c0 : PySem.W.codeIn K cd0 "place_by_turns" = true) (k0 : PySem.W.keepIn K (.ref f0) = true)
    (a1 : PySem.W.nsIn K mainGlobals "place_by_ages" = some (some (.ref f1))) (l1 : K.lookup f1 = some ⟨oc1, od1, .func (PySem.W.fnOf "place_by_ages" "place_by_ages" (defArgs s1) (defBody s1) (defScope s1) .none kV1 dc1 pm1 an1 cd1 ct1), sl1⟩) (c1 : PySem.W.codeIn K cd1 "place_by_ages" = true) (k1 : PySem.W.keepIn K (.ref f1) = true)
    (a2 : PySem.W.nsIn K mainGlobals "granted" = some (some (.ref f2))) (l2 : K.lookup f2 = some ⟨oc2, od2, .func (PySem.W.fnOf "granted" "granted" (defArgs s2) (defBody s2) (defScope s2) .none kV2 dc2 pm2 an2 cd2 ct2), sl2⟩) (c2 : PySem.W.codeIn K cd2 "granted" = true) (k2 : PySem.W.keepIn K (.ref f2) = true)
    (a3 : PySem.W.nsIn K mainGlobals "turn_behind" = some (some (.ref f3))) (l3 : K.lookup f3 = some ⟨oc3, od3, .func (PySem.W.fnOf "turn_behind" "turn_behind" (defArgs s3) (defBody s3) (defScope s3) .none kV3 dc3 pm3 an3 cd3 ct3), sl3⟩) (c3 : PySem.W.codeIn K cd3 "turn_behind" = true) (k3 : PySem.W.keepIn K (.ref f3) = true)
    (a4 : PySem.W.nsIn K mainGlobals "waits_at_most" = some (some (.ref f4))) (l4 : K.lookup f4 = some ⟨oc4, od4, .func (PySem.W.fnOf "waits_at_most" "waits_at_most" (defArgs s4) (defBody s4) (defScope s4) .none kV4 dc4 pm4 an4 cd4 ct4), sl4⟩) (c4 : PySem.W.codeIn K cd4 "waits_at_most" = true) (k4 : PySem.W.keepIn K (.ref f4) = true)
    (a5 : PySem.W.nsIn K mainGlobals "ask_always" = some (some (.ref f5))) (l5 : K.lookup f5 = some ⟨oc5, od5, .func (PySem.W.fnOf "ask_always" "ask_always" (defArgs s5) (defBody s5) (defScope s5) .none kV5 dc5 pm5 an5 cd5 ct5), sl5⟩) (c5 : PySem.W.codeIn K cd5 "ask_always" = true) (k5 : PySem.W.keepIn K (.ref f5) = true)
    (a6 : PySem.W.nsIn K mainGlobals "starved" = some (some (.ref f6))) (l6 : K.lookup f6 = some ⟨oc6, od6, .func (PySem.W.fnOf "starved" "starved" (defArgs s6) (defBody s6) (defScope s6) .none kV6 dc6 pm6 an6 cd6 ct6), sl6⟩) (c6 : PySem.W.codeIn K cd6 "starved" = true) (k6 : PySem.W.keepIn K (.ref f6) = true)
    (a7 : PySem.W.nsIn K mainGlobals "shares_of" = some (some (.ref f7))) (l7 : K.lookup f7 = some ⟨oc7, od7, .func (PySem.W.fnOf "shares_of" "shares_of" (defArgs s7) (defBody s7) (defScope s7) .none kV7 dc7 pm7 an7 cd7 ct7), sl7⟩) (c7 : PySem.W.codeIn K cd7 "shares_of" = true) (k7 : PySem.W.keepIn K (.ref f7) = true)
    (a8 : PySem.W.nsIn K mainGlobals "_law_draws" = some (some (.ref f8))) (l8 : K.lookup f8 = some ⟨oc8, od8, .func (PySem.W.fnOf "_law_draws" "_law_draws" (defArgs s8) (defBody s8) (defScope s8) .none kV8 dc8 pm8 an8 cd8 ct8), sl8⟩) (c8 : PySem.W.codeIn K cd8 "_law_draws" = true) (k8 : PySem.W.keepIn K (.ref f8) = true)
    (a9 : PySem.W.nsIn K mainGlobals "_law_take" = some (some (.ref f9))) (l9 : K.lookup f9 = some ⟨oc9, od9, .func (PySem.W.fnOf "_law_take" "_law_take" (defArgs s9) (defBody s9) (defScope s9) .none kV9 dc9 pm9 an9 cd9 ct9), sl9⟩) (c9 : PySem.W.codeIn K cd9 "_law_take" = true) (k9 : PySem.W.keepIn K (.ref f9) = true)
    (a10 : PySem.W.nsIn K mainGlobals "_law_same" = some (some (.ref f10))) (l10 : K.lookup f10 = some ⟨oc10, od10, .func (PySem.W.fnOf "_law_same" "_law_same" (defArgs s10) (defBody s10) (defScope s10) .none kV10 dc10 pm10 an10 cd10 ct10), sl10⟩) (c10 : PySem.W.codeIn K cd10 "_law_same" = true) (k10 : PySem.W.keepIn K (.ref f10) = true)
    (a11 : PySem.W.nsIn K mainGlobals "_law_places" = some (some (.ref f11))) (l11 : K.lookup f11 = some ⟨oc11, od11, .func (PySem.W.fnOf "_law_places" "_law_places" (defArgs s11) (defBody s11) (defScope s11) .none kV11 dc11 pm11 an11 cd11 ct11), sl11⟩) (c11 : PySem.W.codeIn K cd11 "_law_places" = true) (k11 : PySem.W.keepIn K (.ref f11) = true)
    (a12 : PySem.W.nsIn K mainGlobals "_law_ages" = some (some (.ref f12))) (l12 : K.lookup f12 = some ⟨oc12, od12, .func (PySem.W.fnOf "_law_ages" "_law_ages" (defArgs s12) (defBody s12) (defScope s12) .none kV12 dc12 pm12 an12 cd12 ct12), sl12⟩) (c12 : PySem.W.codeIn K cd12 "_law_ages" = true) (k12 : PySem.W.keepIn K (.ref f12) = true)
    (a13 : PySem.W.nsIn K mainGlobals "_law_rounds" = some (some (.ref f13))) (l13 : K.lookup f13 = some ⟨oc13, od13, .func (PySem.W.fnOf "_law_rounds" "_law_rounds" (defArgs s13) (defBody s13) (defScope s13) .none kV13 dc13 pm13 an13 cd13 ct13), sl13⟩) (c13 : PySem.W.codeIn K cd13 "_law_rounds" = true) (k13 : PySem.W.keepIn K (.ref f13) = true)
    (a14 : PySem.W.nsIn K mainGlobals "_law_is_place" = some (some (.ref f14))) (l14 : K.lookup f14 = some ⟨oc14, od14, .func (PySem.W.fnOf "_law_is_place" "_law_is_place" (defArgs s14) (defBody s14) (defScope s14) .none kV14 dc14 pm14 an14 cd14 ct14), sl14⟩) (c14 : PySem.W.codeIn K cd14 "_law_is_place" = true) (k14 : PySem.W.keepIn K (.ref f14) = true)
    (a15 : PySem.W.nsIn K mainGlobals "_law_turns_fair" = some (some (.ref f15))) (l15 : K.lookup f15 = some ⟨oc15, od15, .func (PySem.W.fnOf "_law_turns_fair" "_law_turns_fair" (defArgs s15) (defBody s15) (defScope s15) .none kV15 dc15 pm15 an15 cd15 ct15), sl15⟩) (c15 : PySem.W.codeIn K cd15 "_law_turns_fair" = true) (k15 : PySem.W.keepIn K (.ref f15) = true)
    (a16 : PySem.W.nsIn K mainGlobals "_law_all_come" = some (some (.ref f16))) (l16 : K.lookup f16 = some ⟨oc16, od16, .func (PySem.W.fnOf "_law_all_come" "_law_all_come" (defArgs s16) (defBody s16) (defScope s16) .none kV16 dc16 pm16 an16 cd16 ct16), sl16⟩) (c16 : PySem.W.codeIn K cd16 "_law_all_come" = true) (k16 : PySem.W.keepIn K (.ref f16) = true)
    (a17 : PySem.W.nsIn K mainGlobals "_law_oldest_fair" = some (some (.ref f17))) (l17 : K.lookup f17 = some ⟨oc17, od17, .func (PySem.W.fnOf "_law_oldest_fair" "_law_oldest_fair" (defArgs s17) (defBody s17) (defScope s17) .none kV17 dc17 pm17 an17 cd17 ct17), sl17⟩) (c17 : PySem.W.codeIn K cd17 "_law_oldest_fair" = true) (k17 : PySem.W.keepIn K (.ref f17) = true)
    (a18 : PySem.W.nsIn K mainGlobals "_law_fixed_unfair" = some (some (.ref f18))) (l18 : K.lookup f18 = some ⟨oc18, od18, .func (PySem.W.fnOf "_law_fixed_unfair" "_law_fixed_unfair" (defArgs s18) (defBody s18) (defScope s18) .none kV18 dc18 pm18 an18 cd18 ct18), sl18⟩) (c18 : PySem.W.codeIn K cd18 "_law_fixed_unfair" = true) (k18 : PySem.W.keepIn K (.ref f18) = true)
    (a19 : PySem.W.nsIn K mainGlobals "_law_shares_fair" = some (some (.ref f19))) (l19 : K.lookup f19 = some ⟨oc19, od19, .func (PySem.W.fnOf "_law_shares_fair" "_law_shares_fair" (defArgs s19) (defBody s19) (defScope s19) .none kV19 dc19 pm19 an19 cd19 ct19), sl19⟩) (c19 : PySem.W.codeIn K cd19 "_law_shares_fair" = true) (k19 : PySem.W.keepIn K (.ref f19) = true)
    (a20 : PySem.W.nsIn K mainGlobals "law" = some (some (.ref f20))) (l20 : K.lookup f20 = some ⟨oc20, od20, .func (PySem.W.fnOf "law" "law" (defArgs s20) (defBody s20) (defScope s20) .none kV20 dc20 pm20 an20 cd20 ct20), sl20⟩) (c20 : PySem.W.codeIn K cd20 "law" = true) (k20 : PySem.W.keepIn K (.ref f20) = true)
    (z_len : PySem.W.nsIn K mainGlobals "len" = some none) (z_int : PySem.W.nsIn K mainGlobals "int" = some none) (z_abs : PySem.W.nsIn K mainGlobals "abs" = some none) (z_tuple : PySem.W.nsIn K mainGlobals "tuple" = some none) (z_list : PySem.W.nsIn K mainGlobals "list" = some none) (z_sorted : PySem.W.nsIn K mainGlobals "sorted" = some none) (z_sum : PySem.W.nsIn K mainGlobals "sum" = some none) (z_all : PySem.W.nsIn K mainGlobals "all" = some none) (z_any : PySem.W.nsIn K mainGlobals "any" = some none) (z_min : PySem.W.nsIn K mainGlobals "min" = some none) (z_max : PySem.W.nsIn K mainGlobals "max" = some none) (z_isinstance : PySem.W.nsIn K mainGlobals "isinstance" = some none) (z_bool : PySem.W.nsIn K mainGlobals "bool" = some none) (z_str : PySem.W.nsIn K mainGlobals "str" = some none) (z_range : PySem.W.nsIn K mainGlobals "range" = some none) (z_set : PySem.W.nsIn K mainGlobals "set" = some none) (z_dict : PySem.W.nsIn K mainGlobals "dict" = some none)
    (law : ∀ ns : List Int, ns.length ≤ 63 → ∃ os, NV.run tb fu k 20 [.flst ns] = some (.bl true, os)) :
    ∃ fd : FuncData, (∀ (s : Shared) (v : Value), BindsTo s fd ⟨[v], []⟩ [("script", v)]) ∧ ∀ base : Heap, K.In base → base.Ns mainGlobals mg → L2.FnOk l.prog w K mg base L2.CX0 k fa fd ["script"] (NV.spLaw tb fu k 20 K) := by
  have e := hfa.symm.trans (PySem.W.mg_of X G a20)
  cases e
  have F0 := L2.fun_mk (st := s0) l0 c0 k0
  have F1 := L2.fun_mk (st := s1) l1 c1 k1
  have F2 := L2.fun_mk (st := s2) l2 c2 k2
  have F3 := L2.fun_mk (st := s3) l3 c3 k3
  have F4 := L2.fun_mk (st := s4) l4 c4 k4
  have F5 := L2.fun_mk (st := s5) l5 c5 k5
  have F6 := L2.fun_mk (st := s6) l6 c6 k6
  have F7 := L2.fun_mk (st := s7) l7 c7 k7
  have F8 := L2.fun_mk (st := s8) l8 c8 k8
  have F9 := L2.fun_mk (st := s9) l9 c9 k9
  have F10 := L2.fun_mk (st := s10) l10 c10 k10
  have F11 := L2.fun_mk (st := s11) l11 c11 k11
  have F12 := L2.fun_mk (st := s12) l12 c12 k12
  have F13 := L2.fun_mk (st := s13) l13 c13 k13
  have F14 := L2.fun_mk (st := s14) l14 c14 k14
  have F15 := L2.fun_mk (st := s15) l15 c15 k15
  have F16 := L2.fun_mk (st := s16) l16 c16 k16
  have F17 := L2.fun_mk (st := s17) l17 c17 k17
  have F18 := L2.fun_mk (st := s18) l18 c18 k18
  have F19 := L2.fun_mk (st := s19) l19 c19 k19
  have F20 := L2.fun_mk (st := s20) l20 c20 k20
  have S : NV.Stands K mg tb := by
    refine ⟨fun i f hf => ?_, fun x hx => ?_⟩
    · unfold tb at hf
      cases i with
      | zero => cases hf; exact ⟨_, _, s0, F0, PySem.W.mg_of X G a0, F0.binds (ps := ["asks", "turn"]) fun _ _ _ _ _ _ us hl => match us, hl with | [_, _], _ => rfl, sc0, ma0⟩
      | succ i =>
      cases i with
      | zero => cases hf; exact ⟨_, _, s1, F1, PySem.W.mg_of X G a1, F1.binds (ps := ["asks", "ages"]) fun _ _ _ _ _ _ us hl => match us, hl with | [_, _], _ => rfl, sc1, ma1⟩
      | succ i =>
      cases i with
      | zero => cases hf; exact ⟨_, _, s2, F2, PySem.W.mg_of X G a2, F2.binds (ps := ["kind", "asks", "turn", "ages"]) fun _ _ _ _ _ _ us hl => match us, hl with | [_, _, _, _], _ => rfl, sc2, ma2⟩
      | succ i =>
      cases i with
      | zero => cases hf; exact ⟨_, _, s3, F3, PySem.W.mg_of X G a3, F3.binds (ps := ["kind", "place", "ports", "turn"]) fun _ _ _ _ _ _ us hl => match us, hl with | [_, _, _, _], _ => rfl, sc3, ma3⟩
      | succ i =>
      cases i with
      | zero => cases hf; exact ⟨_, _, s4, F4, PySem.W.mg_of X G a4, F4.binds (ps := ["ports"]) fun _ _ _ _ _ _ us hl => match us, hl with | [_], _ => rfl, sc4, ma4⟩
      | succ i =>
      cases i with
      | zero => cases hf; exact ⟨_, _, s5, F5, PySem.W.mg_of X G a5, F5.binds (ps := ["asks", "rounds"]) fun _ _ _ _ _ _ us hl => match us, hl with | [_, _], _ => rfl, sc5, ma5⟩
      | succ i =>
      cases i with
      | zero => cases hf; exact ⟨_, _, s6, F6, PySem.W.mg_of X G a6, F6.binds (ps := ["asks", "rounds"]) fun _ _ _ _ _ _ us hl => match us, hl with | [_, _], _ => rfl, sc6, ma6⟩
      | succ i =>
      cases i with
      | zero => cases hf; exact ⟨_, _, s7, F7, PySem.W.mg_of X G a7, F7.binds (ps := ["kind", "ports", "rounds"]) fun _ _ _ _ _ _ us hl => match us, hl with | [_, _, _], _ => rfl, sc7, ma7⟩
      | succ i =>
      cases i with
      | zero => cases hf; exact ⟨_, _, s8, F8, PySem.W.mg_of X G a8, F8.binds (ps := ["script", "many"]) fun _ _ _ _ _ _ us hl => match us, hl with | [_, _], _ => rfl, sc8, ma8⟩
      | succ i =>
      cases i with
      | zero => cases hf; exact ⟨_, _, s9, F9, PySem.W.mg_of X G a9, F9.binds (ps := ["draws", "many"]) fun _ _ _ _ _ _ us hl => match us, hl with | [_, _], _ => rfl, sc9, ma9⟩
      | succ i =>
      cases i with
      | zero => cases hf; exact ⟨_, _, s10, F10, PySem.W.mg_of X G a10, F10.binds (ps := ["actual", "due"]) fun _ _ _ _ _ _ us hl => match us, hl with | [_, _], _ => rfl, sc10, ma10⟩
      | succ i =>
      cases i with
      | zero => cases hf; exact ⟨_, _, s11, F11, PySem.W.mg_of X G a11, F11.binds (ps := ["draws", "ports", "rare"]) fun _ _ _ _ _ _ us hl => match us, hl with | [_, _, _], _ => rfl, sc11, ma11⟩
      | succ i =>
      cases i with
      | zero => cases hf; exact ⟨_, _, s12, F12, PySem.W.mg_of X G a12, F12.binds (ps := ["draws", "many"]) fun _ _ _ _ _ _ us hl => match us, hl with | [_, _], _ => rfl, sc12, ma12⟩
      | succ i =>
      cases i with
      | zero => cases hf; exact ⟨_, _, s13, F13, PySem.W.mg_of X G a13, F13.binds (ps := ["draws", "ports"]) fun _ _ _ _ _ _ us hl => match us, hl with | [_, _], _ => rfl, sc13, ma13⟩
      | succ i =>
      cases i with
      | zero => cases hf; exact ⟨_, _, s14, F14, PySem.W.mg_of X G a14, F14.binds (ps := ["place", "ports"]) fun _ _ _ _ _ _ us hl => match us, hl with | [_, _], _ => rfl, sc14, ma14⟩
      | succ i =>
      cases i with
      | zero => cases hf; exact ⟨_, _, s15, F15, PySem.W.mg_of X G a15, F15.binds (ps := ["draws", "rounds", "ports"]) fun _ _ _ _ _ _ us hl => match us, hl with | [_, _, _], _ => rfl, sc15, ma15⟩
      | succ i =>
      cases i with
      | zero => cases hf; exact ⟨_, _, s16, F16, PySem.W.mg_of X G a16, F16.binds (ps := ["draws", "asks", "ports"]) fun _ _ _ _ _ _ us hl => match us, hl with | [_, _, _], _ => rfl, sc16, ma16⟩
      | succ i =>
      cases i with
      | zero => cases hf; exact ⟨_, _, s17, F17, PySem.W.mg_of X G a17, F17.binds (ps := ["draws", "rounds", "ports"]) fun _ _ _ _ _ _ us hl => match us, hl with | [_, _, _], _ => rfl, sc17, ma17⟩
      | succ i =>
      cases i with
      | zero => cases hf; exact ⟨_, _, s18, F18, PySem.W.mg_of X G a18, F18.binds (ps := ["draws", "rounds", "ports"]) fun _ _ _ _ _ _ us hl => match us, hl with | [_, _, _], _ => rfl, sc18, ma18⟩
      | succ i =>
      cases i with
      | zero => cases hf; exact ⟨_, _, s19, F19, PySem.W.mg_of X G a19, F19.binds (ps := ["draws", "ports"]) fun _ _ _ _ _ _ us hl => match us, hl with | [_, _], _ => rfl, sc19, ma19⟩
      | succ i =>
      cases i with
      | zero => cases hf; exact ⟨_, _, s20, F20, PySem.W.mg_of X G a20, F20.binds (ps := ["script"]) fun _ _ _ _ _ _ us hl => match us, hl with | [_], _ => rfl, sc20, ma20⟩
      | succ i =>
      cases hf
    · simp only [NV.bnames, List.mem_cons, List.not_mem_nil, or_false] at hx
      rcases hx with rfl | rfl | rfl | rfl | rfl | rfl | rfl | rfl | rfl | rfl | rfl | rfl | rfl | rfl | rfl | rfl | rfl
      · exact PySem.W.mg_none_of X G z_len
      · exact PySem.W.mg_none_of X G z_int
      · exact PySem.W.mg_none_of X G z_abs
      · exact PySem.W.mg_none_of X G z_tuple
      · exact PySem.W.mg_none_of X G z_list
      · exact PySem.W.mg_none_of X G z_sorted
      · exact PySem.W.mg_none_of X G z_sum
      · exact PySem.W.mg_none_of X G z_all
      · exact PySem.W.mg_none_of X G z_any
      · exact PySem.W.mg_none_of X G z_min
      · exact PySem.W.mg_none_of X G z_max
      · exact PySem.W.mg_none_of X G z_isinstance
      · exact PySem.W.mg_none_of X G z_bool
      · exact PySem.W.mg_none_of X G z_str
      · exact PySem.W.mg_none_of X G z_range
      · exact PySem.W.mg_none_of X G z_set
      · exact PySem.W.mg_none_of X G z_dict
  refine ⟨PySem.W.fnOf "law" "law" (defArgs s20) (defBody s20) (defScope s20) .none kV20 dc20 pm20 an20 cd20 ct20, fun s v => .of_eq rfl, fun base _ _ => ?_⟩
  exact NV.law_ok (f := r20) S rfl (PySem.W.mg_of X G a20) rfl F20 law
end K42

set_option Elab.async false
set_option linter.all false
set_option maxRecDepth 100000
set_option synthInstance.maxSize 2000
namespace K42
open NV
def f_law_places (draws : (List Int)) (ports : Int) (rare : Int) : Option ((List Int) × (List Int)) :=
  (rg ports).bind fun rng =>
  b2 (compS rng draws (fun (s : ((List Int))) (place : Int) => b2 (takeS s rare) fun law_take draws_1 => if (decide (law_take = (0 : Int))) = true then (some (some place, draws_1)) else some (none, draws_1))) fun found draws_2 =>
  b2 (if (decide ((found.length : Int) = (0 : Int))) = true then (b2 (takeS draws_2 ports) fun law_take_1 draws_3 => (snoc found law_take_1).bind fun found_1 => some ((draws_3, found_1))) else (some ((draws_2, found)))) fun draws_4 found_2 =>
  some ((found_2, draws_4))
def f_law_rounds (draws : (List Int)) (ports : Int) : Option ((List (List Int)) × (List Int)) :=
  b2 (takeS draws ((3 : Int))) fun style draws_1 =>
  b2 (f_law_places draws_1 ports ((2 : Int))) fun always draws_2 =>
  lt (([] : (List (List Int)))) fun found =>
  b2 (takeS draws_2 ((3 : Int))) fun law_take draws_3 =>
  (L2.atI (([(4 : Int), (12 : Int), (40 : Int)] : (List Int))) law_take).bind fun at_ =>
  b2 (takeS draws_3 at_) fun law_take_1 draws_4 =>
  (rg (((1 : Int) + law_take_1))).bind fun rng =>
  b2 (forS (fun (s : ((List Int) × (List (List Int)))) (step : Int) => b2 (f_law_places s.1 ports ((2 : Int))) fun asks draws_5 => (if (decide (style = (1 : Int))) = true then ((catS asks always).bind fun cat => (ssetS cat).bind fun set_ => some set_) else (some asks)).bind fun asks_1 => (if (decide (style = (2 : Int))) = true then ((rg ports).bind fun asks_2 => some asks_2) else (some asks_1)).bind fun asks_3 => (snoc s.2 asks_3).bind fun found_1 => some ((draws_5, found_1))) rng ((draws_4, found))) fun draws_6 found_2 =>
  some ((found_2, draws_6))
def f_waits_at_most (ports : Int) : Option (Int) :=
  some ((ports - (1 : Int)))
def f_law_ages (draws : (List Int)) (many : Int) : Option ((List (Int × Int)) × (List Int)) :=
  (rg many).bind fun left =>
  b2 (takeS draws ((3 : Int))) fun law_take draws_1 =>
  (L2.atI (([(1 : Int), (4 : Int), (10000 : Int)] : (List Int))) law_take).bind fun at_ =>
  lt (([] : (List (Int × Int)))) fun found =>
  (rg many).bind fun rng =>
  b3 (forS (fun (s : ((List Int) × (List Int) × (List (Int × Int)))) (k_ : Int) => b2 (takeS s.1 at_) fun law_take_1 draws_2 => b2 (takeS draws_2 ((s.2.1.length : Int))) fun law_take_2 draws_3 => b2 (popA s.2.1 law_take_2) fun pop left_1 => (snoc s.2.2 ((law_take_1, pop))).bind fun found_1 => some ((draws_3, left_1, found_1))) rng ((draws_1, left, found))) fun draws_4 left_2 found_2 =>
  some ((found_2, draws_4))
def f_place_by_turns (asks : (List Int)) (turn : Int) : Option (Int) :=
  (forC (ρ := (Int)) (fun (s : (Unit)) (place : Int) => if (decide (turn ≤ place)) = true then some (Ctl.rt place) else some (Ctl.nx (()))) asks (())).bind fun (c : Ctl (Unit) (Int)) => thenF c fun _ =>
  (L2.atI asks ((0 : Int))).bind fun at_ =>
  some at_
def f_place_by_ages (asks : (List Int)) (ages : (List (Int × Int))) : Option (Int) :=
  (minPS ages).bind fun min_ =>
  (idxS ages min_).bind fun ix =>
  (L2.atI asks ix).bind fun at_ =>
  some at_
def f_granted (kind : PySem.Str) (asks : (List Int)) (turn : Int) (ages : (List (Int × Int))) : Option (Int) :=
  (eqG eS kind (("turns" : PySem.Str))).bind fun eq_ =>
  if eq_ = true then
    (f_place_by_turns asks turn).bind fun place_by_turns =>
    some place_by_turns
  else
  (eqG eS kind (("oldest" : PySem.Str))).bind fun eq_1 =>
  if eq_1 = true then
    (f_place_by_ages asks ages).bind fun place_by_ages =>
    some place_by_ages
  else
  (L2.atI asks ((0 : Int))).bind fun at_ =>
  some at_
def f_law_is_place (place : Int) (ports : Int) : Option (Bool) :=
  some ((true && ((!false) && ((decide ((0 : Int) ≤ place)) && (decide (place < ports))))))
def f_turn_behind (kind : PySem.Str) (place : Int) (ports : Int) (turn : Int) : Option (Int) :=
  (eqG eS kind (("turns" : PySem.Str))).bind fun eq_ =>
  if eq_ = true then
    (modS ((place + (1 : Int))) ports).bind fun mod =>
    some mod
  else
  some turn
def f_law_turns_fair (draws : (List Int)) (rounds : (List (List Int))) (ports : Int) : Option (Bool × (List Int)) :=
  b2 (takeS draws ports) fun turn draws_1 =>
  (f_waits_at_most ports).bind fun most =>
  (sameS eI most ((ports - (1 : Int)))).bind fun same_ =>
  if (!same_) = true then
    some ((false, draws_1))
  else
  (rg ports).bind fun rng =>
  (compO rng (fun (place : Int) => some (([] : (List Int))))).bind fun ahead =>
  (forC (ρ := (Bool × (List Int))) (fun (s : ((List Int) × Int × (List (List Int)))) (asks : (List Int)) => b2 (f_law_ages s.1 ((asks.length : Int))) fun law_ages draws_2 => (f_granted (("turns" : PySem.Str)) asks s.2.1 law_ages).bind fun place_1 => (f_law_is_place place_1 ports).bind fun law_is_place => if ((!law_is_place) || (!decide (place_1 ∈ asks))) = true then some (Ctl.rt ((false, draws_2))) else (rg ports).bind fun rng_1 => (forC (ρ := (Bool × (List Int))) (fun (ahead_1 : ((List (List Int)))) (own_ : Int) => (if ((decide (own_ = place_1)) || (!decide (own_ ∈ asks))) = true then ((setS ahead_1 own_ (([] : (List Int)))).bind fun ahead_2 => some ahead_2) else ((L2.atI ahead_1 own_).bind fun at_ => (catS at_ (([place_1] : (List Int)))).bind fun cat => (setS ahead_1 own_ cat).bind fun ahead_2 => some ahead_2)).bind fun ahead_3 => (L2.atI ahead_3 own_).bind fun at_1 => (if (decide (most < (at_1.length : Int))) = true then (some true) else (L2.atI ahead_3 own_).bind fun at_2 => (nsetS at_2).bind fun nset_ => (L2.atI ahead_3 own_).bind fun at_3 => some ((decide (nset_ < (at_3.length : Int))))).bind fun val => if val = true then some (Ctl.rt ((false, draws_2))) else some (Ctl.nx ahead_3)) rng_1 s.2.2).bind fun (c : Ctl ((List (List Int))) (Bool × (List Int))) => thenC c fun ahead_5 => (f_turn_behind (("turns" : PySem.Str)) place_1 ports s.2.1).bind fun turn_1 => (f_law_is_place turn_1 ports).bind fun law_is_place_1 => if (!law_is_place_1) = true then some (Ctl.rt ((false, draws_2))) else some (Ctl.nx ((draws_2, turn_1, ahead_5)))) rounds ((draws_1, turn, ahead))).bind fun (c_1 : Ctl ((List Int) × Int × (List (List Int))) (Bool × (List Int))) => thenF c_1 fun s_1 =>
  some ((true, s_1.1))
def f_law_all_come (draws : (List Int)) (asks : (List Int)) (ports : Int) : Option (Bool × (List Int)) :=
  b2 (takeS draws ports) fun turn draws_1 =>
  lt (([] : (List Int))) fun found =>
  (rg (((2 : Int) * (asks.length : Int)))).bind fun rng =>
  (forC (ρ := (Bool × (List Int))) (fun (s : (Int × (List Int))) (step : Int) => (compO asks (fun (own_ : Int) => some (((0 : Int), own_)))).bind fun row => (f_granted (("turns" : PySem.Str)) asks s.1 row).bind fun place => (f_law_is_place place ports).bind fun law_is_place => if ((!law_is_place) || (!decide (place ∈ asks))) = true then some (Ctl.rt ((false, draws_1))) else (snoc s.2 place).bind fun found_1 => (f_turn_behind (("turns" : PySem.Str)) place ports s.1).bind fun turn_1 => (modS ((place + (1 : Int))) ports).bind fun mod => (sameS eI turn_1 mod).bind fun same_ => if (!same_) = true then some (Ctl.rt ((false, draws_1))) else some (Ctl.nx ((turn_1, found_1)))) rng ((turn, found))).bind fun (c : Ctl (Int × (List Int)) (Bool × (List Int))) => thenF c fun s_1 =>
  lt ((cut s_1.2 none (some ((asks.length : Int))))) fun first =>
  (minS first).bind fun min_ =>
  (idxS first min_).bind fun at_ =>
  (catS first first).bind fun cat =>
  (if (decide (s_1.2 = cat)) = true then ((catS ((cut first (some at_) none)) ((cut first none (some at_)))).bind fun cat_1 => some ((decide (cat_1 = asks)))) else some false).bind fun val =>
  some ((val, draws_1))
def f_law_oldest_fair (draws : (List Int)) (rounds : (List (List Int))) (ports : Int) : Option (Bool × (List Int)) :=
  (rg ports).bind fun rng =>
  b2 (compS rng draws (fun (s : ((List Int))) (own_ : Int) => b2 (takeS s ((3 : Int))) fun law_take draws_1 => some (some ((law_take, own_)), draws_1))) fun ages draws_2 =>
  (forC (ρ := (Bool × (List Int))) (fun (s_1 : ((List Int) × Int × (List (Int × Int)))) (asks : (List Int)) => b2 (takeS s_1.1 ports) fun law_take_1 draws_3 => (compO asks (fun (own_1 : Int) => (L2.atI s_1.2.2 own_1).bind fun at_ => some at_)).bind fun row => (f_granted (("oldest" : PySem.Str)) asks law_take_1 row).bind fun place => (f_law_is_place place ports).bind fun law_is_place => if ((!law_is_place) || (!decide (place ∈ asks))) = true then some (Ctl.rt ((false, draws_3))) else (compF asks (fun (own_2 : Int) => (L2.atI s_1.2.2 own_2).bind fun at_1 => (L2.atI s_1.2.2 place).bind fun at_2 => some ((ltP at_1 at_2))) (fun (own_2 : Int) => some own_2)).bind fun row_1 => if (decide ((0 : Int) < (row_1.length : Int))) = true then some (Ctl.rt ((false, draws_3))) else (modS place ports).bind fun mod => (f_turn_behind (("oldest" : PySem.Str)) place ports mod).bind fun turn_behind => (sameS eI turn_behind place).bind fun same_ => if (!same_) = true then some (Ctl.rt ((false, draws_3))) else (setS s_1.2.2 place ((((3 : Int) + s_1.2.1), s_1.2.1))).bind fun ages_1 => lt ((s_1.2.1 + (1 : Int))) fun number => some (Ctl.nx ((draws_3, number, ages_1)))) rounds ((draws_2, ports, ages))).bind fun (c : Ctl ((List Int) × Int × (List (Int × Int))) (Bool × (List Int))) => thenF c fun s_2 =>
  some ((true, s_2.1))
def f_ask_always (asks : (List (List Int))) (rounds : Int) : Option ((List Int)) :=
  (L2.atI asks ((0 : Int))).bind fun at_ =>
  (rg2 ((1 : Int)) rounds).bind fun rng =>
  (forS (fun (found : ((List Int))) (at_1 : Int) => (compF found (fun (place : Int) => (L2.atI asks at_1).bind fun at_2 => some ((decide (place ∈ at_2)))) (fun (place : Int) => some place)).bind fun found_1 => some found_1) rng at_).bind fun found_2 =>
  some found_2
def f_starved (asks : (List (List Int))) (rounds : Int) : Option ((List Int)) :=
  lt (([] : (List Int))) fun served =>
  (rg rounds).bind fun rng =>
  (forS (fun (served_1 : ((List Int))) (at_ : Int) => (L2.atI asks at_).bind fun at_1 => if (decide ((0 : Int) < (at_1.length : Int))) = true then (L2.atI asks at_).bind fun at_2 => (f_granted (("fixed" : PySem.Str)) at_2 ((0 : Int)) (([] : (List (Int × Int))))).bind fun granted => (snoc served_1 granted).bind fun served_2 => some served_2 else some served_1) rng served).bind fun served_3 =>
  (f_ask_always asks rounds).bind fun ask_always =>
  (compF ask_always (fun (place : Int) => some ((!decide (place ∈ served_3)))) (fun (place : Int) => some place)).bind fun row =>
  some row
def f_law_fixed_unfair (draws : (List Int)) (rounds : (List (List Int))) (ports : Int) : Option (Bool × (List Int)) :=
  lt (([] : (List Int))) fun served =>
  (forC (ρ := (Bool × (List Int))) (fun (s : ((List Int) × (List Int))) (asks : (List Int)) => b2 (takeS s.1 ports) fun turn draws_1 => b2 (f_law_ages draws_1 ((asks.length : Int))) fun law_ages draws_2 => (f_granted (("fixed" : PySem.Str)) asks turn law_ages).bind fun place => (minS asks).bind fun min_ => (sameS eI place min_).bind fun same_ => (if (!same_) = true then (some true) else (f_turn_behind (("fixed" : PySem.Str)) place ports turn).bind fun turn_behind => (sameS eI turn_behind turn).bind fun same_1 => some ((!same_1))).bind fun val => if val = true then some (Ctl.rt ((false, draws_2))) else (snoc s.2 place).bind fun served_1 => some (Ctl.nx ((draws_2, served_1)))) rounds ((draws, served))).bind fun (c : Ctl ((List Int) × (List Int)) (Bool × (List Int))) => thenF c fun s_1 =>
  b2 (takeS s_1.1 ((rounds.length : Int))) fun law_take draws_4 =>
  lt (((1 : Int) + law_take)) fun many =>
  lt (([] : (List Int))) fun due =>
  (rg ports).bind fun rng =>
  (forS (fun (due_1 : ((List Int))) (own_ : Int) => (if (!decide (own_ ∈ (cut s_1.2 none (some many)))) = true then ((compF ((cut rounds none (some many))) (fun (asks_1 : (List Int)) => some ((decide (own_ ∈ asks_1)))) (fun (asks_1 : (List Int)) => some asks_1)).bind fun row => some ((decide ((row.length : Int) = many)))) else some false).bind fun val_1 => if val_1 = true then (snoc due_1 own_).bind fun due_2 => some due_2 else some due_1) rng due).bind fun due_3 =>
  (f_starved rounds many).bind fun starved =>
  (sameS (eT eI) starved due_3).bind fun same_2 =>
  some ((same_2, draws_4))
def f_shares_of (kind : PySem.Str) (ports : Int) (rounds : Int) : Option ((List Int)) :=
  (eqG eS kind (("turns" : PySem.Str))).bind fun eq_ =>
  if eq_ = true then
    (rg ports).bind fun rng =>
    (compO rng (fun (place : Int) => (divS rounds ports).bind fun div => (modS rounds ports).bind fun mod => some ((div + (if (decide (place < mod)) = true then (1 : Int) else 0))))).bind fun row =>
    some row
  else
  (repT (([(0 : Int)] : (List Int))) ((ports - (1 : Int)))).bind fun rep =>
  (catS (([rounds] : (List Int))) rep).bind fun cat =>
  some cat
def f_law_shares_fair (draws : (List Int)) (ports : Int) : Option (Bool × (List Int)) :=
  b2 (takeS draws ((400 : Int))) fun law_take draws_1 =>
  lt (((1 : Int) + law_take)) fun rounds =>
  (f_shares_of (("turns" : PySem.Str)) ports rounds).bind fun told =>
  (if (!true) = true then (some true) else (if (!decide ((told.length : Int) = ports)) = true then (some true) else (compF told (fun (one : Int) => some (((!true) || false))) (fun (one : Int) => some one)).bind fun row => some ((decide ((0 : Int) < (row.length : Int))))).bind fun val => some val).bind fun val_1 =>
  if val_1 = true then
    some ((false, draws_1))
  else
  (if (!decide (told.sum = rounds)) = true then (some true) else (maxS told).bind fun max_ => (minS told).bind fun min_ => some (((decide ((1 : Int) < (max_ - min_))) || (!decide (told = (isort told).reverse))))).bind fun val_2 =>
  if val_2 = true then
    some ((false, draws_1))
  else
  (f_shares_of (("oldest" : PySem.Str)) ports rounds).bind fun shares_of =>
  (repT (([(0 : Int)] : (List Int))) ((ports - (1 : Int)))).bind fun rep =>
  (catS (([rounds] : (List Int))) rep).bind fun cat =>
  (sameS (eT eI) shares_of cat).bind fun same_ =>
  (if same_ = true then ((f_shares_of (("fixed" : PySem.Str)) ports rounds).bind fun shares_of_1 => (repT (([(0 : Int)] : (List Int))) ((ports - (1 : Int)))).bind fun rep_1 => (catS (([rounds] : (List Int))) rep_1).bind fun cat_1 => (sameS (eT eI) shares_of_1 cat_1).bind fun same_1 => some same_1) else some false).bind fun val_3 =>
  some ((val_3, draws_1))
def f_law (draws : List Int) : Option Bool :=
  (forC (ρ := (Bool)) (fun (draws_1 : ((List Int))) (most : Int) => b2 (takeS draws_1 most) fun law_take draws_2 => lt (((1 : Int) + law_take)) fun ports => b2 (f_law_rounds draws_2 ports) fun rounds draws_3 => b2 (f_law_turns_fair draws_3 rounds ports) fun law_turns_fair draws_4 => b2 (if (!law_turns_fair) = true then (some ((true, draws_4))) else (L2.atI rounds ((-1 : Int))).bind fun at_ => b2 (f_law_all_come draws_4 at_ ports) fun law_all_come draws_5 => some (((!law_all_come), draws_5))) fun val draws_6 => if val = true then some (Ctl.rt false) else b2 (f_law_oldest_fair draws_6 rounds ports) fun law_oldest_fair draws_7 => b2 (if (!law_oldest_fair) = true then (some ((true, draws_7))) else b2 (f_law_fixed_unfair draws_7 rounds ports) fun law_fixed_unfair draws_8 => b2 (if (!law_fixed_unfair) = true then (some ((true, draws_8))) else b2 (f_law_shares_fair draws_8 ports) fun law_shares_fair draws_9 => some (((!law_shares_fair), draws_9))) fun val_1 draws_10 => some ((val_1, draws_10))) fun val_2 draws_11 => if val_2 = true then some (Ctl.rt false) else some (Ctl.nx draws_11)) (([(3 : Int), (7 : Int)] : (List Int))) draws).bind fun (c : Ctl ((List Int)) (Bool)) => thenF c fun draws_13 =>
  lt (([([(0 : Int), (1 : Int), (2 : Int)] : (List Int)), ([(0 : Int), (1 : Int), (2 : Int)] : (List Int)), ([(0 : Int), (2 : Int)] : (List Int)), ([(1 : Int), (2 : Int)] : (List Int))] : (List (List Int)))) fun rounds_1 =>
  lt ((1 : Int)) fun turn =>
  lt (([] : (List Int))) fun found =>
  (forC (ρ := (Bool)) (fun (s : (Int × (List Int))) (asks : (List Int)) => (compO asks (fun (own_ : Int) => some ((((9 : Int) - own_), own_)))).bind fun row => (f_granted (("turns" : PySem.Str)) asks s.1 row).bind fun place => (f_law_is_place place ((3 : Int))).bind fun law_is_place => if (!law_is_place) = true then some (Ctl.rt false) else (snoc s.2 place).bind fun found_1 => (f_turn_behind (("turns" : PySem.Str)) place ((3 : Int)) s.1).bind fun turn_1 => some (Ctl.nx ((turn_1, found_1)))) rounds_1 ((turn, found))).bind fun (c_1 : Ctl (Int × (List Int)) (Bool)) => thenF c_1 fun s_1 =>
  (if (decide (s_1.2 = ([(1 : Int), (2 : Int), (0 : Int), (1 : Int)] : (List Int)))) = true then ((sameS eI s_1.1 ((2 : Int))).bind fun same_ => (if same_ = true then ((f_starved rounds_1 ((4 : Int))).bind fun starved => (sameS (eT eI) starved (([(2 : Int)] : (List Int)))).bind fun same_1 => (if same_1 = true then ((f_shares_of (("turns" : PySem.Str)) ((3 : Int)) ((8 : Int))).bind fun shares_of => (sameS (eT eI) shares_of (([(3 : Int), (3 : Int), (2 : Int)] : (List Int)))).bind fun same_2 => some same_2) else some false).bind fun val_3 => some val_3) else some false).bind fun val_4 => some val_4) else some false).bind fun val_5 =>
  some val_5
end K42

set_option Elab.async false
set_option linter.all false
set_option maxRecDepth 100000
set_option synthInstance.maxSize 2000
set_option maxHeartbeats 0
namespace K42
open NV
def out_law_places (draws : (List Int)) (ports : Int) (rare : Int) (r : ((List Int) × (List Int))) : Val × List (Option Val) := ((eT eI) r.1, [some ((eL eI) r.2), some (eI ports), some (eI rare)])
def fin_law_places (draws : (List Int)) (ports : Int) (rare : Int) (r : ((List Int) × (List Int))) (o : Out) : Prop := finish [3] 3 o = some (out_law_places draws ports rare r)
theorem sim_law_places {fu k : Nat} {draws : (List Int)} {ports : Int} {rare : Int} {r : ((List Int) × (List Int))} (h1 : f_law_places draws ports rare = some r) : run tb fu (k + 2) 11 [(eL eI) draws, eI ports, eI rare] = some (out_law_places draws ports rare r) := by
  refine run_of (f := r11) (tg := [3]) (np := 3) rfl rfl rfl rfl rfl (ρ := [some ((eL eI) draws), some (eI ports), some (eI rare), none, none]) rfl ?_
  show W _ _ _ _ (fin_law_places draws ports rare r)
  unfold f_law_places at h1
  obtain ⟨rng, h2, h11⟩ := bs h1
  clear h1
  obtain ⟨found, draws_2, h10, h12⟩ := bs2 h11
  clear h11
  refine w_asg (ρ2 := [some ((eL eI) draws_2), some (eI ports), some (eI rare), some ((eL eI) found), none]) (by exact (v_compIfS (e := eI) (d := eI) (ρ3 := [some ((eL eI) draws_2), some (eI ports), some (eI rare), none, none]) (fun s : ((List Int)) => [some ((eL eI) s), some (eI ports), some (eI rare), none, none]) (i_rng1 (v_q (q_v rfl) (Im.im imI)) h2) rfl h10 (fun _ => hd_n) (fun s place _ _ h5 => by obtain ⟨law_take, draws_1, h4, h6⟩ := bs2 h5; clear h5; rcases its h6 with ⟨h7, h8⟩ | ⟨h7, h9⟩; {skip; exact t_ifTS (d := eI) (fun s : ((List Int)) => [some ((eL eI) s), some (eI ports), some (eI rare), none, none]) (ρ1 := [some ((eL eI) s), some (eI ports), some (eI rare), none, some (eI place)]) h8 h7 rfl (v_2 (o_e (v_call (ρ2 := [some ((eL eI) draws_1), some (eI ports), some (eI rare), none, some (eI place)]) (as_m (ρ2 := [none, some (eI ports), some (eI rare), none, some (eI place)]) rfl immF_L (as_v rfl (Im.im imI) as_n) rfl rfl) (takeS_of rfl h4) rfl)) (o_q rfl) rfl rfl rfl (r2_eq shI eqvI) (own_im imB)) (v_q (q_v rfl) (Im.im imI)) rfl}; {exact t_ifFS (d := eI) (fun s : ((List Int)) => [some ((eL eI) s), some (eI ports), some (eI rare), none, none]) (ρ1 := [some ((eL eI) s), some (eI ports), some (eI rare), none, some (eI place)]) h9 h7 rfl (v_2 (o_e (v_call (ρ2 := [some ((eL eI) draws_1), some (eI ports), some (eI rare), none, some (eI place)]) (as_m (ρ2 := [none, some (eI ports), some (eI rare), none, some (eI place)]) rfl immF_L (as_v rfl (Im.im imI) as_n) rfl rfl) (takeS_of rfl h4) rfl)) (o_q rfl) rfl rfl rfl (r2_eq shI eqvI) (own_im imB)) rfl}) rfl)) rfl ?_
  obtain ⟨draws_4, found_2, h20, h21⟩ := bs2 h12
  clear h12
  refine w_join (fun ρ => ρ = [some ((eL eI) draws_4), some (eI ports), some (eI rare), some ((eL eI) found_2), none]) ?_ ?_
  · clear h21
    rcases its h20 with ⟨h14, h13⟩ | ⟨h14, h19⟩
    · refine w_ifT (by exact (v_q (q_2 (q_1 (q_v rfl) r1_lenL) rfl (r2_eq shI eqvI)) (Im.im imB))) h14 ?_
      refine w_thru ?_
      obtain ⟨law_take_1, draws_3, h15, h17⟩ := bs2 h13
      clear h13
      obtain ⟨found_1, h16, h18⟩ := bs h17
      clear h17
      refine w_app (el := eI) (ρ2 := [some ((eL eI) draws_3), some (eI ports), some (eI rare), some ((eL eI) found_1), none]) rfl (by exact (v_call (ρ2 := [some ((eL eI) draws_3), some (eI ports), some (eI rare), some ((eL eI) found), none]) (as_m (ρ2 := [none, some (eI ports), some (eI rare), some ((eL eI) found), none]) rfl immF_L (as_v rfl (Im.im imI) as_n) rfl rfl) (takeS_of rfl h15) rfl)) rfl h16 rfl ?_
      refine w_nil ?_
      cases h18
      exact ⟨_, rfl, rfl⟩
    · refine w_ifF (by exact (v_q (q_2 (q_1 (q_v rfl) r1_lenL) rfl (r2_eq shI eqvI)) (Im.im imB))) h14 ?_
      refine w_thru ?_
      refine w_nil ?_
      cases h19
      exact ⟨_, rfl, rfl⟩
  rintro _ rfl
  clear h20
  refine w_ret (by exact (v_q (q_1 (q_v rfl) (r1_tupL imI)) (Im.im (imT imI)))) ?_
  cases h21
  exact rfl
def out_law_rounds (draws : (List Int)) (ports : Int) (r : ((List (List Int)) × (List Int))) : Val × List (Option Val) := ((eT (eT eI)) r.1, [some ((eL eI) r.2), some (eI ports)])
def fin_law_rounds (draws : (List Int)) (ports : Int) (r : ((List (List Int)) × (List Int))) (o : Out) : Prop := finish [2, 3, 4, 5, 6, 6, 6] 2 o = some (out_law_rounds draws ports r)
theorem sim_law_rounds {fu k : Nat} {draws : (List Int)} {ports : Int} {r : ((List (List Int)) × (List Int))} (h1 : f_law_rounds draws ports = some r) : run tb fu (k + 3) 13 [(eL eI) draws, eI ports] = some (out_law_rounds draws ports r) := by
  refine run_of (f := r13) (tg := [2, 3, 4, 5, 6, 6, 6]) (np := 2) rfl rfl rfl rfl rfl (ρ := [some ((eL eI) draws), some (eI ports), none, none, none, none, none]) rfl ?_
  show W _ _ _ _ (fin_law_rounds draws ports r)
  unfold f_law_rounds at h1
  obtain ⟨style, draws_1, h2, h3⟩ := bs2 h1
  clear h1
  refine w_asg (ρ2 := [some ((eL eI) draws_1), some (eI ports), some (eI style), none, none, none, none]) (by exact (v_call (ρ2 := [some ((eL eI) draws_1), some (eI ports), none, none, none, none, none]) (as_m (ρ2 := [none, some (eI ports), none, none, none, none, none]) rfl immF_L (as_e (v_q rfl (Im.im imI)) as_n) rfl rfl) (takeS_of rfl h2) rfl)) rfl ?_
  obtain ⟨always, draws_2, h4, h5⟩ := bs2 h3
  clear h3
  refine w_asg (ρ2 := [some ((eL eI) draws_2), some (eI ports), some (eI style), some ((eT eI) always), none, none, none]) (by exact (v_call (ρ2 := [some ((eL eI) draws_2), some (eI ports), some (eI style), none, none, none, none]) (as_m (ρ2 := [none, some (eI ports), some (eI style), none, none, none, none]) rfl immF_L (as_v rfl (Im.im imI) (as_e (v_q rfl (Im.im imI)) as_n)) rfl rfl) (sim_law_places h4) rfl)) rfl ?_
  obtain ⟨found, h6, h7⟩ := lt_of h5
  clear h5
  refine w_asgE (enc := (eL (eT eI))) (v := ([] : (List (List Int)))) (ρ2 := [some ((eL eI) draws_2), some (eI ports), some (eI style), some ((eT eI) always), some ((eL (eT eI)) found), none, none]) (by exact (v_lst (d := (eL (eT eI)) ([] : (List (List Int)))) es_n rfl)) h6 rfl ?_
  obtain ⟨law_take, draws_3, h8, h12⟩ := bs2 h7
  clear h7
  obtain ⟨at_, h9, h13⟩ := bs h12
  clear h12
  obtain ⟨law_take_1, draws_4, h10, h14⟩ := bs2 h13
  clear h13
  obtain ⟨rng, h11, h15⟩ := bs h14
  clear h14
  obtain ⟨draws_6, found_2, h37, h38⟩ := bs2 h15
  clear h15
  refine w_for (e := eI) (xs := rng) (R := (fun (s : ((List Int) × (List (List Int)))) ρ => ∃ g1 g2, ρ = [some ((eL eI) s.1), some (eI ports), some (eI style), some ((eT eI) always), some ((eL (eT eI)) s.2), g1, g2])) (by exact (i_rng1 (v_2 (o_q rfl) (o_e (v_call (ρ2 := [some ((eL eI) draws_4), some (eI ports), some (eI style), some ((eT eI) always), some ((eL (eT eI)) found), none, none]) (as_m (ρ2 := [none, some (eI ports), some (eI style), some ((eT eI) always), some ((eL (eT eI)) found), none, none]) rfl immF_L (as_e (v_2 (o_e (v_lst (d := (eL eI) ([(4 : Int), (12 : Int), (40 : Int)] : (List Int))) (es_c (v_q rfl (Im.im imI)) (es_c (v_q rfl (Im.im imI)) (es_c (v_q rfl (Im.im imI)) es_n))) rfl)) (o_e (v_call (ρ2 := [some ((eL eI) draws_3), some (eI ports), some (eI style), some ((eT eI) always), some ((eL (eT eI)) found), none, none]) (as_m (ρ2 := [none, some (eI ports), some (eI style), some ((eT eI) always), some ((eL (eT eI)) found), none, none]) rfl immF_L (as_e (v_q rfl (Im.im imI)) as_n) rfl rfl) (takeS_of rfl h8) rfl)) (hf_n rfl) rfl rfl (r2_idxL (h := h9)) (own_im imI)) as_n) rfl rfl) (takeS_of rfl h10) rfl)) (hf_q (Im.im imI (x := (1 : Int)))) rfl rfl r2_add (own_im imI)) h11)) h37 ⟨_, _, rfl⟩ (fun s _ hR => by obtain ⟨g1, g2, rfl⟩ := hR; exact hd_n) ?_ ?_
  · rintro s step _ _ h16 ⟨g1, g2, rfl⟩
    refine ⟨[some ((eL eI) s.1), some (eI ports), some (eI style), some ((eT eI) always), some ((eL (eT eI)) s.2), some (eI step), g2], rfl, ?_⟩
    obtain ⟨asks, draws_5, h17, h18⟩ := bs2 h16
    clear h16
    refine w_asg (ρ2 := [some ((eL eI) draws_5), some (eI ports), some (eI style), some ((eT eI) always), some ((eL (eT eI)) s.2), some (eI step), some ((eT eI) asks)]) (by exact (v_call (ρ2 := [some ((eL eI) draws_5), some (eI ports), some (eI style), some ((eT eI) always), some ((eL (eT eI)) s.2), some (eI step), g2]) (as_m (ρ2 := [none, some (eI ports), some (eI style), some ((eT eI) always), some ((eL (eT eI)) s.2), some (eI step), g2]) rfl immF_L (as_v rfl (Im.im imI) (as_e (v_q rfl (Im.im imI)) as_n)) rfl rfl) (sim_law_places h17) rfl)) rfl ?_
    obtain ⟨asks_1, h26, h27⟩ := bs h18
    clear h18
    refine w_join (fun ρ => ρ = [some ((eL eI) draws_5), some (eI ports), some (eI style), some ((eT eI) always), some ((eL (eT eI)) s.2), some (eI step), some ((eT eI) asks_1)]) ?_ ?_
    · clear h27
      rcases its h26 with ⟨h20, h19⟩ | ⟨h20, h25⟩
      · refine w_ifT (by exact (v_q (q_2 (q_v rfl) rfl (r2_eq shI eqvI)) (Im.im imB))) h20 ?_
        refine w_thru ?_
        obtain ⟨cat, h21, h23⟩ := bs h19
        clear h19
        obtain ⟨set_, h22, h24⟩ := bs h23
        clear h23
        refine w_asg (ρ2 := [some ((eL eI) draws_5), some (eI ports), some (eI style), some ((eT eI) always), some ((eL (eT eI)) s.2), some (eI step), some ((eT eI) set_)]) (by exact (v_q (q_1 (q_1 (q_2 (q_v rfl) (q_v rfl) (r2_catT h21)) (r1_sset h22)) (r1_tupL imI)) (Im.im (imT imI)))) rfl ?_
        refine w_nil ?_
        cases h24
        exact ⟨_, rfl, rfl⟩
      · refine w_ifF (by exact (v_q (q_2 (q_v rfl) rfl (r2_eq shI eqvI)) (Im.im imB))) h20 ?_
        refine w_thru ?_
        refine w_nil ?_
        cases h25
        exact ⟨_, rfl, rfl⟩
    rintro _ rfl
    clear h26
    obtain ⟨asks_3, h33, h34⟩ := bs h27
    clear h27
    refine w_join (fun ρ => ρ = [some ((eL eI) draws_5), some (eI ports), some (eI style), some ((eT eI) always), some ((eL (eT eI)) s.2), some (eI step), some ((eT eI) asks_3)]) ?_ ?_
    · clear h34
      rcases its h33 with ⟨h29, h28⟩ | ⟨h29, h32⟩
      · refine w_ifT (by exact (v_q (q_2 (q_v rfl) rfl (r2_eq shI eqvI)) (Im.im imB))) h29 ?_
        refine w_thru ?_
        obtain ⟨asks_2, h30, h31⟩ := bs h28
        clear h28
        refine w_asg (ρ2 := [some ((eL eI) draws_5), some (eI ports), some (eI style), some ((eT eI) always), some ((eL (eT eI)) s.2), some (eI step), some ((eT eI) asks_2)]) (by exact (v_lrgT (v_q (q_v rfl) (Im.im imI)) h30)) rfl ?_
        refine w_nil ?_
        cases h31
        exact ⟨_, rfl, rfl⟩
      · refine w_ifF (by exact (v_q (q_2 (q_v rfl) rfl (r2_eq shI eqvI)) (Im.im imB))) h29 ?_
        refine w_thru ?_
        refine w_nil ?_
        cases h32
        exact ⟨_, rfl, rfl⟩
    rintro _ rfl
    clear h33
    obtain ⟨found_1, h35, h36⟩ := bs h34
    clear h34
    refine w_app (el := (eT eI)) (ρ2 := [some ((eL eI) draws_5), some (eI ports), some (eI style), some ((eT eI) always), some ((eL (eT eI)) found_1), some (eI step), some ((eT eI) asks_3)]) rfl (by exact (v_q (q_v rfl) (Im.im (imT imI)))) rfl h35 rfl ?_
    refine w_nil ?_
    cases h36
    exact ⟨_, rfl, _, _, rfl⟩
  rintro _ ⟨g3, g4, rfl⟩
  clear h37
  refine w_ret (by exact (v_q (q_1 (q_v rfl) (r1_tupL (imT imI))) (Im.im (imT (imT imI))))) ?_
  cases h38
  exact rfl
def out_waits_at_most (ports : Int) (r : (Int)) : Val × List (Option Val) := (eI r, [some (eI ports)])
def fin_waits_at_most (ports : Int) (r : (Int)) (o : Out) : Prop := finish [] 1 o = some (out_waits_at_most ports r)
theorem sim_waits_at_most {fu k : Nat} {ports : Int} {r : (Int)} (h1 : f_waits_at_most ports = some r) : run tb fu (k + 1) 4 [eI ports] = some (out_waits_at_most ports r) := by
  refine run_of (f := r4) (tg := []) (np := 1) rfl rfl rfl rfl rfl (ρ := [some (eI ports)]) rfl ?_
  show W _ _ _ _ (fin_waits_at_most ports r)
  unfold f_waits_at_most at h1
  refine w_ret (by exact (v_q (q_2 (q_v rfl) rfl r2_sub) (Im.im imI))) ?_
  cases h1
  exact rfl
def out_law_ages (draws : (List Int)) (many : Int) (r : ((List (Int × Int)) × (List Int))) : Val × List (Option Val) := ((eT (e2 eI eI)) r.1, [some ((eL eI) r.2), some (eI many)])
def fin_law_ages (draws : (List Int)) (many : Int) (r : ((List (Int × Int)) × (List Int))) (o : Out) : Prop := finish [2, 3, 4, 5] 2 o = some (out_law_ages draws many r)
theorem sim_law_ages {fu k : Nat} {draws : (List Int)} {many : Int} {r : ((List (Int × Int)) × (List Int))} (h1 : f_law_ages draws many = some r) : run tb fu (k + 2) 12 [(eL eI) draws, eI many] = some (out_law_ages draws many r) := by
  refine run_of (f := r12) (tg := [2, 3, 4, 5]) (np := 2) rfl rfl rfl rfl rfl (ρ := [some ((eL eI) draws), some (eI many), none, none, none, none]) rfl ?_
  show W _ _ _ _ (fin_law_ages draws many r)
  unfold f_law_ages at h1
  obtain ⟨left, h2, h3⟩ := bs h1
  clear h1
  refine w_asg (ρ2 := [some ((eL eI) draws), some (eI many), some ((eL eI) left), none, none, none]) (by exact (v_lrgL (v_q (q_v rfl) (Im.im imI)) h2)) rfl ?_
  obtain ⟨law_take, draws_1, h4, h6⟩ := bs2 h3
  clear h3
  obtain ⟨at_, h5, h7⟩ := bs h6
  clear h6
  refine w_asg (ρ2 := [some ((eL eI) draws_1), some (eI many), some ((eL eI) left), some (eI at_), none, none]) (by exact (v_2 (o_e (v_lst (d := (eL eI) ([(1 : Int), (4 : Int), (10000 : Int)] : (List Int))) (es_c (v_q rfl (Im.im imI)) (es_c (v_q rfl (Im.im imI)) (es_c (v_q rfl (Im.im imI)) es_n))) rfl)) (o_e (v_call (ρ2 := [some ((eL eI) draws_1), some (eI many), some ((eL eI) left), none, none, none]) (as_m (ρ2 := [none, some (eI many), some ((eL eI) left), none, none, none]) rfl immF_L (as_e (v_q rfl (Im.im imI)) as_n) rfl rfl) (takeS_of rfl h4) rfl)) (hf_n rfl) rfl rfl (r2_idxL (h := h5)) (own_im imI))) rfl ?_
  obtain ⟨found, h8, h9⟩ := lt_of h7
  clear h7
  refine w_asgE (enc := (eL (e2 eI eI))) (v := ([] : (List (Int × Int)))) (ρ2 := [some ((eL eI) draws_1), some (eI many), some ((eL eI) left), some (eI at_), some ((eL (e2 eI eI)) found), none]) (by exact (v_lst (d := (eL (e2 eI eI)) ([] : (List (Int × Int)))) es_n rfl)) h8 rfl ?_
  obtain ⟨rng, h10, h11⟩ := bs h9
  clear h9
  obtain ⟨draws_4, left_2, found_2, h21, h22⟩ := bs3 h11
  clear h11
  refine w_for (e := eI) (xs := rng) (R := (fun (s : ((List Int) × (List Int) × (List (Int × Int)))) ρ => ∃ g1, ρ = [some ((eL eI) s.1), some (eI many), some ((eL eI) s.2.1), some (eI at_), some ((eL (e2 eI eI)) s.2.2), g1])) (by exact (i_rng1 (v_q (q_v rfl) (Im.im imI)) h10)) h21 ⟨_, rfl⟩ (fun s _ hR => by obtain ⟨g1, rfl⟩ := hR; exact hd_n) ?_ ?_
  · rintro s k_ _ _ h12 ⟨g1, rfl⟩
    refine ⟨[some ((eL eI) s.1), some (eI many), some ((eL eI) s.2.1), some (eI at_), some ((eL (e2 eI eI)) s.2.2), some (eI k_)], rfl, ?_⟩
    obtain ⟨law_take_1, draws_2, h13, h17⟩ := bs2 h12
    clear h12
    obtain ⟨law_take_2, draws_3, h14, h18⟩ := bs2 h17
    clear h17
    obtain ⟨pop, left_1, h15, h19⟩ := bs2 h18
    clear h18
    obtain ⟨found_1, h16, h20⟩ := bs h19
    clear h19
    refine w_app (el := (e2 eI eI)) (ρ2 := [some ((eL eI) draws_3), some (eI many), some ((eL eI) left_1), some (eI at_), some ((eL (e2 eI eI)) found_1), some (eI k_)]) rfl (by exact (v_tup (d := (e2 eI eI) ((law_take_1, pop))) (es_c (v_call (ρ2 := [some ((eL eI) draws_2), some (eI many), some ((eL eI) s.2.1), some (eI at_), some ((eL (e2 eI eI)) s.2.2), some (eI k_)]) (as_m (ρ2 := [none, some (eI many), some ((eL eI) s.2.1), some (eI at_), some ((eL (e2 eI eI)) s.2.2), some (eI k_)]) rfl immF_L (as_v rfl (Im.im imI) as_n) rfl rfl) (takeS_of rfl h13) rfl) (es_c (v_popAt (e := eI) (ρ2 := [some ((eL eI) draws_3), some (eI many), some ((eL eI) left_1), some (eI at_), some ((eL (e2 eI eI)) s.2.2), some (eI k_)]) rfl (v_call (ρ2 := [some ((eL eI) draws_3), some (eI many), some ((eL eI) s.2.1), some (eI at_), some ((eL (e2 eI eI)) s.2.2), some (eI k_)]) (as_m (ρ2 := [none, some (eI many), some ((eL eI) s.2.1), some (eI at_), some ((eL (e2 eI eI)) s.2.2), some (eI k_)]) rfl immF_L (as_e (v_q (q_1 (q_v rfl) r1_lenL) (Im.im imI)) as_n) rfl rfl) (takeS_of rfl h14) rfl) rfl h15 rfl) es_n)) rfl)) rfl h16 rfl ?_
    refine w_nil ?_
    cases h20
    exact ⟨_, rfl, _, rfl⟩
  rintro _ ⟨g2, rfl⟩
  clear h21
  refine w_ret (by exact (v_q (q_1 (q_v rfl) (r1_tupL (im2 imI imI))) (Im.im (imT (im2 imI imI))))) ?_
  cases h22
  exact rfl
def out_place_by_turns (asks : (List Int)) (turn : Int) (r : (Int)) : Val × List (Option Val) := (eI r, [some ((eT eI) asks), some (eI turn)])
def fin_place_by_turns (asks : (List Int)) (turn : Int) (r : (Int)) (o : Out) : Prop := finish [2] 2 o = some (out_place_by_turns asks turn r)
theorem sim_place_by_turns {fu k : Nat} {asks : (List Int)} {turn : Int} {r : (Int)} (h1 : f_place_by_turns asks turn = some r) : run tb fu (k + 1) 0 [(eT eI) asks, eI turn] = some (out_place_by_turns asks turn r) := by
  refine run_of (f := r0) (tg := [2]) (np := 2) rfl rfl rfl rfl rfl (ρ := [some ((eT eI) asks), some (eI turn), none]) rfl ?_
  show W _ _ _ _ (fin_place_by_turns asks turn r)
  unfold f_place_by_turns at h1
  obtain ⟨c, h6, h7⟩ := bs h1
  clear h1
  refine w_joinF (R := (fun (s : (Unit)) ρ => ∃ g1, ρ = [some ((eT eI) asks), some (eI turn), g1])) (F := (fin_place_by_turns asks turn)) (w_forC (e := eI) (xs := asks) (R := (fun (s : (Unit)) ρ => ∃ g1, ρ = [some ((eT eI) asks), some (eI turn), g1])) (F := (fin_place_by_turns asks turn)) (by exact (i_vT (e := eI) (xs := asks) imI rfl)) h6 ⟨_, rfl⟩ (fun s _ hR => by obtain ⟨g1, rfl⟩ := hR; exact hd_n) ?_) h7 ?_
  · rintro s place _ _ h2 ⟨g1, rfl⟩
    refine ⟨[some ((eT eI) asks), some (eI turn), some (eI place)], rfl, ?_⟩
    rcases its h2 with ⟨h4, h3⟩ | ⟨h4, h5⟩
    · clear h2
      refine w_ifT (by exact (v_q (q_2 (q_v rfl) (q_v rfl) r2_ge) (Im.im imB))) h4 ?_
      refine w_ret (by exact (v_q (q_v rfl) (Im.im imI))) ?_
      cases h3
      exact ⟨_, _, rfl, rfl⟩
    · clear h2
      refine w_ifF (by exact (v_q (q_2 (q_v rfl) (q_v rfl) r2_ge) (Im.im imB))) h4 ?_
      refine w_nil ?_
      refine w_nil ?_
      cases h5
      exact ⟨_, rfl, _, rfl⟩
  rintro _ _ h8 ⟨g2, rfl⟩
  clear h6 h7
  obtain ⟨at_, h9, h10⟩ := bs h8
  clear h8
  refine w_ret (by exact (v_q (q_2 (q_v rfl) rfl (r2_idxT (h := h9))) (Im.im imI))) ?_
  cases h10
  exact rfl
def out_place_by_ages (asks : (List Int)) (ages : (List (Int × Int))) (r : (Int)) : Val × List (Option Val) := (eI r, [some ((eT eI) asks), some ((eT (e2 eI eI)) ages)])
def fin_place_by_ages (asks : (List Int)) (ages : (List (Int × Int))) (r : (Int)) (o : Out) : Prop := finish [] 2 o = some (out_place_by_ages asks ages r)
theorem sim_place_by_ages {fu k : Nat} {asks : (List Int)} {ages : (List (Int × Int))} {r : (Int)} (h1 : f_place_by_ages asks ages = some r) : run tb fu (k + 1) 1 [(eT eI) asks, (eT (e2 eI eI)) ages] = some (out_place_by_ages asks ages r) := by
  refine run_of (f := r1) (tg := []) (np := 2) rfl rfl rfl rfl rfl (ρ := [some ((eT eI) asks), some ((eT (e2 eI eI)) ages)]) rfl ?_
  show W _ _ _ _ (fin_place_by_ages asks ages r)
  unfold f_place_by_ages at h1
  obtain ⟨min_, h2, h5⟩ := bs h1
  clear h1
  obtain ⟨ix, h3, h6⟩ := bs h5
  clear h5
  obtain ⟨at_, h4, h7⟩ := bs h6
  clear h6
  refine w_ret (by exact (v_2 (o_v rfl) (o_e (v_index (q_v rfl) (q_1 (q_v rfl) (r1_minPT h2)) (rX_T (sh2 shI shI) (eqv2 eqvI eqvI) (hj := h3)))) rfl rfl rfl (r2_idxT (h := h4)) (own_im imI))) ?_
  cases h7
  exact rfl
def out_granted (kind : PySem.Str) (asks : (List Int)) (turn : Int) (ages : (List (Int × Int))) (r : (Int)) : Val × List (Option Val) := (eI r, [some (eS kind), some ((eT eI) asks), some (eI turn), some ((eT (e2 eI eI)) ages)])
def fin_granted (kind : PySem.Str) (asks : (List Int)) (turn : Int) (ages : (List (Int × Int))) (r : (Int)) (o : Out) : Prop := finish [] 4 o = some (out_granted kind asks turn ages r)
theorem sim_granted {fu k : Nat} {kind : PySem.Str} {asks : (List Int)} {turn : Int} {ages : (List (Int × Int))} {r : (Int)} (h1 : f_granted kind asks turn ages = some r) : run tb fu (k + 2) 2 [eS kind, (eT eI) asks, eI turn, (eT (e2 eI eI)) ages] = some (out_granted kind asks turn ages r) := by
  refine run_of (f := r2) (tg := []) (np := 4) rfl rfl rfl rfl rfl (ρ := [some (eS kind), some ((eT eI) asks), some (eI turn), some ((eT (e2 eI eI)) ages)]) rfl ?_
  show W _ _ _ _ (fin_granted kind asks turn ages r)
  unfold f_granted at h1
  obtain ⟨eq_, h2, h3⟩ := bs h1
  clear h1
  rcases its h3 with ⟨h5, h4⟩ | ⟨h5, h8⟩
  · clear h3
    refine w_ifT (by exact (v_q (q_2 (q_v rfl) rfl (r2_eqG eqvS h2)) (Im.im imB))) h5 ?_
    obtain ⟨place_by_turns, h6, h7⟩ := bs h4
    clear h4
    refine w_ret (by exact (v_call (ρ2 := [some (eS kind), some ((eT eI) asks), some (eI turn), some ((eT (e2 eI eI)) ages)]) (as_v rfl (Im.im (imT imI)) (as_v rfl (Im.im imI) as_n)) (sim_place_by_turns h6) rfl)) ?_
    cases h7
    exact rfl
  · clear h3
    refine w_ifF (by exact (v_q (q_2 (q_v rfl) rfl (r2_eqG eqvS h2)) (Im.im imB))) h5 ?_
    refine w_nil ?_
    obtain ⟨eq_1, h9, h10⟩ := bs h8
    clear h8
    rcases its h10 with ⟨h12, h11⟩ | ⟨h12, h15⟩
    · clear h10
      refine w_ifT (by exact (v_q (q_2 (q_v rfl) rfl (r2_eqG eqvS h9)) (Im.im imB))) h12 ?_
      obtain ⟨place_by_ages, h13, h14⟩ := bs h11
      clear h11
      refine w_ret (by exact (v_call (ρ2 := [some (eS kind), some ((eT eI) asks), some (eI turn), some ((eT (e2 eI eI)) ages)]) (as_v rfl (Im.im (imT imI)) (as_v rfl (Im.im (imT (im2 imI imI))) as_n)) (sim_place_by_ages h13) rfl)) ?_
      cases h14
      exact rfl
    · clear h10
      refine w_ifF (by exact (v_q (q_2 (q_v rfl) rfl (r2_eqG eqvS h9)) (Im.im imB))) h12 ?_
      refine w_nil ?_
      obtain ⟨at_, h16, h17⟩ := bs h15
      clear h15
      refine w_ret (by exact (v_q (q_2 (q_v rfl) rfl (r2_idxT (h := h16))) (Im.im imI))) ?_
      cases h17
      exact rfl
def out_law_is_place (place : Int) (ports : Int) (r : (Bool)) : Val × List (Option Val) := (eB r, [some (eI place), some (eI ports)])
def fin_law_is_place (place : Int) (ports : Int) (r : (Bool)) (o : Out) : Prop := finish [] 2 o = some (out_law_is_place place ports r)
theorem sim_law_is_place {fu k : Nat} {place : Int} {ports : Int} {r : (Bool)} (h1 : f_law_is_place place ports = some r) : run tb fu (k + 1) 14 [eI place, eI ports] = some (out_law_is_place place ports r) := by
  refine run_of (f := r14) (tg := []) (np := 2) rfl rfl rfl rfl rfl (ρ := [some (eI place), some (eI ports)]) rfl ?_
  show W _ _ _ _ (fin_law_is_place place ports r)
  unfold f_law_is_place at h1
  refine w_ret (by exact (v_and (v_q (q_1 (q_v rfl) rfl) (Im.im imB)) (v_and (v_not (v_q (q_1 (q_v rfl) rfl) (Im.im imB))) (v_and (v_q (q_2 rfl (q_v rfl) r2_le) (Im.im imB)) (v_q (q_2 (q_v rfl) (q_v rfl) r2_lt) (Im.im imB)))))) ?_
  cases h1
  exact rfl
def out_turn_behind (kind : PySem.Str) (place : Int) (ports : Int) (turn : Int) (r : (Int)) : Val × List (Option Val) := (eI r, [some (eS kind), some (eI place), some (eI ports), some (eI turn)])
def fin_turn_behind (kind : PySem.Str) (place : Int) (ports : Int) (turn : Int) (r : (Int)) (o : Out) : Prop := finish [] 4 o = some (out_turn_behind kind place ports turn r)
theorem sim_turn_behind {fu k : Nat} {kind : PySem.Str} {place : Int} {ports : Int} {turn : Int} {r : (Int)} (h1 : f_turn_behind kind place ports turn = some r) : run tb fu (k + 1) 3 [eS kind, eI place, eI ports, eI turn] = some (out_turn_behind kind place ports turn r) := by
  refine run_of (f := r3) (tg := []) (np := 4) rfl rfl rfl rfl rfl (ρ := [some (eS kind), some (eI place), some (eI ports), some (eI turn)]) rfl ?_
  show W _ _ _ _ (fin_turn_behind kind place ports turn r)
  unfold f_turn_behind at h1
  obtain ⟨eq_, h2, h3⟩ := bs h1
  clear h1
  rcases its h3 with ⟨h5, h4⟩ | ⟨h5, h8⟩
  · clear h3
    refine w_ifT (by exact (v_q (q_2 (q_v rfl) rfl (r2_eqG eqvS h2)) (Im.im imB))) h5 ?_
    obtain ⟨mod, h6, h7⟩ := bs h4
    clear h4
    refine w_ret (by exact (v_q (q_2 (q_2 (q_v rfl) rfl r2_add) (q_v rfl) (r2_mod h6)) (Im.im imI))) ?_
    cases h7
    exact rfl
  · clear h3
    refine w_ifF (by exact (v_q (q_2 (q_v rfl) rfl (r2_eqG eqvS h2)) (Im.im imB))) h5 ?_
    refine w_nil ?_
    refine w_ret (by exact (v_q (q_v rfl) (Im.im imI))) ?_
    cases h8
    exact rfl
def out_law_turns_fair (draws : (List Int)) (rounds : (List (List Int))) (ports : Int) (r : (Bool × (List Int))) : Val × List (Option Val) := (eB r.1, [some ((eL eI) r.2), some ((eT (eT eI)) rounds), some (eI ports)])
def fin_law_turns_fair (draws : (List Int)) (rounds : (List (List Int))) (ports : Int) (r : (Bool × (List Int))) (o : Out) : Prop := finish [3, 4, 5, 6, 7, 8, 3] 3 o = some (out_law_turns_fair draws rounds ports r)
theorem sim_law_turns_fair {fu k : Nat} {draws : (List Int)} {rounds : (List (List Int))} {ports : Int} {r : (Bool × (List Int))} (h1 : f_law_turns_fair draws rounds ports = some r) : run tb fu (k + 14) 15 [(eL eI) draws, (eT (eT eI)) rounds, eI ports] = some (out_law_turns_fair draws rounds ports r) := by
  refine run_of (f := r15) (tg := [3, 4, 5, 6, 7, 8, 3]) (np := 3) rfl rfl rfl rfl rfl (ρ := [some ((eL eI) draws), some ((eT (eT eI)) rounds), some (eI ports), none, none, none, none, none, none]) rfl ?_
  show W _ _ _ _ (fin_law_turns_fair draws rounds ports r)
  unfold f_law_turns_fair at h1
  obtain ⟨turn, draws_1, h2, h3⟩ := bs2 h1
  clear h1
  refine w_asg (ρ2 := [some ((eL eI) draws_1), some ((eT (eT eI)) rounds), some (eI ports), some (eI turn), none, none, none, none, none]) (by exact (v_call (ρ2 := [some ((eL eI) draws_1), some ((eT (eT eI)) rounds), some (eI ports), none, none, none, none, none, none]) (as_m (ρ2 := [none, some ((eT (eT eI)) rounds), some (eI ports), none, none, none, none, none, none]) rfl immF_L (as_v rfl (Im.im imI) as_n) rfl rfl) (takeS_of rfl h2) rfl)) rfl ?_
  obtain ⟨most, h4, h5⟩ := bs h3
  clear h3
  refine w_asg (ρ2 := [some ((eL eI) draws_1), some ((eT (eT eI)) rounds), some (eI ports), some (eI turn), some (eI most), none, none, none, none]) (by exact (v_call (ρ2 := [some ((eL eI) draws_1), some ((eT (eT eI)) rounds), some (eI ports), some (eI turn), none, none, none, none, none]) (as_v rfl (Im.im imI) as_n) (sim_waits_at_most h4) rfl)) rfl ?_
  obtain ⟨same_, h6, h7⟩ := bs h5
  clear h5
  rcases its h7 with ⟨h9, h8⟩ | ⟨h9, h10⟩
  · clear h7
    refine w_ifT (by exact (v_not (v_call (ρ2 := [some ((eL eI) draws_1), some ((eT (eT eI)) rounds), some (eI ports), some (eI turn), some (eI most), none, none, none, none]) (as_v rfl (Im.im imI) (as_e (v_q (q_2 (q_v rfl) rfl r2_sub) (Im.im imI)) as_n)) (sameS_of (e := eI) (x := most) (y := (ports - (1 : Int))) rfl h6) rfl))) h9 ?_
    refine w_ret (by exact (v_q rfl (Im.im imB))) ?_
    cases h8
    exact rfl
  · clear h7
    refine w_ifF (by exact (v_not (v_call (ρ2 := [some ((eL eI) draws_1), some ((eT (eT eI)) rounds), some (eI ports), some (eI turn), some (eI most), none, none, none, none]) (as_v rfl (Im.im imI) (as_e (v_q (q_2 (q_v rfl) rfl r2_sub) (Im.im imI)) as_n)) (sameS_of (e := eI) (x := most) (y := (ports - (1 : Int))) rfl h6) rfl))) h9 ?_
    refine w_nil ?_
    obtain ⟨rng, h11, h15⟩ := bs h10
    clear h10
    obtain ⟨ahead, h14, h16⟩ := bs h15
    clear h15
    refine w_asg (ρ2 := [some ((eL eI) draws_1), some ((eT (eT eI)) rounds), some (eI ports), some (eI turn), some (eI most), some ((eL (eL eI)) ahead), none, none, none]) (by exact (v_comp (e := eI) (d := (eL eI)) (ρ2 := [some ((eL eI) draws_1), some ((eT (eT eI)) rounds), some (eI ports), some (eI turn), some (eI most), none, none, none, none]) (ρ3 := [some ((eL eI) draws_1), some ((eT (eT eI)) rounds), some (eI ports), some (eI turn), some (eI most), none, none, none, none]) (i_rng1 (v_q (q_v rfl) (Im.im imI)) h11) rfl h14 hd_n (fun place _ h12 => by skip; exact t_elE (d := (eL eI)) (ρ1 := [some ((eL eI) draws_1), some ((eT (eT eI)) rounds), some (eI ports), some (eI turn), some (eI most), none, none, some (eI place), none]) h12 rfl (v_lst (d := (eL eI) ([] : (List Int))) es_n rfl) rfl) rfl)) rfl ?_
    obtain ⟨c_1, h67, h68⟩ := bs h16
    clear h16
    refine w_joinF (R := (fun (s : ((List Int) × Int × (List (List Int)))) ρ => ∃ g1 g2 g3, ρ = [some ((eL eI) s.1), some ((eT (eT eI)) rounds), some (eI ports), some (eI s.2.1), some (eI most), some ((eL (eL eI)) s.2.2), g1, g2, g3])) (F := (fin_law_turns_fair draws rounds ports)) (w_forC (e := (eT eI)) (xs := rounds) (R := (fun (s : ((List Int) × Int × (List (List Int)))) ρ => ∃ g1 g2 g3, ρ = [some ((eL eI) s.1), some ((eT (eT eI)) rounds), some (eI ports), some (eI s.2.1), some (eI most), some ((eL (eL eI)) s.2.2), g1, g2, g3])) (F := (fin_law_turns_fair draws rounds ports)) (by exact (i_vT (e := (eT eI)) (xs := rounds) (imT imI) rfl)) h67 ⟨_, _, _, rfl⟩ (fun s _ hR => by obtain ⟨g1, g2, g3, rfl⟩ := hR; exact hd_n) ?_) h68 ?_
    · rintro s asks _ _ h17 ⟨g1, g2, g3, rfl⟩
      refine ⟨[some ((eL eI) s.1), some ((eT (eT eI)) rounds), some (eI ports), some (eI s.2.1), some (eI most), some ((eL (eL eI)) s.2.2), some ((eT eI) asks), g2, g3], rfl, ?_⟩
      obtain ⟨law_ages, draws_2, h18, h20⟩ := bs2 h17
      clear h17
      obtain ⟨place_1, h19, h21⟩ := bs h20
      clear h20
      refine w_asg (ρ2 := [some ((eL eI) draws_2), some ((eT (eT eI)) rounds), some (eI ports), some (eI s.2.1), some (eI most), some ((eL (eL eI)) s.2.2), some ((eT eI) asks), some (eI place_1), g3]) (by exact (v_call (ρ2 := [some ((eL eI) draws_2), some ((eT (eT eI)) rounds), some (eI ports), some (eI s.2.1), some (eI most), some ((eL (eL eI)) s.2.2), some ((eT eI) asks), g2, g3]) (as_e (v_q rfl (Im.im imS)) (as_v rfl (Im.im (imT imI)) (as_v rfl (Im.im imI) (as_e (v_call (ρ2 := [some ((eL eI) draws_2), some ((eT (eT eI)) rounds), some (eI ports), some (eI s.2.1), some (eI most), some ((eL (eL eI)) s.2.2), some ((eT eI) asks), g2, g3]) (as_m (ρ2 := [none, some ((eT (eT eI)) rounds), some (eI ports), some (eI s.2.1), some (eI most), some ((eL (eL eI)) s.2.2), some ((eT eI) asks), g2, g3]) rfl immF_L (as_e (v_q (q_1 (q_v rfl) r1_lenT) (Im.im imI)) as_n) rfl rfl) (sim_law_ages h18) rfl) as_n)))) (sim_granted h19) rfl)) rfl ?_
      obtain ⟨law_is_place, h22, h23⟩ := bs h21
      clear h21
      rcases its h23 with ⟨h25, h24⟩ | ⟨h25, h26⟩
      · clear h23
        refine w_ifT (by exact (v_or (v_not (v_call (ρ2 := [some ((eL eI) draws_2), some ((eT (eT eI)) rounds), some (eI ports), some (eI s.2.1), some (eI most), some ((eL (eL eI)) s.2.2), some ((eT eI) asks), some (eI place_1), g3]) (as_v rfl (Im.im imI) (as_v rfl (Im.im imI) as_n)) (sim_law_is_place h22) rfl)) (v_q (q_2 (q_v rfl) (q_v rfl) (r2_notinT shI eqvI)) (Im.im imB)))) h25 ?_
        refine w_ret (by exact (v_q rfl (Im.im imB))) ?_
        cases h24
        exact ⟨_, _, rfl, rfl⟩
      · clear h23
        refine w_ifF (by exact (v_or (v_not (v_call (ρ2 := [some ((eL eI) draws_2), some ((eT (eT eI)) rounds), some (eI ports), some (eI s.2.1), some (eI most), some ((eL (eL eI)) s.2.2), some ((eT eI) asks), some (eI place_1), g3]) (as_v rfl (Im.im imI) (as_v rfl (Im.im imI) as_n)) (sim_law_is_place h22) rfl)) (v_q (q_2 (q_v rfl) (q_v rfl) (r2_notinT shI eqvI)) (Im.im imB)))) h25 ?_
        refine w_nil ?_
        obtain ⟨rng_1, h27, h28⟩ := bs h26
        clear h26
        obtain ⟨c, h57, h58⟩ := bs h28
        clear h28
        refine w_joinC (R := (fun (ahead_1 : ((List (List Int)))) ρ => ∃ g4, ρ = [some ((eL eI) draws_2), some ((eT (eT eI)) rounds), some (eI ports), some (eI s.2.1), some (eI most), some ((eL (eL eI)) ahead_1), some ((eT eI) asks), some (eI place_1), g4])) (F := (fin_law_turns_fair draws rounds ports)) (w_forC (e := eI) (xs := rng_1) (R := (fun (ahead_1 : ((List (List Int)))) ρ => ∃ g4, ρ = [some ((eL eI) draws_2), some ((eT (eT eI)) rounds), some (eI ports), some (eI s.2.1), some (eI most), some ((eL (eL eI)) ahead_1), some ((eT eI) asks), some (eI place_1), g4])) (F := (fin_law_turns_fair draws rounds ports)) (by exact (i_rng1 (v_q (q_v rfl) (Im.im imI)) h27)) h57 ⟨_, rfl⟩ (fun ahead_1 _ hR => by obtain ⟨g4, rfl⟩ := hR; exact hd_n) ?_) h58 ?_
        · rintro ahead_1 own_ _ _ h29 ⟨g4, rfl⟩
          refine ⟨[some ((eL eI) draws_2), some ((eT (eT eI)) rounds), some (eI ports), some (eI s.2.1), some (eI most), some ((eL (eL eI)) ahead_1), some ((eT eI) asks), some (eI place_1), some (eI own_)], rfl, ?_⟩
          obtain ⟨ahead_3, h41, h42⟩ := bs h29
          clear h29
          refine w_join (fun ρ => ρ = [some ((eL eI) draws_2), some ((eT (eT eI)) rounds), some (eI ports), some (eI s.2.1), some (eI most), some ((eL (eL eI)) ahead_3), some ((eT eI) asks), some (eI place_1), some (eI own_)]) ?_ ?_
          · clear h42
            rcases its h41 with ⟨h31, h30⟩ | ⟨h31, h34⟩
            · refine w_ifT (by exact (v_or (v_q (q_2 (q_v rfl) (q_v rfl) (r2_eq shI eqvI)) (Im.im imB)) (v_q (q_2 (q_v rfl) (q_v rfl) (r2_notinT shI eqvI)) (Im.im imB)))) h31 ?_
              refine w_thru ?_
              obtain ⟨ahead_2, h32, h33⟩ := bs h30
              clear h30
              refine w_sset (el := (eL eI)) (ρ2 := [some ((eL eI) draws_2), some ((eT (eT eI)) rounds), some (eI ports), some (eI s.2.1), some (eI most), some ((eL (eL eI)) ahead_2), some ((eT eI) asks), some (eI place_1), some (eI own_)]) (by exact (v_lst (d := (eL eI) ([] : (List Int))) es_n rfl)) (by exact (q_v rfl)) rfl h32 rfl ?_
              refine w_nil ?_
              cases h33
              exact ⟨_, rfl, rfl⟩
            · refine w_ifF (by exact (v_or (v_q (q_2 (q_v rfl) (q_v rfl) (r2_eq shI eqvI)) (Im.im imB)) (v_q (q_2 (q_v rfl) (q_v rfl) (r2_notinT shI eqvI)) (Im.im imB)))) h31 ?_
              refine w_thru ?_
              obtain ⟨at_, h35, h38⟩ := bs h34
              clear h34
              obtain ⟨cat, h36, h39⟩ := bs h38
              clear h38
              obtain ⟨ahead_2, h37, h40⟩ := bs h39
              clear h39
              refine w_sset (el := (eL eI)) (ρ2 := [some ((eL eI) draws_2), some ((eT (eT eI)) rounds), some (eI ports), some (eI s.2.1), some (eI most), some ((eL (eL eI)) ahead_2), some ((eT eI) asks), some (eI place_1), some (eI own_)]) (by exact (v_2 (o_q (q_2 (q_v rfl) (q_v rfl) (r2_idxL (h := h35)))) (o_q (q_l1 (e := eI) (q_v rfl))) rfl rfl rfl (r2_catL (e := eI) imI (h := h36)) (own_L imI))) (by exact (q_v rfl)) rfl h37 rfl ?_
              refine w_nil ?_
              cases h40
              exact ⟨_, rfl, rfl⟩
          rintro _ rfl
          clear h41
          obtain ⟨at_1, h43, h52⟩ := bs h42
          clear h42
          obtain ⟨val, h47, h53⟩ := bs h52
          clear h52
          rcases its h53 with ⟨h55, h54⟩ | ⟨h55, h56⟩
          · clear h53
            refine w_ifT (by exact (v_orM (fun (c_ : Bool) (y : (Bool)) => (eB y, [some ((eL eI) draws_2), some ((eT (eT eI)) rounds), some (eI ports), some (eI s.2.1), some (eI most), some ((eL (eL eI)) ahead_3), some ((eT eI) asks), some (eI place_1), some (eI own_)])) (v_q (q_2 (q_1 (q_2 (q_v rfl) (q_v rfl) (r2_idxL (h := h43))) r1_lenL) (q_v rfl) r2_gt) (Im.im imB)) h47 (fun _ h48 _ => by obtain ⟨at_2, h44, h49⟩ := bs h48; clear h48; obtain ⟨nset_, h45, h50⟩ := bs h49; clear h49; obtain ⟨at_3, h46, h51⟩ := bs h50; clear h50; exact evT (en := (fun (c_ : Bool) (y : (Bool)) => (eB y, [some ((eL eI) draws_2), some ((eT (eT eI)) rounds), some (eI ports), some (eI s.2.1), some (eI most), some ((eL (eL eI)) ahead_3), some ((eT eI) asks), some (eI place_1), some (eI own_)])) false) h51 (v_q (q_2 (q_1 (q_2 (q_v rfl) (q_v rfl) (r2_idxL (h := h44))) (r1_nsetL h45)) (q_1 (q_2 (q_v rfl) (q_v rfl) (r2_idxL (h := h46))) r1_lenL) r2_lt) (Im.im imB))) rfl)) h55 ?_
            refine w_ret (by exact (v_q rfl (Im.im imB))) ?_
            cases h54
            exact ⟨_, _, rfl, rfl⟩
          · clear h53
            refine w_ifF (by exact (v_orM (fun (c_ : Bool) (y : (Bool)) => (eB y, [some ((eL eI) draws_2), some ((eT (eT eI)) rounds), some (eI ports), some (eI s.2.1), some (eI most), some ((eL (eL eI)) ahead_3), some ((eT eI) asks), some (eI place_1), some (eI own_)])) (v_q (q_2 (q_1 (q_2 (q_v rfl) (q_v rfl) (r2_idxL (h := h43))) r1_lenL) (q_v rfl) r2_gt) (Im.im imB)) h47 (fun _ h48 _ => by obtain ⟨at_2, h44, h49⟩ := bs h48; clear h48; obtain ⟨nset_, h45, h50⟩ := bs h49; clear h49; obtain ⟨at_3, h46, h51⟩ := bs h50; clear h50; exact evT (en := (fun (c_ : Bool) (y : (Bool)) => (eB y, [some ((eL eI) draws_2), some ((eT (eT eI)) rounds), some (eI ports), some (eI s.2.1), some (eI most), some ((eL (eL eI)) ahead_3), some ((eT eI) asks), some (eI place_1), some (eI own_)])) false) h51 (v_q (q_2 (q_1 (q_2 (q_v rfl) (q_v rfl) (r2_idxL (h := h44))) (r1_nsetL h45)) (q_1 (q_2 (q_v rfl) (q_v rfl) (r2_idxL (h := h46))) r1_lenL) r2_lt) (Im.im imB))) rfl)) h55 ?_
            refine w_nil ?_
            refine w_nil ?_
            cases h56
            exact ⟨_, rfl, _, rfl⟩
        rintro ahead_5 _ h59 ⟨g5, rfl⟩
        clear h57 h58
        obtain ⟨turn_1, h60, h61⟩ := bs h59
        clear h59
        refine w_asg (ρ2 := [some ((eL eI) draws_2), some ((eT (eT eI)) rounds), some (eI ports), some (eI turn_1), some (eI most), some ((eL (eL eI)) ahead_5), some ((eT eI) asks), some (eI place_1), g5]) (by exact (v_call (ρ2 := [some ((eL eI) draws_2), some ((eT (eT eI)) rounds), some (eI ports), some (eI s.2.1), some (eI most), some ((eL (eL eI)) ahead_5), some ((eT eI) asks), some (eI place_1), g5]) (as_e (v_q rfl (Im.im imS)) (as_v rfl (Im.im imI) (as_v rfl (Im.im imI) (as_v rfl (Im.im imI) as_n)))) (sim_turn_behind h60) rfl)) rfl ?_
        obtain ⟨law_is_place_1, h62, h63⟩ := bs h61
        clear h61
        rcases its h63 with ⟨h65, h64⟩ | ⟨h65, h66⟩
        · clear h63
          refine w_ifT (by exact (v_not (v_call (ρ2 := [some ((eL eI) draws_2), some ((eT (eT eI)) rounds), some (eI ports), some (eI turn_1), some (eI most), some ((eL (eL eI)) ahead_5), some ((eT eI) asks), some (eI place_1), g5]) (as_v rfl (Im.im imI) (as_v rfl (Im.im imI) as_n)) (sim_law_is_place h62) rfl))) h65 ?_
          refine w_ret (by exact (v_q rfl (Im.im imB))) ?_
          cases h64
          exact ⟨_, _, rfl, rfl⟩
        · clear h63
          refine w_ifF (by exact (v_not (v_call (ρ2 := [some ((eL eI) draws_2), some ((eT (eT eI)) rounds), some (eI ports), some (eI turn_1), some (eI most), some ((eL (eL eI)) ahead_5), some ((eT eI) asks), some (eI place_1), g5]) (as_v rfl (Im.im imI) (as_v rfl (Im.im imI) as_n)) (sim_law_is_place h62) rfl))) h65 ?_
          refine w_nil ?_
          refine w_nil ?_
          cases h66
          exact ⟨_, rfl, _, _, _, rfl⟩
    rintro s_1 _ h69 ⟨g6, g7, g8, rfl⟩
    clear h67 h68
    refine w_ret (by exact (v_q rfl (Im.im imB))) ?_
    cases h69
    exact rfl
def out_law_all_come (draws : (List Int)) (asks : (List Int)) (ports : Int) (r : (Bool × (List Int))) : Val × List (Option Val) := (eB r.1, [some ((eL eI) r.2), some ((eT eI) asks), some (eI ports)])
def fin_law_all_come (draws : (List Int)) (asks : (List Int)) (ports : Int) (r : (Bool × (List Int))) (o : Out) : Prop := finish [3, 4, 5, 8, 3, 6, 7] 3 o = some (out_law_all_come draws asks ports r)
theorem sim_law_all_come {fu k : Nat} {draws : (List Int)} {asks : (List Int)} {ports : Int} {r : (Bool × (List Int))} (h1 : f_law_all_come draws asks ports = some r) : run tb fu (k + 14) 16 [(eL eI) draws, (eT eI) asks, eI ports] = some (out_law_all_come draws asks ports r) := by
  refine run_of (f := r16) (tg := [3, 4, 5, 8, 3, 6, 7]) (np := 3) rfl rfl rfl rfl rfl (ρ := [some ((eL eI) draws), some ((eT eI) asks), some (eI ports), none, none, none, none, none, none, none]) rfl ?_
  show W _ _ _ _ (fin_law_all_come draws asks ports r)
  unfold f_law_all_come at h1
  obtain ⟨turn, draws_1, h2, h3⟩ := bs2 h1
  clear h1
  refine w_asg (ρ2 := [some ((eL eI) draws_1), some ((eT eI) asks), some (eI ports), some (eI turn), none, none, none, none, none, none]) (by exact (v_call (ρ2 := [some ((eL eI) draws_1), some ((eT eI) asks), some (eI ports), none, none, none, none, none, none, none]) (as_m (ρ2 := [none, some ((eT eI) asks), some (eI ports), none, none, none, none, none, none, none]) rfl immF_L (as_v rfl (Im.im imI) as_n) rfl rfl) (takeS_of rfl h2) rfl)) rfl ?_
  obtain ⟨found, h4, h5⟩ := lt_of h3
  clear h3
  refine w_asgE (enc := (eL eI)) (v := ([] : (List Int))) (ρ2 := [some ((eL eI) draws_1), some ((eT eI) asks), some (eI ports), some (eI turn), some ((eL eI) found), none, none, none, none, none]) (by exact (v_lst (d := (eL eI) ([] : (List Int))) es_n rfl)) h4 rfl ?_
  obtain ⟨rng, h6, h7⟩ := bs h5
  clear h5
  obtain ⟨c, h31, h32⟩ := bs h7
  clear h7
  refine w_joinF (R := (fun (s : (Int × (List Int))) ρ => ∃ g1 g2, ρ = [some ((eL eI) draws_1), some ((eT eI) asks), some (eI ports), some (eI s.1), some ((eL eI) s.2), g1, none, none, g2, none])) (F := (fin_law_all_come draws asks ports)) (w_forC (e := eI) (xs := rng) (R := (fun (s : (Int × (List Int))) ρ => ∃ g1 g2, ρ = [some ((eL eI) draws_1), some ((eT eI) asks), some (eI ports), some (eI s.1), some ((eL eI) s.2), g1, none, none, g2, none])) (F := (fin_law_all_come draws asks ports)) (by exact (i_rng1 (v_q (q_2 rfl (q_1 (q_v rfl) r1_lenT) r2_mulL) (Im.im imI)) h6)) h31 ⟨_, _, rfl⟩ (fun s _ hR => by obtain ⟨g1, g2, rfl⟩ := hR; exact hd_n) ?_) h32 ?_
  · rintro s step _ _ h8 ⟨g1, g2, rfl⟩
    refine ⟨[some ((eL eI) draws_1), some ((eT eI) asks), some (eI ports), some (eI s.1), some ((eL eI) s.2), some (eI step), none, none, g2, none], rfl, ?_⟩
    obtain ⟨row, h11, h13⟩ := bs h8
    clear h8
    obtain ⟨place, h12, h14⟩ := bs h13
    clear h13
    refine w_asg (ρ2 := [some ((eL eI) draws_1), some ((eT eI) asks), some (eI ports), some (eI s.1), some ((eL eI) s.2), some (eI step), none, none, some (eI place), none]) (by exact (v_call (ρ2 := [some ((eL eI) draws_1), some ((eT eI) asks), some (eI ports), some (eI s.1), some ((eL eI) s.2), some (eI step), none, none, g2, none]) (as_e (v_q rfl (Im.im imS)) (as_v rfl (Im.im (imT imI)) (as_v rfl (Im.im imI) (as_e (v_1 (o_e (v_comp (e := eI) (d := (e2 eI eI)) (ρ2 := [some ((eL eI) draws_1), some ((eT eI) asks), some (eI ports), some (eI s.1), some ((eL eI) s.2), some (eI step), none, none, g2, none]) (ρ3 := [some ((eL eI) draws_1), some ((eT eI) asks), some (eI ports), some (eI s.1), some ((eL eI) s.2), some (eI step), none, none, g2, none]) (i_vT (e := eI) (xs := asks) imI rfl) rfl h11 hd_n (fun own_ _ h9 => by skip; exact t_elE (d := (e2 eI eI)) (ρ1 := [some ((eL eI) draws_1), some ((eT eI) asks), some (eI ports), some (eI s.1), some ((eL eI) s.2), some (eI step), none, none, g2, some (eI own_)]) h9 rfl (v_tup (d := (e2 eI eI) (((0 : Int), own_))) (es_c (v_q rfl (Im.im imI)) (es_c (v_q (q_v rfl) (Im.im imI)) es_n)) rfl) rfl) rfl)) rfl (r1_tupL (im2 imI imI)) (own_im (imT (im2 imI imI)))) as_n)))) (sim_granted h12) rfl)) rfl ?_
    obtain ⟨law_is_place, h15, h16⟩ := bs h14
    clear h14
    rcases its h16 with ⟨h18, h17⟩ | ⟨h18, h19⟩
    · clear h16
      refine w_ifT (by exact (v_or (v_not (v_call (ρ2 := [some ((eL eI) draws_1), some ((eT eI) asks), some (eI ports), some (eI s.1), some ((eL eI) s.2), some (eI step), none, none, some (eI place), none]) (as_v rfl (Im.im imI) (as_v rfl (Im.im imI) as_n)) (sim_law_is_place h15) rfl)) (v_q (q_2 (q_v rfl) (q_v rfl) (r2_notinT shI eqvI)) (Im.im imB)))) h18 ?_
      refine w_ret (by exact (v_q rfl (Im.im imB))) ?_
      cases h17
      exact ⟨_, _, rfl, rfl⟩
    · clear h16
      refine w_ifF (by exact (v_or (v_not (v_call (ρ2 := [some ((eL eI) draws_1), some ((eT eI) asks), some (eI ports), some (eI s.1), some ((eL eI) s.2), some (eI step), none, none, some (eI place), none]) (as_v rfl (Im.im imI) (as_v rfl (Im.im imI) as_n)) (sim_law_is_place h15) rfl)) (v_q (q_2 (q_v rfl) (q_v rfl) (r2_notinT shI eqvI)) (Im.im imB)))) h18 ?_
      refine w_nil ?_
      obtain ⟨found_1, h20, h21⟩ := bs h19
      clear h19
      refine w_app (el := eI) (ρ2 := [some ((eL eI) draws_1), some ((eT eI) asks), some (eI ports), some (eI s.1), some ((eL eI) found_1), some (eI step), none, none, some (eI place), none]) rfl (by exact (v_q (q_v rfl) (Im.im imI))) rfl h20 rfl ?_
      obtain ⟨turn_1, h22, h23⟩ := bs h21
      clear h21
      refine w_asg (ρ2 := [some ((eL eI) draws_1), some ((eT eI) asks), some (eI ports), some (eI turn_1), some ((eL eI) found_1), some (eI step), none, none, some (eI place), none]) (by exact (v_call (ρ2 := [some ((eL eI) draws_1), some ((eT eI) asks), some (eI ports), some (eI s.1), some ((eL eI) found_1), some (eI step), none, none, some (eI place), none]) (as_e (v_q rfl (Im.im imS)) (as_v rfl (Im.im imI) (as_v rfl (Im.im imI) (as_v rfl (Im.im imI) as_n)))) (sim_turn_behind h22) rfl)) rfl ?_
      obtain ⟨mod, h24, h26⟩ := bs h23
      clear h23
      obtain ⟨same_, h25, h27⟩ := bs h26
      clear h26
      rcases its h27 with ⟨h29, h28⟩ | ⟨h29, h30⟩
      · clear h27
        refine w_ifT (by exact (v_not (v_call (ρ2 := [some ((eL eI) draws_1), some ((eT eI) asks), some (eI ports), some (eI turn_1), some ((eL eI) found_1), some (eI step), none, none, some (eI place), none]) (as_v rfl (Im.im imI) (as_e (v_q (q_2 (q_1 (q_2 (q_v rfl) rfl r2_add) r1_int) (q_v rfl) (r2_mod h24)) (Im.im imI)) as_n)) (sameS_of (e := eI) (x := turn_1) (y := mod) rfl h25) rfl))) h29 ?_
        refine w_ret (by exact (v_q rfl (Im.im imB))) ?_
        cases h28
        exact ⟨_, _, rfl, rfl⟩
      · clear h27
        refine w_ifF (by exact (v_not (v_call (ρ2 := [some ((eL eI) draws_1), some ((eT eI) asks), some (eI ports), some (eI turn_1), some ((eL eI) found_1), some (eI step), none, none, some (eI place), none]) (as_v rfl (Im.im imI) (as_e (v_q (q_2 (q_1 (q_2 (q_v rfl) rfl r2_add) r1_int) (q_v rfl) (r2_mod h24)) (Im.im imI)) as_n)) (sameS_of (e := eI) (x := turn_1) (y := mod) rfl h25) rfl))) h29 ?_
        refine w_nil ?_
        refine w_nil ?_
        cases h30
        exact ⟨_, rfl, _, _, rfl⟩
  rintro s_1 _ h33 ⟨g3, g4, rfl⟩
  clear h31 h32
  obtain ⟨first, h34, h35⟩ := lt_of h33
  clear h33
  refine w_asgE (enc := (eL eI)) (v := (cut s_1.2 none (some ((asks.length : Int))))) (ρ2 := [some ((eL eI) draws_1), some ((eT eI) asks), some (eI ports), some (eI s_1.1), some ((eL eI) s_1.2), g3, some ((eL eI) first), none, g4, none]) (by exact (v_sl (o_v rfl) rfl po_n (po_y (q_1 (q_v rfl) r1_lenT)) (r_cutL imI) (own_L imI))) h34 rfl ?_
  obtain ⟨min_, h36, h38⟩ := bs h35
  clear h35
  obtain ⟨at_, h37, h39⟩ := bs h38
  clear h38
  refine w_asg (ρ2 := [some ((eL eI) draws_1), some ((eT eI) asks), some (eI ports), some (eI s_1.1), some ((eL eI) s_1.2), g3, some ((eL eI) first), some (eI at_), g4, none]) (by exact (v_index (q_v rfl) (q_1 (q_v rfl) (r1_minL h36)) (rX_L shI eqvI (hj := h37)))) rfl ?_
  obtain ⟨cat, h40, h45⟩ := bs h39
  clear h39
  obtain ⟨val, h42, h46⟩ := bs h45
  clear h45
  refine w_ret (by exact (v_andM (fun (c_ : Bool) (y : (Bool)) => (eB y, [some ((eL eI) draws_1), some ((eT eI) asks), some (eI ports), some (eI s_1.1), some ((eL eI) s_1.2), g3, some ((eL eI) first), some (eI at_), g4, none])) (v_q (q_2 (q_v rfl) (q_2 (q_v rfl) (q_v rfl) (r2_catL (e := eI) imI (h := h40))) (r2_eq (shL shI) (eqvL eqvI))) (Im.im imB)) h42 (fun _ h43 _ => by obtain ⟨cat_1, h41, h44⟩ := bs h43; clear h43; exact evT (en := (fun (c_ : Bool) (y : (Bool)) => (eB y, [some ((eL eI) draws_1), some ((eT eI) asks), some (eI ports), some (eI s_1.1), some ((eL eI) s_1.2), g3, some ((eL eI) first), some (eI at_), g4, none])) true) h44 (v_2 (o_e (v_2 (o_e (v_sl (o_v rfl) rfl (po_y (q_v rfl)) po_n (r_cutL imI) (own_L imI))) (o_e (v_sl (o_v rfl) rfl po_n (po_y (q_v rfl)) (r_cutL imI) (own_L imI))) (hf_n rfl) rfl rfl (r2_catL (e := eI) imI (h := h41)) (own_L imI))) (o_q (q_1 (q_v rfl) (r1_listT imI))) rfl rfl rfl (r2_eq (shL shI) (eqvL eqvI)) (own_im imB))) rfl)) ?_
  cases h46
  exact rfl
def out_law_oldest_fair (draws : (List Int)) (rounds : (List (List Int))) (ports : Int) (r : (Bool × (List Int))) : Val × List (Option Val) := (eB r.1, [some ((eL eI) r.2), some ((eT (eT eI)) rounds), some (eI ports)])
def fin_law_oldest_fair (draws : (List Int)) (rounds : (List (List Int))) (ports : Int) (r : (Bool × (List Int))) (o : Out) : Prop := finish [3, 4, 5, 6, 3] 3 o = some (out_law_oldest_fair draws rounds ports r)
theorem sim_law_oldest_fair {fu k : Nat} {draws : (List Int)} {rounds : (List (List Int))} {ports : Int} {r : (Bool × (List Int))} (h1 : f_law_oldest_fair draws rounds ports = some r) : run tb fu (k + 14) 17 [(eL eI) draws, (eT (eT eI)) rounds, eI ports] = some (out_law_oldest_fair draws rounds ports r) := by
  refine run_of (f := r17) (tg := [3, 4, 5, 6, 3]) (np := 3) rfl rfl rfl rfl rfl (ρ := [some ((eL eI) draws), some ((eT (eT eI)) rounds), some (eI ports), none, none, none, none, none]) rfl ?_
  show W _ _ _ _ (fin_law_oldest_fair draws rounds ports r)
  unfold f_law_oldest_fair at h1
  refine w_asg (ρ2 := [some ((eL eI) draws), some ((eT (eT eI)) rounds), some (eI ports), some (eI ports), none, none, none, none]) (by exact (v_q (q_v rfl) (Im.im imI))) rfl ?_
  obtain ⟨rng, h2, h8⟩ := bs h1
  clear h1
  obtain ⟨ages, draws_2, h7, h9⟩ := bs2 h8
  clear h8
  refine w_asg (ρ2 := [some ((eL eI) draws_2), some ((eT (eT eI)) rounds), some (eI ports), some (eI ports), some ((eL (e2 eI eI)) ages), none, none, none]) (by exact (v_compS (e := eI) (d := (e2 eI eI)) (ρ3 := [some ((eL eI) draws_2), some ((eT (eT eI)) rounds), some (eI ports), some (eI ports), none, none, none, none]) (fun s : ((List Int)) => [some ((eL eI) s), some ((eT (eT eI)) rounds), some (eI ports), some (eI ports), none, none, none, none]) (i_rng1 (v_q (q_v rfl) (Im.im imI)) h2) rfl h7 (fun _ => hd_n) (fun s own_ _ _ h5 => by obtain ⟨law_take, draws_1, h4, h6⟩ := bs2 h5; clear h5; exact t_elS (d := (e2 eI eI)) (fun s : ((List Int)) => [some ((eL eI) s), some ((eT (eT eI)) rounds), some (eI ports), some (eI ports), none, none, none, none]) (ρ1 := [some ((eL eI) s), some ((eT (eT eI)) rounds), some (eI ports), some (eI ports), none, none, none, some (eI own_)]) h6 rfl (v_tup (d := (e2 eI eI) ((law_take, own_))) (es_c (v_call (ρ2 := [some ((eL eI) draws_1), some ((eT (eT eI)) rounds), some (eI ports), some (eI ports), none, none, none, some (eI own_)]) (as_m (ρ2 := [none, some ((eT (eT eI)) rounds), some (eI ports), some (eI ports), none, none, none, some (eI own_)]) rfl immF_L (as_e (v_q rfl (Im.im imI)) as_n) rfl rfl) (takeS_of rfl h4) rfl) (es_c (v_q (q_v rfl) (Im.im imI)) es_n)) rfl) rfl) rfl)) rfl ?_
  obtain ⟨c, h54, h55⟩ := bs h9
  clear h9
  refine w_joinF (R := (fun (s_1 : ((List Int) × Int × (List (Int × Int)))) ρ => ∃ g1 g2, ρ = [some ((eL eI) s_1.1), some ((eT (eT eI)) rounds), some (eI ports), some (eI s_1.2.1), some ((eL (e2 eI eI)) s_1.2.2), g1, g2, none])) (F := (fin_law_oldest_fair draws rounds ports)) (w_forC (e := (eT eI)) (xs := rounds) (R := (fun (s_1 : ((List Int) × Int × (List (Int × Int)))) ρ => ∃ g1 g2, ρ = [some ((eL eI) s_1.1), some ((eT (eT eI)) rounds), some (eI ports), some (eI s_1.2.1), some ((eL (e2 eI eI)) s_1.2.2), g1, g2, none])) (F := (fin_law_oldest_fair draws rounds ports)) (by exact (i_vT (e := (eT eI)) (xs := rounds) (imT imI) rfl)) h54 ⟨_, _, rfl⟩ (fun s_1 _ hR => by obtain ⟨g1, g2, rfl⟩ := hR; exact hd_n) ?_) h55 ?_
  · rintro s_1 asks _ _ h10 ⟨g1, g2, rfl⟩
    refine ⟨[some ((eL eI) s_1.1), some ((eT (eT eI)) rounds), some (eI ports), some (eI s_1.2.1), some ((eL (e2 eI eI)) s_1.2.2), some ((eT eI) asks), g2, none], rfl, ?_⟩
    obtain ⟨law_take_1, draws_3, h11, h18⟩ := bs2 h10
    clear h10
    obtain ⟨row, h15, h19⟩ := bs h18
    clear h18
    obtain ⟨place, h17, h20⟩ := bs h19
    clear h19
    refine w_asg (ρ2 := [some ((eL eI) draws_3), some ((eT (eT eI)) rounds), some (eI ports), some (eI s_1.2.1), some ((eL (e2 eI eI)) s_1.2.2), some ((eT eI) asks), some (eI place), none]) (by exact (v_call (ρ2 := [some ((eL eI) draws_3), some ((eT (eT eI)) rounds), some (eI ports), some (eI s_1.2.1), some ((eL (e2 eI eI)) s_1.2.2), some ((eT eI) asks), g2, none]) (as_e (v_q rfl (Im.im imS)) (as_v rfl (Im.im (imT imI)) (as_e (v_call (ρ2 := [some ((eL eI) draws_3), some ((eT (eT eI)) rounds), some (eI ports), some (eI s_1.2.1), some ((eL (e2 eI eI)) s_1.2.2), some ((eT eI) asks), g2, none]) (as_m (ρ2 := [none, some ((eT (eT eI)) rounds), some (eI ports), some (eI s_1.2.1), some ((eL (e2 eI eI)) s_1.2.2), some ((eT eI) asks), g2, none]) rfl immF_L (as_v rfl (Im.im imI) as_n) rfl rfl) (takeS_of rfl h11) rfl) (as_e (v_1 (o_e (v_comp (e := eI) (d := (e2 eI eI)) (ρ2 := [some ((eL eI) draws_3), some ((eT (eT eI)) rounds), some (eI ports), some (eI s_1.2.1), some ((eL (e2 eI eI)) s_1.2.2), some ((eT eI) asks), g2, none]) (ρ3 := [some ((eL eI) draws_3), some ((eT (eT eI)) rounds), some (eI ports), some (eI s_1.2.1), some ((eL (e2 eI eI)) s_1.2.2), some ((eT eI) asks), g2, none]) (i_vT (e := eI) (xs := asks) imI rfl) rfl h15 hd_n (fun own_1 _ h13 => by obtain ⟨at_, h12, h16⟩ := bs h13; clear h13; exact t_elE (d := (e2 eI eI)) (ρ1 := [some ((eL eI) draws_3), some ((eT (eT eI)) rounds), some (eI ports), some (eI s_1.2.1), some ((eL (e2 eI eI)) s_1.2.2), some ((eT eI) asks), g2, some (eI own_1)]) h16 rfl (v_q (q_2 (q_v rfl) (q_v rfl) (r2_idxL (h := h12))) (Im.im (im2 imI imI))) rfl) rfl)) rfl (r1_tupL (im2 imI imI)) (own_im (imT (im2 imI imI)))) as_n)))) (sim_granted h17) rfl)) rfl ?_
    obtain ⟨law_is_place, h21, h22⟩ := bs h20
    clear h20
    rcases its h22 with ⟨h24, h23⟩ | ⟨h24, h25⟩
    · clear h22
      refine w_ifT (by exact (v_or (v_not (v_call (ρ2 := [some ((eL eI) draws_3), some ((eT (eT eI)) rounds), some (eI ports), some (eI s_1.2.1), some ((eL (e2 eI eI)) s_1.2.2), some ((eT eI) asks), some (eI place), none]) (as_v rfl (Im.im imI) (as_v rfl (Im.im imI) as_n)) (sim_law_is_place h21) rfl)) (v_q (q_2 (q_v rfl) (q_v rfl) (r2_notinT shI eqvI)) (Im.im imB)))) h24 ?_
      refine w_ret (by exact (v_q rfl (Im.im imB))) ?_
      cases h23
      exact ⟨_, _, rfl, rfl⟩
    · clear h22
      refine w_ifF (by exact (v_or (v_not (v_call (ρ2 := [some ((eL eI) draws_3), some ((eT (eT eI)) rounds), some (eI ports), some (eI s_1.2.1), some ((eL (e2 eI eI)) s_1.2.2), some ((eT eI) asks), some (eI place), none]) (as_v rfl (Im.im imI) (as_v rfl (Im.im imI) as_n)) (sim_law_is_place h21) rfl)) (v_q (q_2 (q_v rfl) (q_v rfl) (r2_notinT shI eqvI)) (Im.im imB)))) h24 ?_
      refine w_nil ?_
      obtain ⟨row_1, h30, h37⟩ := bs h25
      clear h25
      rcases its h37 with ⟨h39, h38⟩ | ⟨h39, h40⟩
      · clear h37
        refine w_ifT (by exact (v_2 (o_e (v_1 (o_e (v_compIf (e := eI) (d := eI) (ρ2 := [some ((eL eI) draws_3), some ((eT (eT eI)) rounds), some (eI ports), some (eI s_1.2.1), some ((eL (e2 eI eI)) s_1.2.2), some ((eT eI) asks), some (eI place), none]) (ρ3 := [some ((eL eI) draws_3), some ((eT (eT eI)) rounds), some (eI ports), some (eI s_1.2.1), some ((eL (e2 eI eI)) s_1.2.2), some ((eT eI) asks), some (eI place), none]) (i_vT (e := eI) (xs := asks) imI rfl) rfl h30 hd_n (fun own_2 h31 => by obtain ⟨at_1, h26, h32⟩ := bs h31; clear h31; obtain ⟨at_2, h27, h33⟩ := bs h32; clear h32; exact t_ifFE (ρ1 := [some ((eL eI) draws_3), some ((eT (eT eI)) rounds), some (eI ports), some (eI s_1.2.1), some ((eL (e2 eI eI)) s_1.2.2), some ((eT eI) asks), some (eI place), some (eI own_2)]) h33 rfl (v_q (q_2 (q_2 (q_v rfl) (q_v rfl) (r2_idxL (h := h26))) (q_2 (q_v rfl) (q_v rfl) (r2_idxL (h := h27))) r2_ltP) (Im.im imB)) rfl) (fun own_2 _ h34 h28 => by obtain ⟨at_1, h26, h35⟩ := bs h34; clear h34; obtain ⟨at_2, h27, h36⟩ := bs h35; clear h35; exact t_ifTE (d := eI) (ρ1 := [some ((eL eI) draws_3), some ((eT (eT eI)) rounds), some (eI ports), some (eI s_1.2.1), some ((eL (e2 eI eI)) s_1.2.2), some ((eT eI) asks), some (eI place), some (eI own_2)]) h36 h28 rfl (v_q (q_2 (q_2 (q_v rfl) (q_v rfl) (r2_idxL (h := h26))) (q_2 (q_v rfl) (q_v rfl) (r2_idxL (h := h27))) r2_ltP) (Im.im imB)) (v_q (q_v rfl) (Im.im imI)) rfl) rfl)) rfl r1_lenL (own_im imI))) (o_q rfl) rfl rfl rfl r2_gt (own_im imB))) h39 ?_
        refine w_ret (by exact (v_q rfl (Im.im imB))) ?_
        cases h38
        exact ⟨_, _, rfl, rfl⟩
      · clear h37
        refine w_ifF (by exact (v_2 (o_e (v_1 (o_e (v_compIf (e := eI) (d := eI) (ρ2 := [some ((eL eI) draws_3), some ((eT (eT eI)) rounds), some (eI ports), some (eI s_1.2.1), some ((eL (e2 eI eI)) s_1.2.2), some ((eT eI) asks), some (eI place), none]) (ρ3 := [some ((eL eI) draws_3), some ((eT (eT eI)) rounds), some (eI ports), some (eI s_1.2.1), some ((eL (e2 eI eI)) s_1.2.2), some ((eT eI) asks), some (eI place), none]) (i_vT (e := eI) (xs := asks) imI rfl) rfl h30 hd_n (fun own_2 h31 => by obtain ⟨at_1, h26, h32⟩ := bs h31; clear h31; obtain ⟨at_2, h27, h33⟩ := bs h32; clear h32; exact t_ifFE (ρ1 := [some ((eL eI) draws_3), some ((eT (eT eI)) rounds), some (eI ports), some (eI s_1.2.1), some ((eL (e2 eI eI)) s_1.2.2), some ((eT eI) asks), some (eI place), some (eI own_2)]) h33 rfl (v_q (q_2 (q_2 (q_v rfl) (q_v rfl) (r2_idxL (h := h26))) (q_2 (q_v rfl) (q_v rfl) (r2_idxL (h := h27))) r2_ltP) (Im.im imB)) rfl) (fun own_2 _ h34 h28 => by obtain ⟨at_1, h26, h35⟩ := bs h34; clear h34; obtain ⟨at_2, h27, h36⟩ := bs h35; clear h35; exact t_ifTE (d := eI) (ρ1 := [some ((eL eI) draws_3), some ((eT (eT eI)) rounds), some (eI ports), some (eI s_1.2.1), some ((eL (e2 eI eI)) s_1.2.2), some ((eT eI) asks), some (eI place), some (eI own_2)]) h36 h28 rfl (v_q (q_2 (q_2 (q_v rfl) (q_v rfl) (r2_idxL (h := h26))) (q_2 (q_v rfl) (q_v rfl) (r2_idxL (h := h27))) r2_ltP) (Im.im imB)) (v_q (q_v rfl) (Im.im imI)) rfl) rfl)) rfl r1_lenL (own_im imI))) (o_q rfl) rfl rfl rfl r2_gt (own_im imB))) h39 ?_
        refine w_nil ?_
        obtain ⟨mod, h41, h44⟩ := bs h40
        clear h40
        obtain ⟨turn_behind, h42, h45⟩ := bs h44
        clear h44
        obtain ⟨same_, h43, h46⟩ := bs h45
        clear h45
        rcases its h46 with ⟨h48, h47⟩ | ⟨h48, h49⟩
        · clear h46
          refine w_ifT (by exact (v_not (v_call (ρ2 := [some ((eL eI) draws_3), some ((eT (eT eI)) rounds), some (eI ports), some (eI s_1.2.1), some ((eL (e2 eI eI)) s_1.2.2), some ((eT eI) asks), some (eI place), none]) (as_e (v_call (ρ2 := [some ((eL eI) draws_3), some ((eT (eT eI)) rounds), some (eI ports), some (eI s_1.2.1), some ((eL (e2 eI eI)) s_1.2.2), some ((eT eI) asks), some (eI place), none]) (as_e (v_q rfl (Im.im imS)) (as_v rfl (Im.im imI) (as_v rfl (Im.im imI) (as_e (v_q (q_2 (q_1 (q_v rfl) r1_int) (q_v rfl) (r2_mod h41)) (Im.im imI)) as_n)))) (sim_turn_behind h42) rfl) (as_v rfl (Im.im imI) as_n)) (sameS_of (e := eI) (x := turn_behind) (y := place) rfl h43) rfl))) h48 ?_
          refine w_ret (by exact (v_q rfl (Im.im imB))) ?_
          cases h47
          exact ⟨_, _, rfl, rfl⟩
        · clear h46
          refine w_ifF (by exact (v_not (v_call (ρ2 := [some ((eL eI) draws_3), some ((eT (eT eI)) rounds), some (eI ports), some (eI s_1.2.1), some ((eL (e2 eI eI)) s_1.2.2), some ((eT eI) asks), some (eI place), none]) (as_e (v_call (ρ2 := [some ((eL eI) draws_3), some ((eT (eT eI)) rounds), some (eI ports), some (eI s_1.2.1), some ((eL (e2 eI eI)) s_1.2.2), some ((eT eI) asks), some (eI place), none]) (as_e (v_q rfl (Im.im imS)) (as_v rfl (Im.im imI) (as_v rfl (Im.im imI) (as_e (v_q (q_2 (q_1 (q_v rfl) r1_int) (q_v rfl) (r2_mod h41)) (Im.im imI)) as_n)))) (sim_turn_behind h42) rfl) (as_v rfl (Im.im imI) as_n)) (sameS_of (e := eI) (x := turn_behind) (y := place) rfl h43) rfl))) h48 ?_
          refine w_nil ?_
          obtain ⟨ages_1, h50, h51⟩ := bs h49
          clear h49
          refine w_sset (el := (e2 eI eI)) (ρ2 := [some ((eL eI) draws_3), some ((eT (eT eI)) rounds), some (eI ports), some (eI s_1.2.1), some ((eL (e2 eI eI)) ages_1), some ((eT eI) asks), some (eI place), none]) (by exact (v_tup (d := (e2 eI eI) ((((3 : Int) + s_1.2.1), s_1.2.1))) (es_c (v_q (q_2 rfl (q_v rfl) r2_add) (Im.im imI)) (es_c (v_q (q_v rfl) (Im.im imI)) es_n)) rfl)) (by exact (q_v rfl)) rfl h50 rfl ?_
          obtain ⟨number, h52, h53⟩ := lt_of h51
          clear h51
          refine w_asgE (enc := eI) (v := (s_1.2.1 + (1 : Int))) (ρ2 := [some ((eL eI) draws_3), some ((eT (eT eI)) rounds), some (eI ports), some (eI number), some ((eL (e2 eI eI)) ages_1), some ((eT eI) asks), some (eI place), none]) (by exact (v_q (q_2 (q_v rfl) rfl r2_add) (Im.im imI))) h52 rfl ?_
          refine w_nil ?_
          cases h53
          exact ⟨_, rfl, _, _, rfl⟩
  rintro s_2 _ h56 ⟨g3, g4, rfl⟩
  clear h54 h55
  refine w_ret (by exact (v_q rfl (Im.im imB))) ?_
  cases h56
  exact rfl
def out_ask_always (asks : (List (List Int))) (rounds : Int) (r : ((List Int))) : Val × List (Option Val) := ((eL eI) r, [some ((eT (eT eI)) asks), some (eI rounds)])
def fin_ask_always (asks : (List (List Int))) (rounds : Int) (r : ((List Int))) (o : Out) : Prop := finish [2, 3, 2] 2 o = some (out_ask_always asks rounds r)
theorem sim_ask_always {fu k : Nat} {asks : (List (List Int))} {rounds : Int} {r : ((List Int))} (h1 : f_ask_always asks rounds = some r) : run tb fu (k + 1) 5 [(eT (eT eI)) asks, eI rounds] = some (out_ask_always asks rounds r) := by
  refine run_of (f := r5) (tg := [2, 3, 2]) (np := 2) rfl rfl rfl rfl rfl (ρ := [some ((eT (eT eI)) asks), some (eI rounds), none, none, none]) rfl ?_
  show W _ _ _ _ (fin_ask_always asks rounds r)
  unfold f_ask_always at h1
  obtain ⟨at_, h2, h3⟩ := bs h1
  clear h1
  refine w_asg (ρ2 := [some ((eT (eT eI)) asks), some (eI rounds), some ((eL eI) at_), none, none]) (by exact (v_1 (o_q (q_2 (q_v rfl) rfl (r2_idxT (h := h2)))) rfl (r1_listT imI) (own_L imI))) rfl ?_
  obtain ⟨rng, h4, h5⟩ := bs h3
  clear h3
  obtain ⟨found_2, h16, h17⟩ := bs h5
  clear h5
  refine w_for (e := eI) (xs := rng) (R := (fun (found : ((List Int))) ρ => ∃ g1, ρ = [some ((eT (eT eI)) asks), some (eI rounds), some ((eL eI) found), g1, none])) (by exact (i_rng2 (v_q rfl (Im.im imI)) (v_q (q_v rfl) (Im.im imI)) h4)) h16 ⟨_, rfl⟩ (fun found _ hR => by obtain ⟨g1, rfl⟩ := hR; exact hd_n) ?_ ?_
  · rintro found at_1 _ _ h6 ⟨g1, rfl⟩
    refine ⟨[some ((eT (eT eI)) asks), some (eI rounds), some ((eL eI) found), some (eI at_1), none], rfl, ?_⟩
    obtain ⟨found_1, h10, h15⟩ := bs h6
    clear h6
    refine w_asg (ρ2 := [some ((eT (eT eI)) asks), some (eI rounds), some ((eL eI) found_1), some (eI at_1), none]) (by exact (v_compIf (e := eI) (d := eI) (ρ2 := [some ((eT (eT eI)) asks), some (eI rounds), some ((eL eI) found), some (eI at_1), none]) (ρ3 := [some ((eT (eT eI)) asks), some (eI rounds), some ((eL eI) found), some (eI at_1), none]) (i_vL (e := eI) (xs := found) imI rfl) rfl h10 (hd_s rfl) (fun place h11 => by obtain ⟨at_2, h7, h12⟩ := bs h11; clear h11; exact t_ifFE (ρ1 := [some ((eT (eT eI)) asks), some (eI rounds), some ((eL eI) found), some (eI at_1), some (eI place)]) h12 rfl (v_q (q_2 (q_v rfl) (q_2 (q_v rfl) (q_v rfl) (r2_idxT (h := h7))) (r2_inT shI eqvI)) (Im.im imB)) rfl) (fun place _ h13 h8 => by obtain ⟨at_2, h7, h14⟩ := bs h13; clear h13; exact t_ifTE (d := eI) (ρ1 := [some ((eT (eT eI)) asks), some (eI rounds), some ((eL eI) found), some (eI at_1), some (eI place)]) h14 h8 rfl (v_q (q_2 (q_v rfl) (q_2 (q_v rfl) (q_v rfl) (r2_idxT (h := h7))) (r2_inT shI eqvI)) (Im.im imB)) (v_q (q_v rfl) (Im.im imI)) rfl) rfl)) rfl ?_
    refine w_nil ?_
    cases h15
    exact ⟨_, rfl, _, rfl⟩
  rintro _ ⟨g2, rfl⟩
  clear h16
  refine w_ret (by exact (v_mv (ρ1 := [some ((eT (eT eI)) asks), some (eI rounds), none, g2, none]) rfl rfl)) ?_
  cases h17
  exact rfl
def out_starved (asks : (List (List Int))) (rounds : Int) (r : ((List Int))) : Val × List (Option Val) := ((eT eI) r, [some ((eT (eT eI)) asks), some (eI rounds)])
def fin_starved (asks : (List (List Int))) (rounds : Int) (r : ((List Int))) (o : Out) : Prop := finish [2, 3] 2 o = some (out_starved asks rounds r)
theorem sim_starved {fu k : Nat} {asks : (List (List Int))} {rounds : Int} {r : ((List Int))} (h1 : f_starved asks rounds = some r) : run tb fu (k + 3) 6 [(eT (eT eI)) asks, eI rounds] = some (out_starved asks rounds r) := by
  refine run_of (f := r6) (tg := [2, 3]) (np := 2) rfl rfl rfl rfl rfl (ρ := [some ((eT (eT eI)) asks), some (eI rounds), none, none, none]) rfl ?_
  show W _ _ _ _ (fin_starved asks rounds r)
  unfold f_starved at h1
  obtain ⟨served, h2, h3⟩ := lt_of h1
  clear h1
  refine w_asgE (enc := (eL eI)) (v := ([] : (List Int))) (ρ2 := [some ((eT (eT eI)) asks), some (eI rounds), some ((eL eI) served), none, none]) (by exact (v_lst (d := (eL eI) ([] : (List Int))) es_n rfl)) h2 rfl ?_
  obtain ⟨rng, h4, h5⟩ := bs h3
  clear h3
  obtain ⟨served_3, h18, h19⟩ := bs h5
  clear h5
  refine w_for (e := eI) (xs := rng) (R := (fun (served_1 : ((List Int))) ρ => ∃ g1, ρ = [some ((eT (eT eI)) asks), some (eI rounds), some ((eL eI) served_1), g1, none])) (by exact (i_rng1 (v_q (q_v rfl) (Im.im imI)) h4)) h18 ⟨_, rfl⟩ (fun served_1 _ hR => by obtain ⟨g1, rfl⟩ := hR; exact hd_n) ?_ ?_
  · rintro served_1 at_ _ _ h6 ⟨g1, rfl⟩
    refine ⟨[some ((eT (eT eI)) asks), some (eI rounds), some ((eL eI) served_1), some (eI at_), none], rfl, ?_⟩
    obtain ⟨at_1, h7, h8⟩ := bs h6
    clear h6
    rcases its h8 with ⟨h10, h9⟩ | ⟨h10, h17⟩
    · clear h8
      refine w_ifT (by exact (v_q (q_2 (q_1 (q_2 (q_v rfl) (q_v rfl) (r2_idxT (h := h7))) r1_lenT) rfl r2_gt) (Im.im imB))) h10 ?_
      obtain ⟨at_2, h11, h14⟩ := bs h9
      clear h9
      obtain ⟨granted, h12, h15⟩ := bs h14
      clear h14
      obtain ⟨served_2, h13, h16⟩ := bs h15
      clear h15
      refine w_app (el := eI) (ρ2 := [some ((eT (eT eI)) asks), some (eI rounds), some ((eL eI) served_2), some (eI at_), none]) rfl (by exact (v_call (ρ2 := [some ((eT (eT eI)) asks), some (eI rounds), some ((eL eI) served_1), some (eI at_), none]) (as_e (v_q rfl (Im.im imS)) (as_e (v_q (q_2 (q_v rfl) (q_v rfl) (r2_idxT (h := h11))) (Im.im (imT imI))) (as_e (v_q rfl (Im.im imI)) (as_e (v_rw (d := (eT (e2 eI eI)) ([] : (List (Int × Int)))) es_n rfl) as_n)))) (sim_granted h12) rfl)) rfl h13 rfl ?_
      refine w_nil ?_
      refine w_nil ?_
      cases h16
      exact ⟨_, rfl, _, rfl⟩
    · clear h8
      refine w_ifF (by exact (v_q (q_2 (q_1 (q_2 (q_v rfl) (q_v rfl) (r2_idxT (h := h7))) r1_lenT) rfl r2_gt) (Im.im imB))) h10 ?_
      refine w_nil ?_
      refine w_nil ?_
      cases h17
      exact ⟨_, rfl, _, rfl⟩
  rintro _ ⟨g2, rfl⟩
  clear h18
  obtain ⟨ask_always, h21, h27⟩ := bs h19
  clear h19
  obtain ⟨row, h24, h28⟩ := bs h27
  clear h27
  refine w_ret (by exact (v_1 (o_e (v_compIf (e := eI) (d := eI) (ρ2 := [some ((eT (eT eI)) asks), some (eI rounds), some ((eL eI) served_3), g2, none]) (ρ3 := [some ((eT (eT eI)) asks), some (eI rounds), some ((eL eI) served_3), g2, none]) (i_eL (e := eI) (xs := ask_always) imI (v_call (ρ2 := [some ((eT (eT eI)) asks), some (eI rounds), some ((eL eI) served_3), g2, none]) (as_v rfl (Im.im (imT (imT imI))) (as_v rfl (Im.im imI) as_n)) (sim_ask_always h21) rfl)) rfl h24 hd_n (fun place h25 => by skip; exact t_ifFE (ρ1 := [some ((eT (eT eI)) asks), some (eI rounds), some ((eL eI) served_3), g2, some (eI place)]) h25 rfl (v_q (q_2 (q_v rfl) (q_v rfl) (r2_notinL shI eqvI)) (Im.im imB)) rfl) (fun place _ h26 h22 => by skip; exact t_ifTE (d := eI) (ρ1 := [some ((eT (eT eI)) asks), some (eI rounds), some ((eL eI) served_3), g2, some (eI place)]) h26 h22 rfl (v_q (q_2 (q_v rfl) (q_v rfl) (r2_notinL shI eqvI)) (Im.im imB)) (v_q (q_v rfl) (Im.im imI)) rfl) rfl)) rfl (r1_tupL imI) (own_im (imT imI)))) ?_
  cases h28
  exact rfl
def out_law_fixed_unfair (draws : (List Int)) (rounds : (List (List Int))) (ports : Int) (r : (Bool × (List Int))) : Val × List (Option Val) := (eB r.1, [some ((eL eI) r.2), some ((eT (eT eI)) rounds), some (eI ports)])
def fin_law_fixed_unfair (draws : (List Int)) (rounds : (List (List Int))) (ports : Int) (r : (Bool × (List Int))) (o : Out) : Prop := finish [3, 4, 8, 9, 5, 6, 7] 3 o = some (out_law_fixed_unfair draws rounds ports r)
theorem sim_law_fixed_unfair {fu k : Nat} {draws : (List Int)} {rounds : (List (List Int))} {ports : Int} {r : (Bool × (List Int))} (h1 : f_law_fixed_unfair draws rounds ports = some r) : run tb fu (k + 14) 18 [(eL eI) draws, (eT (eT eI)) rounds, eI ports] = some (out_law_fixed_unfair draws rounds ports r) := by
  refine run_of (f := r18) (tg := [3, 4, 8, 9, 5, 6, 7]) (np := 3) rfl rfl rfl rfl rfl (ρ := [some ((eL eI) draws), some ((eT (eT eI)) rounds), some (eI ports), none, none, none, none, none, none, none]) rfl ?_
  show W _ _ _ _ (fin_law_fixed_unfair draws rounds ports r)
  unfold f_law_fixed_unfair at h1
  obtain ⟨served, h2, h3⟩ := lt_of h1
  clear h1
  refine w_asgE (enc := (eL eI)) (v := ([] : (List Int))) (ρ2 := [some ((eL eI) draws), some ((eT (eT eI)) rounds), some (eI ports), some ((eL eI) served), none, none, none, none, none, none]) (by exact (v_lst (d := (eL eI) ([] : (List Int))) es_n rfl)) h2 rfl ?_
  obtain ⟨c, h27, h28⟩ := bs h3
  clear h3
  refine w_joinF (R := (fun (s : ((List Int) × (List Int))) ρ => ∃ g1 g2 g3, ρ = [some ((eL eI) s.1), some ((eT (eT eI)) rounds), some (eI ports), some ((eL eI) s.2), g1, none, none, none, g2, g3])) (F := (fin_law_fixed_unfair draws rounds ports)) (w_forC (e := (eT eI)) (xs := rounds) (R := (fun (s : ((List Int) × (List Int))) ρ => ∃ g1 g2 g3, ρ = [some ((eL eI) s.1), some ((eT (eT eI)) rounds), some (eI ports), some ((eL eI) s.2), g1, none, none, none, g2, g3])) (F := (fin_law_fixed_unfair draws rounds ports)) (by exact (i_vT (e := (eT eI)) (xs := rounds) (imT imI) rfl)) h27 ⟨_, _, _, rfl⟩ (fun s _ hR => by obtain ⟨g1, g2, g3, rfl⟩ := hR; exact hd_n) ?_) h28 ?_
  · rintro s asks _ _ h4 ⟨g1, g2, g3, rfl⟩
    refine ⟨[some ((eL eI) s.1), some ((eT (eT eI)) rounds), some (eI ports), some ((eL eI) s.2), some ((eT eI) asks), none, none, none, g2, g3], rfl, ?_⟩
    obtain ⟨turn, draws_1, h5, h6⟩ := bs2 h4
    clear h4
    refine w_asg (ρ2 := [some ((eL eI) draws_1), some ((eT (eT eI)) rounds), some (eI ports), some ((eL eI) s.2), some ((eT eI) asks), none, none, none, some (eI turn), g3]) (by exact (v_call (ρ2 := [some ((eL eI) draws_1), some ((eT (eT eI)) rounds), some (eI ports), some ((eL eI) s.2), some ((eT eI) asks), none, none, none, g2, g3]) (as_m (ρ2 := [none, some ((eT (eT eI)) rounds), some (eI ports), some ((eL eI) s.2), some ((eT eI) asks), none, none, none, g2, g3]) rfl immF_L (as_v rfl (Im.im imI) as_n) rfl rfl) (takeS_of rfl h5) rfl)) rfl ?_
    obtain ⟨law_ages, draws_2, h7, h9⟩ := bs2 h6
    clear h6
    obtain ⟨place, h8, h10⟩ := bs h9
    clear h9
    refine w_asg (ρ2 := [some ((eL eI) draws_2), some ((eT (eT eI)) rounds), some (eI ports), some ((eL eI) s.2), some ((eT eI) asks), none, none, none, some (eI turn), some (eI place)]) (by exact (v_call (ρ2 := [some ((eL eI) draws_2), some ((eT (eT eI)) rounds), some (eI ports), some ((eL eI) s.2), some ((eT eI) asks), none, none, none, some (eI turn), g3]) (as_e (v_q rfl (Im.im imS)) (as_v rfl (Im.im (imT imI)) (as_v rfl (Im.im imI) (as_e (v_call (ρ2 := [some ((eL eI) draws_2), some ((eT (eT eI)) rounds), some (eI ports), some ((eL eI) s.2), some ((eT eI) asks), none, none, none, some (eI turn), g3]) (as_m (ρ2 := [none, some ((eT (eT eI)) rounds), some (eI ports), some ((eL eI) s.2), some ((eT eI) asks), none, none, none, some (eI turn), g3]) rfl immF_L (as_e (v_q (q_1 (q_v rfl) r1_lenT) (Im.im imI)) as_n) rfl rfl) (sim_law_ages h7) rfl) as_n)))) (sim_granted h8) rfl)) rfl ?_
    obtain ⟨min_, h11, h19⟩ := bs h10
    clear h10
    obtain ⟨same_, h12, h20⟩ := bs h19
    clear h19
    obtain ⟨val, h15, h21⟩ := bs h20
    clear h20
    rcases its h21 with ⟨h23, h22⟩ | ⟨h23, h24⟩
    · clear h21
      refine w_ifT (by exact (v_orM (fun (c_ : Bool) (y : (Bool)) => (eB y, [some ((eL eI) draws_2), some ((eT (eT eI)) rounds), some (eI ports), some ((eL eI) s.2), some ((eT eI) asks), none, none, none, some (eI turn), some (eI place)])) (v_not (v_call (ρ2 := [some ((eL eI) draws_2), some ((eT (eT eI)) rounds), some (eI ports), some ((eL eI) s.2), some ((eT eI) asks), none, none, none, some (eI turn), some (eI place)]) (as_v rfl (Im.im imI) (as_e (v_q (q_1 (q_v rfl) (r1_minT h11)) (Im.im imI)) as_n)) (sameS_of (e := eI) (x := place) (y := min_) rfl h12) rfl)) h15 (fun _ h16 _ => by obtain ⟨turn_behind, h13, h17⟩ := bs h16; clear h16; obtain ⟨same_1, h14, h18⟩ := bs h17; clear h17; exact evT (en := (fun (c_ : Bool) (y : (Bool)) => (eB y, [some ((eL eI) draws_2), some ((eT (eT eI)) rounds), some (eI ports), some ((eL eI) s.2), some ((eT eI) asks), none, none, none, some (eI turn), some (eI place)])) false) h18 (v_not (v_call (ρ2 := [some ((eL eI) draws_2), some ((eT (eT eI)) rounds), some (eI ports), some ((eL eI) s.2), some ((eT eI) asks), none, none, none, some (eI turn), some (eI place)]) (as_e (v_call (ρ2 := [some ((eL eI) draws_2), some ((eT (eT eI)) rounds), some (eI ports), some ((eL eI) s.2), some ((eT eI) asks), none, none, none, some (eI turn), some (eI place)]) (as_e (v_q rfl (Im.im imS)) (as_v rfl (Im.im imI) (as_v rfl (Im.im imI) (as_v rfl (Im.im imI) as_n)))) (sim_turn_behind h13) rfl) (as_v rfl (Im.im imI) as_n)) (sameS_of (e := eI) (x := turn_behind) (y := turn) rfl h14) rfl))) rfl)) h23 ?_
      refine w_ret (by exact (v_q rfl (Im.im imB))) ?_
      cases h22
      exact ⟨_, _, rfl, rfl⟩
    · clear h21
      refine w_ifF (by exact (v_orM (fun (c_ : Bool) (y : (Bool)) => (eB y, [some ((eL eI) draws_2), some ((eT (eT eI)) rounds), some (eI ports), some ((eL eI) s.2), some ((eT eI) asks), none, none, none, some (eI turn), some (eI place)])) (v_not (v_call (ρ2 := [some ((eL eI) draws_2), some ((eT (eT eI)) rounds), some (eI ports), some ((eL eI) s.2), some ((eT eI) asks), none, none, none, some (eI turn), some (eI place)]) (as_v rfl (Im.im imI) (as_e (v_q (q_1 (q_v rfl) (r1_minT h11)) (Im.im imI)) as_n)) (sameS_of (e := eI) (x := place) (y := min_) rfl h12) rfl)) h15 (fun _ h16 _ => by obtain ⟨turn_behind, h13, h17⟩ := bs h16; clear h16; obtain ⟨same_1, h14, h18⟩ := bs h17; clear h17; exact evT (en := (fun (c_ : Bool) (y : (Bool)) => (eB y, [some ((eL eI) draws_2), some ((eT (eT eI)) rounds), some (eI ports), some ((eL eI) s.2), some ((eT eI) asks), none, none, none, some (eI turn), some (eI place)])) false) h18 (v_not (v_call (ρ2 := [some ((eL eI) draws_2), some ((eT (eT eI)) rounds), some (eI ports), some ((eL eI) s.2), some ((eT eI) asks), none, none, none, some (eI turn), some (eI place)]) (as_e (v_call (ρ2 := [some ((eL eI) draws_2), some ((eT (eT eI)) rounds), some (eI ports), some ((eL eI) s.2), some ((eT eI) asks), none, none, none, some (eI turn), some (eI place)]) (as_e (v_q rfl (Im.im imS)) (as_v rfl (Im.im imI) (as_v rfl (Im.im imI) (as_v rfl (Im.im imI) as_n)))) (sim_turn_behind h13) rfl) (as_v rfl (Im.im imI) as_n)) (sameS_of (e := eI) (x := turn_behind) (y := turn) rfl h14) rfl))) rfl)) h23 ?_
      refine w_nil ?_
      obtain ⟨served_1, h25, h26⟩ := bs h24
      clear h24
      refine w_app (el := eI) (ρ2 := [some ((eL eI) draws_2), some ((eT (eT eI)) rounds), some (eI ports), some ((eL eI) served_1), some ((eT eI) asks), none, none, none, some (eI turn), some (eI place)]) rfl (by exact (v_q (q_v rfl) (Im.im imI))) rfl h25 rfl ?_
      refine w_nil ?_
      cases h26
      exact ⟨_, rfl, _, _, _, rfl⟩
  rintro s_1 _ h29 ⟨g4, g5, g6, rfl⟩
  clear h27 h28
  obtain ⟨law_take, draws_4, h30, h32⟩ := bs2 h29
  clear h29
  obtain ⟨many, h31, h33⟩ := lt_of h32
  clear h32
  refine w_asgE (enc := eI) (v := ((1 : Int) + law_take)) (ρ2 := [some ((eL eI) draws_4), some ((eT (eT eI)) rounds), some (eI ports), some ((eL eI) s_1.2), g4, some (eI many), none, none, g5, g6]) (by exact (v_2 (o_q rfl) (o_e (v_call (ρ2 := [some ((eL eI) draws_4), some ((eT (eT eI)) rounds), some (eI ports), some ((eL eI) s_1.2), g4, none, none, none, g5, g6]) (as_m (ρ2 := [none, some ((eT (eT eI)) rounds), some (eI ports), some ((eL eI) s_1.2), g4, none, none, none, g5, g6]) rfl immF_L (as_e (v_q (q_1 (q_v rfl) r1_lenT) (Im.im imI)) as_n) rfl rfl) (takeS_of rfl h30) rfl)) (hf_q (Im.im imI (x := (1 : Int)))) rfl rfl r2_add (own_im imI))) h31 rfl ?_
  obtain ⟨due, h34, h35⟩ := lt_of h33
  clear h33
  refine w_asgE (enc := (eL eI)) (v := ([] : (List Int))) (ρ2 := [some ((eL eI) draws_4), some ((eT (eT eI)) rounds), some (eI ports), some ((eL eI) s_1.2), g4, some (eI many), some ((eL eI) due), none, g5, g6]) (by exact (v_lst (d := (eL eI) ([] : (List Int))) es_n rfl)) h34 rfl ?_
  obtain ⟨rng, h36, h37⟩ := bs h35
  clear h35
  obtain ⟨due_3, h53, h54⟩ := bs h37
  clear h37
  refine w_for (e := eI) (xs := rng) (R := (fun (due_1 : ((List Int))) ρ => ∃ g7 g8, ρ = [some ((eL eI) draws_4), some ((eT (eT eI)) rounds), some (eI ports), some ((eL eI) s_1.2), g7, some (eI many), some ((eL eI) due_1), g8, g5, g6])) (by exact (i_rng1 (v_q (q_v rfl) (Im.im imI)) h36)) h53 ⟨_, _, rfl⟩ (fun due_1 _ hR => by obtain ⟨g7, g8, rfl⟩ := hR; exact hd_n) ?_ ?_
  · rintro due_1 own_ _ _ h38 ⟨g7, g8, rfl⟩
    refine ⟨[some ((eL eI) draws_4), some ((eT (eT eI)) rounds), some (eI ports), some ((eL eI) s_1.2), g7, some (eI many), some ((eL eI) due_1), some (eI own_), g5, g6], rfl, ?_⟩
    obtain ⟨val_1, h44, h47⟩ := bs h38
    clear h38
    rcases its h47 with ⟨h49, h48⟩ | ⟨h49, h52⟩
    · clear h47
      refine w_ifT (by exact (v_andM (fun (c_ : Bool) (y : (Bool)) => (eB y, [some ((eL eI) draws_4), some ((eT (eT eI)) rounds), some (eI ports), some ((eL eI) s_1.2), (cond c_ ((keepI g7)) (g7)), some (eI many), some ((eL eI) due_1), some (eI own_), g5, g6])) (v_2 (o_v rfl) (o_e (v_sl (o_v rfl) rfl po_n (po_y (q_v rfl)) (r_cutL imI) (own_L imI))) rfl rfl rfl (r2_notinL shI eqvI) (own_im imB)) h44 (fun _ h45 _ => by obtain ⟨row, h41, h46⟩ := bs h45; clear h45; exact evT (en := (fun (c_ : Bool) (y : (Bool)) => (eB y, [some ((eL eI) draws_4), some ((eT (eT eI)) rounds), some (eI ports), some ((eL eI) s_1.2), (cond c_ ((keepI g7)) (g7)), some (eI many), some ((eL eI) due_1), some (eI own_), g5, g6])) true) h46 (v_2 (o_e (v_1 (o_e (v_compIf (e := (eT eI)) (d := (eT eI)) (ρ2 := [some ((eL eI) draws_4), some ((eT (eT eI)) rounds), some (eI ports), some ((eL eI) s_1.2), none, some (eI many), some ((eL eI) due_1), some (eI own_), g5, g6]) (ρ3 := [some ((eL eI) draws_4), some ((eT (eT eI)) rounds), some (eI ports), some ((eL eI) s_1.2), (keepI g7), some (eI many), some ((eL eI) due_1), some (eI own_), g5, g6]) (i_eT (e := (eT eI)) (xs := (cut rounds none (some many))) (imT imI) (v_sl (o_v rfl) rfl po_n (po_y (q_v rfl)) r_cutT (own_im (imT (imT imI))))) rfl h41 hd_n (fun asks_1 h42 => by skip; exact t_ifFE (ρ1 := [some ((eL eI) draws_4), some ((eT (eT eI)) rounds), some (eI ports), some ((eL eI) s_1.2), some ((eT eI) asks_1), some (eI many), some ((eL eI) due_1), some (eI own_), g5, g6]) h42 rfl (v_q (q_2 (q_v rfl) (q_v rfl) (r2_inT shI eqvI)) (Im.im imB)) rfl) (fun asks_1 _ h43 h39 => by skip; exact t_ifTE (d := (eT eI)) (ρ1 := [some ((eL eI) draws_4), some ((eT (eT eI)) rounds), some (eI ports), some ((eL eI) s_1.2), some ((eT eI) asks_1), some (eI many), some ((eL eI) due_1), some (eI own_), g5, g6]) h43 h39 rfl (v_q (q_2 (q_v rfl) (q_v rfl) (r2_inT shI eqvI)) (Im.im imB)) (v_q (q_v rfl) (Im.im (imT imI))) rfl) rfl)) rfl r1_lenL (own_im imI))) (o_v rfl) rfl rfl rfl (r2_eq shI eqvI) (own_im imB))) rfl)) h49 ?_
      obtain ⟨due_2, h50, h51⟩ := bs h48
      clear h48
      refine w_app (el := eI) (ρ2 := [some ((eL eI) draws_4), some ((eT (eT eI)) rounds), some (eI ports), some ((eL eI) s_1.2), (cond ((!decide (own_ ∈ (cut s_1.2 none (some many))))) ((keepI g7)) (g7)), some (eI many), some ((eL eI) due_2), some (eI own_), g5, g6]) rfl (by exact (v_q (q_v rfl) (Im.im imI))) rfl h50 rfl ?_
      refine w_nil ?_
      refine w_nil ?_
      cases h51
      exact ⟨_, rfl, _, _, rfl⟩
    · clear h47
      refine w_ifF (by exact (v_andM (fun (c_ : Bool) (y : (Bool)) => (eB y, [some ((eL eI) draws_4), some ((eT (eT eI)) rounds), some (eI ports), some ((eL eI) s_1.2), (cond c_ ((keepI g7)) (g7)), some (eI many), some ((eL eI) due_1), some (eI own_), g5, g6])) (v_2 (o_v rfl) (o_e (v_sl (o_v rfl) rfl po_n (po_y (q_v rfl)) (r_cutL imI) (own_L imI))) rfl rfl rfl (r2_notinL shI eqvI) (own_im imB)) h44 (fun _ h45 _ => by obtain ⟨row, h41, h46⟩ := bs h45; clear h45; exact evT (en := (fun (c_ : Bool) (y : (Bool)) => (eB y, [some ((eL eI) draws_4), some ((eT (eT eI)) rounds), some (eI ports), some ((eL eI) s_1.2), (cond c_ ((keepI g7)) (g7)), some (eI many), some ((eL eI) due_1), some (eI own_), g5, g6])) true) h46 (v_2 (o_e (v_1 (o_e (v_compIf (e := (eT eI)) (d := (eT eI)) (ρ2 := [some ((eL eI) draws_4), some ((eT (eT eI)) rounds), some (eI ports), some ((eL eI) s_1.2), none, some (eI many), some ((eL eI) due_1), some (eI own_), g5, g6]) (ρ3 := [some ((eL eI) draws_4), some ((eT (eT eI)) rounds), some (eI ports), some ((eL eI) s_1.2), (keepI g7), some (eI many), some ((eL eI) due_1), some (eI own_), g5, g6]) (i_eT (e := (eT eI)) (xs := (cut rounds none (some many))) (imT imI) (v_sl (o_v rfl) rfl po_n (po_y (q_v rfl)) r_cutT (own_im (imT (imT imI))))) rfl h41 hd_n (fun asks_1 h42 => by skip; exact t_ifFE (ρ1 := [some ((eL eI) draws_4), some ((eT (eT eI)) rounds), some (eI ports), some ((eL eI) s_1.2), some ((eT eI) asks_1), some (eI many), some ((eL eI) due_1), some (eI own_), g5, g6]) h42 rfl (v_q (q_2 (q_v rfl) (q_v rfl) (r2_inT shI eqvI)) (Im.im imB)) rfl) (fun asks_1 _ h43 h39 => by skip; exact t_ifTE (d := (eT eI)) (ρ1 := [some ((eL eI) draws_4), some ((eT (eT eI)) rounds), some (eI ports), some ((eL eI) s_1.2), some ((eT eI) asks_1), some (eI many), some ((eL eI) due_1), some (eI own_), g5, g6]) h43 h39 rfl (v_q (q_2 (q_v rfl) (q_v rfl) (r2_inT shI eqvI)) (Im.im imB)) (v_q (q_v rfl) (Im.im (imT imI))) rfl) rfl)) rfl r1_lenL (own_im imI))) (o_v rfl) rfl rfl rfl (r2_eq shI eqvI) (own_im imB))) rfl)) h49 ?_
      refine w_nil ?_
      refine w_nil ?_
      cases h52
      exact ⟨_, rfl, _, _, rfl⟩
  rintro _ ⟨g9, g10, rfl⟩
  clear h53
  obtain ⟨starved, h56, h58⟩ := bs h54
  clear h54
  obtain ⟨same_2, h57, h59⟩ := bs h58
  clear h58
  refine w_ret (by exact (v_call (ρ2 := [some ((eL eI) draws_4), some ((eT (eT eI)) rounds), some (eI ports), some ((eL eI) s_1.2), g9, some (eI many), some ((eL eI) due_3), g10, g5, g6]) (as_e (v_call (ρ2 := [some ((eL eI) draws_4), some ((eT (eT eI)) rounds), some (eI ports), some ((eL eI) s_1.2), g9, some (eI many), some ((eL eI) due_3), g10, g5, g6]) (as_v rfl (Im.im (imT (imT imI))) (as_v rfl (Im.im imI) as_n)) (sim_starved h56) rfl) (as_e (v_q (q_1 (q_v rfl) (r1_tupL imI)) (Im.im (imT imI))) as_n)) (sameS_of (e := (eT eI)) (x := starved) (y := due_3) rfl h57) rfl)) ?_
  cases h59
  exact rfl
def out_shares_of (kind : PySem.Str) (ports : Int) (rounds : Int) (r : ((List Int))) : Val × List (Option Val) := ((eT eI) r, [some (eS kind), some (eI ports), some (eI rounds)])
def fin_shares_of (kind : PySem.Str) (ports : Int) (rounds : Int) (r : ((List Int))) (o : Out) : Prop := finish [] 3 o = some (out_shares_of kind ports rounds r)
theorem sim_shares_of {fu k : Nat} {kind : PySem.Str} {ports : Int} {rounds : Int} {r : ((List Int))} (h1 : f_shares_of kind ports rounds = some r) : run tb fu (k + 1) 7 [eS kind, eI ports, eI rounds] = some (out_shares_of kind ports rounds r) := by
  refine run_of (f := r7) (tg := []) (np := 3) rfl rfl rfl rfl rfl (ρ := [some (eS kind), some (eI ports), some (eI rounds), none]) rfl ?_
  show W _ _ _ _ (fin_shares_of kind ports rounds r)
  unfold f_shares_of at h1
  obtain ⟨eq_, h2, h3⟩ := bs h1
  clear h1
  rcases its h3 with ⟨h5, h4⟩ | ⟨h5, h16⟩
  · clear h3
    refine w_ifT (by exact (v_q (q_2 (q_v rfl) rfl (r2_eqG eqvS h2)) (Im.im imB))) h5 ?_
    obtain ⟨rng, h6, h14⟩ := bs h4
    clear h4
    obtain ⟨row, h11, h15⟩ := bs h14
    clear h14
    refine w_ret (by exact (v_1 (o_e (v_comp (e := eI) (d := eI) (ρ2 := [some (eS kind), some (eI ports), some (eI rounds), none]) (ρ3 := [some (eS kind), some (eI ports), some (eI rounds), none]) (i_rng1 (v_q (q_v rfl) (Im.im imI)) h6) rfl h11 hd_n (fun place _ h9 => by obtain ⟨div, h7, h12⟩ := bs h9; clear h9; obtain ⟨mod, h8, h13⟩ := bs h12; clear h12; exact t_elE (d := eI) (ρ1 := [some (eS kind), some (eI ports), some (eI rounds), some (eI place)]) h13 rfl (v_q (q_2 (q_2 (q_v rfl) (q_v rfl) (r2_div h7)) (q_1 (q_2 (q_v rfl) (q_2 (q_v rfl) (q_v rfl) (r2_mod h8)) r2_lt) r1_intB) r2_add) (Im.im imI)) rfl) rfl)) rfl (r1_tupL imI) (own_im (imT imI)))) ?_
    cases h15
    exact rfl
  · clear h3
    refine w_ifF (by exact (v_q (q_2 (q_v rfl) rfl (r2_eqG eqvS h2)) (Im.im imB))) h5 ?_
    refine w_nil ?_
    obtain ⟨rep, h17, h19⟩ := bs h16
    clear h16
    obtain ⟨cat, h18, h20⟩ := bs h19
    clear h19
    refine w_ret (by exact (v_2 (o_e (v_rw (d := (eT eI) ([rounds] : (List Int))) (es_c (v_q (q_v rfl) (Im.im imI)) es_n) rfl)) (o_e (v_2 (o_e (v_rw (d := (eT eI) ([(0 : Int)] : (List Int))) (es_c (v_q rfl (Im.im imI)) es_n) rfl)) (o_q (q_2 (q_v rfl) rfl r2_sub)) rfl rfl rfl (r2_repT h17) (own_im (imT imI)))) (hf_n rfl) rfl rfl (r2_catT h18) (own_im (imT imI)))) ?_
    cases h20
    exact rfl
def out_law_shares_fair (draws : (List Int)) (ports : Int) (r : (Bool × (List Int))) : Val × List (Option Val) := (eB r.1, [some ((eL eI) r.2), some (eI ports)])
def fin_law_shares_fair (draws : (List Int)) (ports : Int) (r : (Bool × (List Int))) (o : Out) : Prop := finish [2, 3] 2 o = some (out_law_shares_fair draws ports r)
theorem sim_law_shares_fair {fu k : Nat} {draws : (List Int)} {ports : Int} {r : (Bool × (List Int))} (h1 : f_law_shares_fair draws ports = some r) : run tb fu (k + 14) 19 [(eL eI) draws, eI ports] = some (out_law_shares_fair draws ports r) := by
  refine run_of (f := r19) (tg := [2, 3]) (np := 2) rfl rfl rfl rfl rfl (ρ := [some ((eL eI) draws), some (eI ports), none, none, none]) rfl ?_
  show W _ _ _ _ (fin_law_shares_fair draws ports r)
  unfold f_law_shares_fair at h1
  obtain ⟨law_take, draws_1, h2, h4⟩ := bs2 h1
  clear h1
  obtain ⟨rounds, h3, h5⟩ := lt_of h4
  clear h4
  refine w_asgE (enc := eI) (v := ((1 : Int) + law_take)) (ρ2 := [some ((eL eI) draws_1), some (eI ports), some (eI rounds), none, none]) (by exact (v_2 (o_q rfl) (o_e (v_call (ρ2 := [some ((eL eI) draws_1), some (eI ports), none, none, none]) (as_m (ρ2 := [none, some (eI ports), none, none, none]) rfl immF_L (as_e (v_q rfl (Im.im imI)) as_n) rfl rfl) (takeS_of rfl h2) rfl)) (hf_q (Im.im imI (x := (1 : Int)))) rfl rfl r2_add (own_im imI))) h3 rfl ?_
  obtain ⟨told, h6, h7⟩ := bs h5
  clear h5
  refine w_asg (ρ2 := [some ((eL eI) draws_1), some (eI ports), some (eI rounds), some ((eT eI) told), none]) (by exact (v_call (ρ2 := [some ((eL eI) draws_1), some (eI ports), some (eI rounds), none, none]) (as_e (v_q rfl (Im.im imS)) (as_v rfl (Im.im imI) (as_v rfl (Im.im imI) as_n))) (sim_shares_of h6) rfl)) rfl ?_
  obtain ⟨val_1, h16, h19⟩ := bs h7
  clear h7
  rcases its h19 with ⟨h21, h20⟩ | ⟨h21, h22⟩
  · clear h19
    refine w_ifT (by exact (v_orM (fun (c_ : Bool) (y : (Bool)) => (eB y, [some ((eL eI) draws_1), some (eI ports), some (eI rounds), some ((eT eI) told), none])) (v_not (v_q (q_1 (q_v rfl) rfl) (Im.im imB))) h16 (fun _ h17 _ => by obtain ⟨val, h13, h18⟩ := bs h17; clear h17; exact evT (en := (fun (c_ : Bool) (y : (Bool)) => (eB y, [some ((eL eI) draws_1), some (eI ports), some (eI rounds), some ((eT eI) told), none])) false) h18 (v_orM (fun (c_ : Bool) (y : (Bool)) => (eB y, [some ((eL eI) draws_1), some (eI ports), some (eI rounds), some ((eT eI) told), none])) (v_q (q_2 (q_1 (q_v rfl) r1_lenT) (q_v rfl) (r2_ne shI eqvI)) (Im.im imB)) h13 (fun _ h14 _ => by obtain ⟨row, h10, h15⟩ := bs h14; clear h14; exact evT (en := (fun (c_ : Bool) (y : (Bool)) => (eB y, [some ((eL eI) draws_1), some (eI ports), some (eI rounds), some ((eT eI) told), none])) false) h15 (v_2 (o_e (v_1 (o_e (v_compIf (e := eI) (d := eI) (ρ2 := [some ((eL eI) draws_1), some (eI ports), some (eI rounds), some ((eT eI) told), none]) (ρ3 := [some ((eL eI) draws_1), some (eI ports), some (eI rounds), some ((eT eI) told), none]) (i_vT (e := eI) (xs := told) imI rfl) rfl h10 hd_n (fun one h11 => by skip; exact t_ifFE (ρ1 := [some ((eL eI) draws_1), some (eI ports), some (eI rounds), some ((eT eI) told), some (eI one)]) h11 rfl (v_or (v_not (v_q (q_1 (q_v rfl) rfl) (Im.im imB))) (v_q (q_1 (q_v rfl) rfl) (Im.im imB))) rfl) (fun one _ h12 h8 => by skip; exact t_ifTE (d := eI) (ρ1 := [some ((eL eI) draws_1), some (eI ports), some (eI rounds), some ((eT eI) told), some (eI one)]) h12 h8 rfl (v_or (v_not (v_q (q_1 (q_v rfl) rfl) (Im.im imB))) (v_q (q_1 (q_v rfl) rfl) (Im.im imB))) (v_q (q_v rfl) (Im.im imI)) rfl) rfl)) rfl r1_lenL (own_im imI))) (o_q rfl) rfl rfl rfl r2_gt (own_im imB))) rfl)) rfl)) h21 ?_
    refine w_ret (by exact (v_q rfl (Im.im imB))) ?_
    cases h20
    exact rfl
  · clear h19
    refine w_ifF (by exact (v_orM (fun (c_ : Bool) (y : (Bool)) => (eB y, [some ((eL eI) draws_1), some (eI ports), some (eI rounds), some ((eT eI) told), none])) (v_not (v_q (q_1 (q_v rfl) rfl) (Im.im imB))) h16 (fun _ h17 _ => by obtain ⟨val, h13, h18⟩ := bs h17; clear h17; exact evT (en := (fun (c_ : Bool) (y : (Bool)) => (eB y, [some ((eL eI) draws_1), some (eI ports), some (eI rounds), some ((eT eI) told), none])) false) h18 (v_orM (fun (c_ : Bool) (y : (Bool)) => (eB y, [some ((eL eI) draws_1), some (eI ports), some (eI rounds), some ((eT eI) told), none])) (v_q (q_2 (q_1 (q_v rfl) r1_lenT) (q_v rfl) (r2_ne shI eqvI)) (Im.im imB)) h13 (fun _ h14 _ => by obtain ⟨row, h10, h15⟩ := bs h14; clear h14; exact evT (en := (fun (c_ : Bool) (y : (Bool)) => (eB y, [some ((eL eI) draws_1), some (eI ports), some (eI rounds), some ((eT eI) told), none])) false) h15 (v_2 (o_e (v_1 (o_e (v_compIf (e := eI) (d := eI) (ρ2 := [some ((eL eI) draws_1), some (eI ports), some (eI rounds), some ((eT eI) told), none]) (ρ3 := [some ((eL eI) draws_1), some (eI ports), some (eI rounds), some ((eT eI) told), none]) (i_vT (e := eI) (xs := told) imI rfl) rfl h10 hd_n (fun one h11 => by skip; exact t_ifFE (ρ1 := [some ((eL eI) draws_1), some (eI ports), some (eI rounds), some ((eT eI) told), some (eI one)]) h11 rfl (v_or (v_not (v_q (q_1 (q_v rfl) rfl) (Im.im imB))) (v_q (q_1 (q_v rfl) rfl) (Im.im imB))) rfl) (fun one _ h12 h8 => by skip; exact t_ifTE (d := eI) (ρ1 := [some ((eL eI) draws_1), some (eI ports), some (eI rounds), some ((eT eI) told), some (eI one)]) h12 h8 rfl (v_or (v_not (v_q (q_1 (q_v rfl) rfl) (Im.im imB))) (v_q (q_1 (q_v rfl) rfl) (Im.im imB))) (v_q (q_v rfl) (Im.im imI)) rfl) rfl)) rfl r1_lenL (own_im imI))) (o_q rfl) rfl rfl rfl r2_gt (own_im imB))) rfl)) rfl)) h21 ?_
    refine w_nil ?_
    obtain ⟨val_2, h25, h29⟩ := bs h22
    clear h22
    rcases its h29 with ⟨h31, h30⟩ | ⟨h31, h32⟩
    · clear h29
      refine w_ifT (by exact (v_orM (fun (c_ : Bool) (y : (Bool)) => (eB y, [some ((eL eI) draws_1), some (eI ports), some (eI rounds), some ((eT eI) told), none])) (v_q (q_2 (q_1 (q_v rfl) r1_sumT) (q_v rfl) (r2_ne shI eqvI)) (Im.im imB)) h25 (fun _ h26 _ => by obtain ⟨max_, h23, h27⟩ := bs h26; clear h26; obtain ⟨min_, h24, h28⟩ := bs h27; clear h27; exact evT (en := (fun (c_ : Bool) (y : (Bool)) => (eB y, [some ((eL eI) draws_1), some (eI ports), some (eI rounds), some ((eT eI) told), none])) false) h28 (v_or (v_q (q_2 (q_2 (q_1 (q_v rfl) (r1_maxT h23)) (q_1 (q_v rfl) (r1_minT h24)) r2_sub) rfl r2_gt) (Im.im imB)) (v_q (q_2 (q_1 (q_v rfl) (r1_listT imI)) (q_1 (q_v rfl) r1_sortedRT) (r2_ne (shL shI) (eqvL eqvI))) (Im.im imB)))) rfl)) h31 ?_
      refine w_ret (by exact (v_q rfl (Im.im imB))) ?_
      cases h30
      exact rfl
    · clear h29
      refine w_ifF (by exact (v_orM (fun (c_ : Bool) (y : (Bool)) => (eB y, [some ((eL eI) draws_1), some (eI ports), some (eI rounds), some ((eT eI) told), none])) (v_q (q_2 (q_1 (q_v rfl) r1_sumT) (q_v rfl) (r2_ne shI eqvI)) (Im.im imB)) h25 (fun _ h26 _ => by obtain ⟨max_, h23, h27⟩ := bs h26; clear h26; obtain ⟨min_, h24, h28⟩ := bs h27; clear h27; exact evT (en := (fun (c_ : Bool) (y : (Bool)) => (eB y, [some ((eL eI) draws_1), some (eI ports), some (eI rounds), some ((eT eI) told), none])) false) h28 (v_or (v_q (q_2 (q_2 (q_1 (q_v rfl) (r1_maxT h23)) (q_1 (q_v rfl) (r1_minT h24)) r2_sub) rfl r2_gt) (Im.im imB)) (v_q (q_2 (q_1 (q_v rfl) (r1_listT imI)) (q_1 (q_v rfl) r1_sortedRT) (r2_ne (shL shI) (eqvL eqvI))) (Im.im imB)))) rfl)) h31 ?_
      refine w_nil ?_
      obtain ⟨shares_of, h33, h47⟩ := bs h32
      clear h32
      obtain ⟨rep, h34, h48⟩ := bs h47
      clear h47
      obtain ⟨cat, h35, h49⟩ := bs h48
      clear h48
      obtain ⟨same_, h36, h50⟩ := bs h49
      clear h49
      obtain ⟨val_3, h41, h51⟩ := bs h50
      clear h50
      refine w_ret (by exact (v_andM (fun (c_ : Bool) (y : (Bool)) => (eB y, [some ((eL eI) draws_1), some (eI ports), some (eI rounds), some ((eT eI) told), none])) (v_call (ρ2 := [some ((eL eI) draws_1), some (eI ports), some (eI rounds), some ((eT eI) told), none]) (as_e (v_call (ρ2 := [some ((eL eI) draws_1), some (eI ports), some (eI rounds), some ((eT eI) told), none]) (as_e (v_q rfl (Im.im imS)) (as_v rfl (Im.im imI) (as_v rfl (Im.im imI) as_n))) (sim_shares_of h33) rfl) (as_e (v_2 (o_e (v_rw (d := (eT eI) ([rounds] : (List Int))) (es_c (v_q (q_v rfl) (Im.im imI)) es_n) rfl)) (o_e (v_2 (o_e (v_rw (d := (eT eI) ([(0 : Int)] : (List Int))) (es_c (v_q rfl (Im.im imI)) es_n) rfl)) (o_q (q_2 (q_v rfl) rfl r2_sub)) rfl rfl rfl (r2_repT h34) (own_im (imT imI)))) (hf_n rfl) rfl rfl (r2_catT h35) (own_im (imT imI))) as_n)) (sameS_of (e := (eT eI)) (x := shares_of) (y := cat) rfl h36) rfl) h41 (fun _ h42 _ => by obtain ⟨shares_of_1, h37, h43⟩ := bs h42; clear h42; obtain ⟨rep_1, h38, h44⟩ := bs h43; clear h43; obtain ⟨cat_1, h39, h45⟩ := bs h44; clear h44; obtain ⟨same_1, h40, h46⟩ := bs h45; clear h45; exact evT (en := (fun (c_ : Bool) (y : (Bool)) => (eB y, [some ((eL eI) draws_1), some (eI ports), some (eI rounds), some ((eT eI) told), none])) true) h46 (v_call (ρ2 := [some ((eL eI) draws_1), some (eI ports), some (eI rounds), some ((eT eI) told), none]) (as_e (v_call (ρ2 := [some ((eL eI) draws_1), some (eI ports), some (eI rounds), some ((eT eI) told), none]) (as_e (v_q rfl (Im.im imS)) (as_v rfl (Im.im imI) (as_v rfl (Im.im imI) as_n))) (sim_shares_of h37) rfl) (as_e (v_2 (o_e (v_rw (d := (eT eI) ([rounds] : (List Int))) (es_c (v_q (q_v rfl) (Im.im imI)) es_n) rfl)) (o_e (v_2 (o_e (v_rw (d := (eT eI) ([(0 : Int)] : (List Int))) (es_c (v_q rfl (Im.im imI)) es_n) rfl)) (o_q (q_2 (q_v rfl) rfl r2_sub)) rfl rfl rfl (r2_repT h38) (own_im (imT imI)))) (hf_n rfl) rfl rfl (r2_catT h39) (own_im (imT imI))) as_n)) (sameS_of (e := (eT eI)) (x := shares_of_1) (y := cat_1) rfl h40) rfl)) rfl)) ?_
      cases h51
      exact rfl
def fin_law (r : Bool) (o : Out) : Prop := ∃ os, finish [1, 2, 7, 3, 3, 4, 5, 6, 8, 4] 1 o = some (eB r, os)
theorem sim_law {fu k : Nat} {r : Bool} (ns : List Int) (hl : ns.length ≤ 63) (H : ∀ draws, f_law draws = some r) : ∃ os, run tb fu (k + 15) 20 [.flst ns] = some (.bl r, os) := by
  obtain ⟨draws, hd⟩ := draws_ok (T := tb) (fu := fu) (k := k + 13) (i := 8) rfl ns (m := 2400) (by decide) hl
  have h1 := H draws
  refine run_ofE (f := r20) (tg := [1, 2, 7, 3, 3, 4, 5, 6, 8, 4]) (np := 1) rfl rfl rfl rfl rfl (ρ := [some (eF ns), none, none, none, none, none, none, none, none, none]) rfl ?_
  show W _ _ _ _ (fin_law r)
  unfold f_law at h1
  refine w_asg (ρ2 := [some (eF ns), some (eL eI draws), none, none, none, none, none, none, none, none]) (by exact v_call (ρ2 := [some (eF ns), none, none, none, none, none, none, none, none, none]) (as_v rfl rfl (as_e (v_q rfl rfl) as_n)) hd rfl) rfl ?_
  obtain ⟨c, h36, h37⟩ := bs h1
  clear h1
  refine w_joinF (R := (fun (draws_1 : ((List Int))) ρ => ∃ g1 g2 g3, ρ = [some (eF ns), some ((eL eI) draws_1), g1, g2, none, none, none, g3, none, none])) (F := (fin_law)) (w_forC (e := eI) (xs := ([(3 : Int), (7 : Int)] : (List Int))) (R := (fun (draws_1 : ((List Int))) ρ => ∃ g1 g2 g3, ρ = [some (eF ns), some ((eL eI) draws_1), g1, g2, none, none, none, g3, none, none])) (F := (fin_law)) (by exact (i_eL (e := eI) (xs := ([(3 : Int), (7 : Int)] : (List Int))) imI (v_lst (d := (eL eI) ([(3 : Int), (7 : Int)] : (List Int))) (es_c (v_q rfl (Im.im imI)) (es_c (v_q rfl (Im.im imI)) es_n)) rfl))) h36 ⟨_, _, _, rfl⟩ (fun draws_1 _ hR => by obtain ⟨g1, g2, g3, rfl⟩ := hR; exact hd_n) ?_) h37 ?_
  · rintro draws_1 most _ _ h2 ⟨g1, g2, g3, rfl⟩
    refine ⟨[some (eF ns), some ((eL eI) draws_1), some (eI most), g2, none, none, none, g3, none, none], rfl, ?_⟩
    obtain ⟨law_take, draws_2, h3, h5⟩ := bs2 h2
    clear h2
    obtain ⟨ports, h4, h6⟩ := lt_of h5
    clear h5
    refine w_asgE (enc := eI) (v := ((1 : Int) + law_take)) (ρ2 := [some (eF ns), some ((eL eI) draws_2), some (eI most), g2, none, none, none, some (eI ports), none, none]) (by exact (v_2 (o_q rfl) (o_e (v_call (ρ2 := [some (eF ns), some ((eL eI) draws_2), some (eI most), g2, none, none, none, g3, none, none]) (as_m (ρ2 := [some (eF ns), none, some (eI most), g2, none, none, none, g3, none, none]) rfl immF_L (as_v rfl (Im.im imI) as_n) rfl rfl) (takeS_of rfl h3) rfl)) (hf_q (Im.im imI (x := (1 : Int)))) rfl rfl r2_add (own_im imI))) h4 rfl ?_
    obtain ⟨rounds, draws_3, h7, h8⟩ := bs2 h6
    clear h6
    refine w_asg (ρ2 := [some (eF ns), some ((eL eI) draws_3), some (eI most), some ((eT (eT eI)) rounds), none, none, none, some (eI ports), none, none]) (by exact (v_call (ρ2 := [some (eF ns), some ((eL eI) draws_3), some (eI most), g2, none, none, none, some (eI ports), none, none]) (as_m (ρ2 := [some (eF ns), none, some (eI most), g2, none, none, none, some (eI ports), none, none]) rfl immF_L (as_v rfl (Im.im imI) as_n) rfl rfl) (sim_law_rounds h7) rfl)) rfl ?_
    obtain ⟨law_turns_fair, draws_4, h9, h16⟩ := bs2 h8
    clear h8
    obtain ⟨val, draws_6, h12, h17⟩ := bs2 h16
    clear h16
    rcases its h17 with ⟨h19, h18⟩ | ⟨h19, h20⟩
    · clear h17
      refine w_ifT (by exact (v_orM (fun (c_ : Bool) (y : (Bool × (List Int))) => (eB y.1, [some (eF ns), some ((eL eI) y.2), some (eI most), some ((eT (eT eI)) rounds), none, none, none, some (eI ports), none, none])) (v_not (v_call (ρ2 := [some (eF ns), some ((eL eI) draws_4), some (eI most), some ((eT (eT eI)) rounds), none, none, none, some (eI ports), none, none]) (as_m (ρ2 := [some (eF ns), none, some (eI most), some ((eT (eT eI)) rounds), none, none, none, some (eI ports), none, none]) rfl immF_L (as_v rfl (Im.im (imT (imT imI))) (as_v rfl (Im.im imI) as_n)) rfl rfl) (sim_law_turns_fair h9) rfl)) h12 (fun _ h13 _ => by obtain ⟨at_, h10, h14⟩ := bs h13; clear h13; obtain ⟨law_all_come, draws_5, h11, h15⟩ := bs2 h14; clear h14; exact evT (en := (fun (c_ : Bool) (y : (Bool × (List Int))) => (eB y.1, [some (eF ns), some ((eL eI) y.2), some (eI most), some ((eT (eT eI)) rounds), none, none, none, some (eI ports), none, none])) false) h15 (v_not (v_call (ρ2 := [some (eF ns), some ((eL eI) draws_5), some (eI most), some ((eT (eT eI)) rounds), none, none, none, some (eI ports), none, none]) (as_m (ρ2 := [some (eF ns), none, some (eI most), some ((eT (eT eI)) rounds), none, none, none, some (eI ports), none, none]) rfl immF_L (as_e (v_q (q_2 (q_v rfl) (q_1 rfl r1_neg) (r2_idxT (h := h10))) (Im.im (imT imI))) (as_v rfl (Im.im imI) as_n)) rfl rfl) (sim_law_all_come h11) rfl))) rfl)) h19 ?_
      refine w_ret (by exact (v_q rfl (Im.im imB))) ?_
      cases h18
      exact ⟨_, _, rfl, _, rfl⟩
    · clear h17
      refine w_ifF (by exact (v_orM (fun (c_ : Bool) (y : (Bool × (List Int))) => (eB y.1, [some (eF ns), some ((eL eI) y.2), some (eI most), some ((eT (eT eI)) rounds), none, none, none, some (eI ports), none, none])) (v_not (v_call (ρ2 := [some (eF ns), some ((eL eI) draws_4), some (eI most), some ((eT (eT eI)) rounds), none, none, none, some (eI ports), none, none]) (as_m (ρ2 := [some (eF ns), none, some (eI most), some ((eT (eT eI)) rounds), none, none, none, some (eI ports), none, none]) rfl immF_L (as_v rfl (Im.im (imT (imT imI))) (as_v rfl (Im.im imI) as_n)) rfl rfl) (sim_law_turns_fair h9) rfl)) h12 (fun _ h13 _ => by obtain ⟨at_, h10, h14⟩ := bs h13; clear h13; obtain ⟨law_all_come, draws_5, h11, h15⟩ := bs2 h14; clear h14; exact evT (en := (fun (c_ : Bool) (y : (Bool × (List Int))) => (eB y.1, [some (eF ns), some ((eL eI) y.2), some (eI most), some ((eT (eT eI)) rounds), none, none, none, some (eI ports), none, none])) false) h15 (v_not (v_call (ρ2 := [some (eF ns), some ((eL eI) draws_5), some (eI most), some ((eT (eT eI)) rounds), none, none, none, some (eI ports), none, none]) (as_m (ρ2 := [some (eF ns), none, some (eI most), some ((eT (eT eI)) rounds), none, none, none, some (eI ports), none, none]) rfl immF_L (as_e (v_q (q_2 (q_v rfl) (q_1 rfl r1_neg) (r2_idxT (h := h10))) (Im.im (imT imI))) (as_v rfl (Im.im imI) as_n)) rfl rfl) (sim_law_all_come h11) rfl))) rfl)) h19 ?_
      refine w_nil ?_
      obtain ⟨law_oldest_fair, draws_7, h21, h31⟩ := bs2 h20
      clear h20
      obtain ⟨val_2, draws_11, h27, h32⟩ := bs2 h31
      clear h31
      rcases its h32 with ⟨h34, h33⟩ | ⟨h34, h35⟩
      · clear h32
        refine w_ifT (by exact (v_orM (fun (c_ : Bool) (y : (Bool × (List Int))) => (eB y.1, [some (eF ns), some ((eL eI) y.2), some (eI most), some ((eT (eT eI)) rounds), none, none, none, some (eI ports), none, none])) (v_not (v_call (ρ2 := [some (eF ns), some ((eL eI) draws_7), some (eI most), some ((eT (eT eI)) rounds), none, none, none, some (eI ports), none, none]) (as_m (ρ2 := [some (eF ns), none, some (eI most), some ((eT (eT eI)) rounds), none, none, none, some (eI ports), none, none]) rfl immF_L (as_v rfl (Im.im (imT (imT imI))) (as_v rfl (Im.im imI) as_n)) rfl rfl) (sim_law_oldest_fair h21) rfl)) h27 (fun _ h28 _ => by obtain ⟨law_fixed_unfair, draws_8, h22, h29⟩ := bs2 h28; clear h28; obtain ⟨val_1, draws_10, h24, h30⟩ := bs2 h29; clear h29; exact evT (en := (fun (c_ : Bool) (y : (Bool × (List Int))) => (eB y.1, [some (eF ns), some ((eL eI) y.2), some (eI most), some ((eT (eT eI)) rounds), none, none, none, some (eI ports), none, none])) false) h30 (v_orM (fun (c_ : Bool) (y : (Bool × (List Int))) => (eB y.1, [some (eF ns), some ((eL eI) y.2), some (eI most), some ((eT (eT eI)) rounds), none, none, none, some (eI ports), none, none])) (v_not (v_call (ρ2 := [some (eF ns), some ((eL eI) draws_8), some (eI most), some ((eT (eT eI)) rounds), none, none, none, some (eI ports), none, none]) (as_m (ρ2 := [some (eF ns), none, some (eI most), some ((eT (eT eI)) rounds), none, none, none, some (eI ports), none, none]) rfl immF_L (as_v rfl (Im.im (imT (imT imI))) (as_v rfl (Im.im imI) as_n)) rfl rfl) (sim_law_fixed_unfair h22) rfl)) h24 (fun _ h25 _ => by obtain ⟨law_shares_fair, draws_9, h23, h26⟩ := bs2 h25; clear h25; exact evT (en := (fun (c_ : Bool) (y : (Bool × (List Int))) => (eB y.1, [some (eF ns), some ((eL eI) y.2), some (eI most), some ((eT (eT eI)) rounds), none, none, none, some (eI ports), none, none])) false) h26 (v_not (v_call (ρ2 := [some (eF ns), some ((eL eI) draws_9), some (eI most), some ((eT (eT eI)) rounds), none, none, none, some (eI ports), none, none]) (as_m (ρ2 := [some (eF ns), none, some (eI most), some ((eT (eT eI)) rounds), none, none, none, some (eI ports), none, none]) rfl immF_L (as_v rfl (Im.im imI) as_n) rfl rfl) (sim_law_shares_fair h23) rfl))) rfl)) rfl)) h34 ?_
        refine w_ret (by exact (v_q rfl (Im.im imB))) ?_
        cases h33
        exact ⟨_, _, rfl, _, rfl⟩
      · clear h32
        refine w_ifF (by exact (v_orM (fun (c_ : Bool) (y : (Bool × (List Int))) => (eB y.1, [some (eF ns), some ((eL eI) y.2), some (eI most), some ((eT (eT eI)) rounds), none, none, none, some (eI ports), none, none])) (v_not (v_call (ρ2 := [some (eF ns), some ((eL eI) draws_7), some (eI most), some ((eT (eT eI)) rounds), none, none, none, some (eI ports), none, none]) (as_m (ρ2 := [some (eF ns), none, some (eI most), some ((eT (eT eI)) rounds), none, none, none, some (eI ports), none, none]) rfl immF_L (as_v rfl (Im.im (imT (imT imI))) (as_v rfl (Im.im imI) as_n)) rfl rfl) (sim_law_oldest_fair h21) rfl)) h27 (fun _ h28 _ => by obtain ⟨law_fixed_unfair, draws_8, h22, h29⟩ := bs2 h28; clear h28; obtain ⟨val_1, draws_10, h24, h30⟩ := bs2 h29; clear h29; exact evT (en := (fun (c_ : Bool) (y : (Bool × (List Int))) => (eB y.1, [some (eF ns), some ((eL eI) y.2), some (eI most), some ((eT (eT eI)) rounds), none, none, none, some (eI ports), none, none])) false) h30 (v_orM (fun (c_ : Bool) (y : (Bool × (List Int))) => (eB y.1, [some (eF ns), some ((eL eI) y.2), some (eI most), some ((eT (eT eI)) rounds), none, none, none, some (eI ports), none, none])) (v_not (v_call (ρ2 := [some (eF ns), some ((eL eI) draws_8), some (eI most), some ((eT (eT eI)) rounds), none, none, none, some (eI ports), none, none]) (as_m (ρ2 := [some (eF ns), none, some (eI most), some ((eT (eT eI)) rounds), none, none, none, some (eI ports), none, none]) rfl immF_L (as_v rfl (Im.im (imT (imT imI))) (as_v rfl (Im.im imI) as_n)) rfl rfl) (sim_law_fixed_unfair h22) rfl)) h24 (fun _ h25 _ => by obtain ⟨law_shares_fair, draws_9, h23, h26⟩ := bs2 h25; clear h25; exact evT (en := (fun (c_ : Bool) (y : (Bool × (List Int))) => (eB y.1, [some (eF ns), some ((eL eI) y.2), some (eI most), some ((eT (eT eI)) rounds), none, none, none, some (eI ports), none, none])) false) h26 (v_not (v_call (ρ2 := [some (eF ns), some ((eL eI) draws_9), some (eI most), some ((eT (eT eI)) rounds), none, none, none, some (eI ports), none, none]) (as_m (ρ2 := [some (eF ns), none, some (eI most), some ((eT (eT eI)) rounds), none, none, none, some (eI ports), none, none]) rfl immF_L (as_v rfl (Im.im imI) as_n) rfl rfl) (sim_law_shares_fair h23) rfl))) rfl)) rfl)) h34 ?_
        refine w_nil ?_
        refine w_nil ?_
        cases h35
        exact ⟨_, rfl, _, _, _, rfl⟩
  rintro draws_13 _ h38 ⟨g4, g5, g6, rfl⟩
  clear h36 h37
  obtain ⟨rounds_1, h39, h40⟩ := lt_of h38
  clear h38
  refine w_asgE (enc := (eT (eT eI))) (v := ([([(0 : Int), (1 : Int), (2 : Int)] : (List Int)), ([(0 : Int), (1 : Int), (2 : Int)] : (List Int)), ([(0 : Int), (2 : Int)] : (List Int)), ([(1 : Int), (2 : Int)] : (List Int))] : (List (List Int)))) (ρ2 := [some (eF ns), some ((eL eI) draws_13), g4, some ((eT (eT eI)) rounds_1), none, none, none, g6, none, none]) (by exact (v_rw (d := (eT (eT eI)) ([([(0 : Int), (1 : Int), (2 : Int)] : (List Int)), ([(0 : Int), (1 : Int), (2 : Int)] : (List Int)), ([(0 : Int), (2 : Int)] : (List Int)), ([(1 : Int), (2 : Int)] : (List Int))] : (List (List Int)))) (es_c (v_rw (d := (eT eI) ([(0 : Int), (1 : Int), (2 : Int)] : (List Int))) (es_c (v_q rfl (Im.im imI)) (es_c (v_q rfl (Im.im imI)) (es_c (v_q rfl (Im.im imI)) es_n))) rfl) (es_c (v_rw (d := (eT eI) ([(0 : Int), (1 : Int), (2 : Int)] : (List Int))) (es_c (v_q rfl (Im.im imI)) (es_c (v_q rfl (Im.im imI)) (es_c (v_q rfl (Im.im imI)) es_n))) rfl) (es_c (v_rw (d := (eT eI) ([(0 : Int), (2 : Int)] : (List Int))) (es_c (v_q rfl (Im.im imI)) (es_c (v_q rfl (Im.im imI)) es_n)) rfl) (es_c (v_rw (d := (eT eI) ([(1 : Int), (2 : Int)] : (List Int))) (es_c (v_q rfl (Im.im imI)) (es_c (v_q rfl (Im.im imI)) es_n)) rfl) es_n)))) rfl)) h39 rfl ?_
  obtain ⟨turn, h41, h42⟩ := lt_of h40
  clear h40
  refine w_asgE (enc := eI) (v := (1 : Int)) (ρ2 := [some (eF ns), some ((eL eI) draws_13), g4, some ((eT (eT eI)) rounds_1), some (eI turn), none, none, g6, none, none]) (by exact (v_q rfl (Im.im imI))) h41 rfl ?_
  obtain ⟨found, h43, h44⟩ := lt_of h42
  clear h42
  refine w_asgE (enc := (eL eI)) (v := ([] : (List Int))) (ρ2 := [some (eF ns), some ((eL eI) draws_13), g4, some ((eT (eT eI)) rounds_1), some (eI turn), some ((eL eI) found), none, g6, none, none]) (by exact (v_lst (d := (eL eI) ([] : (List Int))) es_n rfl)) h43 rfl ?_
  obtain ⟨c_1, h61, h62⟩ := bs h44
  clear h44
  refine w_joinF (R := (fun (s : (Int × (List Int))) ρ => ∃ g7 g8, ρ = [some (eF ns), some ((eL eI) draws_13), g4, some ((eT (eT eI)) rounds_1), some (eI s.1), some ((eL eI) s.2), g7, g6, g8, none])) (F := (fin_law)) (w_forC (e := (eT eI)) (xs := rounds_1) (R := (fun (s : (Int × (List Int))) ρ => ∃ g7 g8, ρ = [some (eF ns), some ((eL eI) draws_13), g4, some ((eT (eT eI)) rounds_1), some (eI s.1), some ((eL eI) s.2), g7, g6, g8, none])) (F := (fin_law)) (by exact (i_vT (e := (eT eI)) (xs := rounds_1) (imT imI) rfl)) h61 ⟨_, _, rfl⟩ (fun s _ hR => by obtain ⟨g7, g8, rfl⟩ := hR; exact hd_n) ?_) h62 ?_
  · rintro s asks _ _ h45 ⟨g7, g8, rfl⟩
    refine ⟨[some (eF ns), some ((eL eI) draws_13), g4, some ((eT (eT eI)) rounds_1), some (eI s.1), some ((eL eI) s.2), some ((eT eI) asks), g6, g8, none], rfl, ?_⟩
    obtain ⟨row, h48, h50⟩ := bs h45
    clear h45
    obtain ⟨place, h49, h51⟩ := bs h50
    clear h50
    refine w_asg (ρ2 := [some (eF ns), some ((eL eI) draws_13), g4, some ((eT (eT eI)) rounds_1), some (eI s.1), some ((eL eI) s.2), some ((eT eI) asks), g6, some (eI place), none]) (by exact (v_call (ρ2 := [some (eF ns), some ((eL eI) draws_13), g4, some ((eT (eT eI)) rounds_1), some (eI s.1), some ((eL eI) s.2), some ((eT eI) asks), g6, g8, none]) (as_e (v_q rfl (Im.im imS)) (as_v rfl (Im.im (imT imI)) (as_v rfl (Im.im imI) (as_e (v_1 (o_e (v_comp (e := eI) (d := (e2 eI eI)) (ρ2 := [some (eF ns), some ((eL eI) draws_13), g4, some ((eT (eT eI)) rounds_1), some (eI s.1), some ((eL eI) s.2), some ((eT eI) asks), g6, g8, none]) (ρ3 := [some (eF ns), some ((eL eI) draws_13), g4, some ((eT (eT eI)) rounds_1), some (eI s.1), some ((eL eI) s.2), some ((eT eI) asks), g6, g8, none]) (i_vT (e := eI) (xs := asks) imI rfl) rfl h48 hd_n (fun own_ _ h46 => by skip; exact t_elE (d := (e2 eI eI)) (ρ1 := [some (eF ns), some ((eL eI) draws_13), g4, some ((eT (eT eI)) rounds_1), some (eI s.1), some ((eL eI) s.2), some ((eT eI) asks), g6, g8, some (eI own_)]) h46 rfl (v_tup (d := (e2 eI eI) ((((9 : Int) - own_), own_))) (es_c (v_q (q_2 rfl (q_v rfl) r2_sub) (Im.im imI)) (es_c (v_q (q_v rfl) (Im.im imI)) es_n)) rfl) rfl) rfl)) rfl (r1_tupL (im2 imI imI)) (own_im (imT (im2 imI imI)))) as_n)))) (sim_granted h49) rfl)) rfl ?_
    obtain ⟨law_is_place, h52, h53⟩ := bs h51
    clear h51
    rcases its h53 with ⟨h55, h54⟩ | ⟨h55, h56⟩
    · clear h53
      refine w_ifT (by exact (v_not (v_call (ρ2 := [some (eF ns), some ((eL eI) draws_13), g4, some ((eT (eT eI)) rounds_1), some (eI s.1), some ((eL eI) s.2), some ((eT eI) asks), g6, some (eI place), none]) (as_v rfl (Im.im imI) (as_e (v_q rfl (Im.im imI)) as_n)) (sim_law_is_place h52) rfl))) h55 ?_
      refine w_ret (by exact (v_q rfl (Im.im imB))) ?_
      cases h54
      exact ⟨_, _, rfl, _, rfl⟩
    · clear h53
      refine w_ifF (by exact (v_not (v_call (ρ2 := [some (eF ns), some ((eL eI) draws_13), g4, some ((eT (eT eI)) rounds_1), some (eI s.1), some ((eL eI) s.2), some ((eT eI) asks), g6, some (eI place), none]) (as_v rfl (Im.im imI) (as_e (v_q rfl (Im.im imI)) as_n)) (sim_law_is_place h52) rfl))) h55 ?_
      refine w_nil ?_
      obtain ⟨found_1, h57, h58⟩ := bs h56
      clear h56
      refine w_app (el := eI) (ρ2 := [some (eF ns), some ((eL eI) draws_13), g4, some ((eT (eT eI)) rounds_1), some (eI s.1), some ((eL eI) found_1), some ((eT eI) asks), g6, some (eI place), none]) rfl (by exact (v_q (q_v rfl) (Im.im imI))) rfl h57 rfl ?_
      obtain ⟨turn_1, h59, h60⟩ := bs h58
      clear h58
      refine w_asg (ρ2 := [some (eF ns), some ((eL eI) draws_13), g4, some ((eT (eT eI)) rounds_1), some (eI turn_1), some ((eL eI) found_1), some ((eT eI) asks), g6, some (eI place), none]) (by exact (v_call (ρ2 := [some (eF ns), some ((eL eI) draws_13), g4, some ((eT (eT eI)) rounds_1), some (eI s.1), some ((eL eI) found_1), some ((eT eI) asks), g6, some (eI place), none]) (as_e (v_q rfl (Im.im imS)) (as_v rfl (Im.im imI) (as_e (v_q rfl (Im.im imI)) (as_v rfl (Im.im imI) as_n)))) (sim_turn_behind h59) rfl)) rfl ?_
      refine w_nil ?_
      cases h60
      exact ⟨_, rfl, _, _, rfl⟩
  rintro s_1 _ h63 ⟨g9, g10, rfl⟩
  clear h61 h62
  obtain ⟨val_5, h78, h82⟩ := bs h63
  clear h63
  refine w_ret (by exact (v_andM (fun (c_ : Bool) (y : (Bool)) => (eB y, [some (eF ns), some ((eL eI) draws_13), g4, some ((eT (eT eI)) rounds_1), some (eI s_1.1), some ((eL eI) s_1.2), g9, g6, g10, none])) (v_2 (o_v rfl) (o_e (v_lst (d := (eL eI) ([(1 : Int), (2 : Int), (0 : Int), (1 : Int)] : (List Int))) (es_c (v_q rfl (Im.im imI)) (es_c (v_q rfl (Im.im imI)) (es_c (v_q rfl (Im.im imI)) (es_c (v_q rfl (Im.im imI)) es_n)))) rfl)) rfl rfl rfl (r2_eq (shL shI) (eqvL eqvI)) (own_im imB)) h78 (fun _ h79 _ => by obtain ⟨same_, h64, h80⟩ := bs h79; clear h79; obtain ⟨val_4, h73, h81⟩ := bs h80; clear h80; exact evT (en := (fun (c_ : Bool) (y : (Bool)) => (eB y, [some (eF ns), some ((eL eI) draws_13), g4, some ((eT (eT eI)) rounds_1), some (eI s_1.1), some ((eL eI) s_1.2), g9, g6, g10, none])) true) h81 (v_andM (fun (c_ : Bool) (y : (Bool)) => (eB y, [some (eF ns), some ((eL eI) draws_13), g4, some ((eT (eT eI)) rounds_1), some (eI s_1.1), some ((eL eI) s_1.2), g9, g6, g10, none])) (v_call (ρ2 := [some (eF ns), some ((eL eI) draws_13), g4, some ((eT (eT eI)) rounds_1), some (eI s_1.1), some ((eL eI) s_1.2), g9, g6, g10, none]) (as_v rfl (Im.im imI) (as_e (v_q rfl (Im.im imI)) as_n)) (sameS_of (e := eI) (x := s_1.1) (y := (2 : Int)) rfl h64) rfl) h73 (fun _ h74 _ => by obtain ⟨starved, h65, h75⟩ := bs h74; clear h74; obtain ⟨same_1, h66, h76⟩ := bs h75; clear h75; obtain ⟨val_3, h69, h77⟩ := bs h76; clear h76; exact evT (en := (fun (c_ : Bool) (y : (Bool)) => (eB y, [some (eF ns), some ((eL eI) draws_13), g4, some ((eT (eT eI)) rounds_1), some (eI s_1.1), some ((eL eI) s_1.2), g9, g6, g10, none])) true) h77 (v_andM (fun (c_ : Bool) (y : (Bool)) => (eB y, [some (eF ns), some ((eL eI) draws_13), g4, some ((eT (eT eI)) rounds_1), some (eI s_1.1), some ((eL eI) s_1.2), g9, g6, g10, none])) (v_call (ρ2 := [some (eF ns), some ((eL eI) draws_13), g4, some ((eT (eT eI)) rounds_1), some (eI s_1.1), some ((eL eI) s_1.2), g9, g6, g10, none]) (as_e (v_call (ρ2 := [some (eF ns), some ((eL eI) draws_13), g4, some ((eT (eT eI)) rounds_1), some (eI s_1.1), some ((eL eI) s_1.2), g9, g6, g10, none]) (as_v rfl (Im.im (imT (imT imI))) (as_e (v_q rfl (Im.im imI)) as_n)) (sim_starved h65) rfl) (as_e (v_rw (d := (eT eI) ([(2 : Int)] : (List Int))) (es_c (v_q rfl (Im.im imI)) es_n) rfl) as_n)) (sameS_of (e := (eT eI)) (x := starved) (y := ([(2 : Int)] : (List Int))) rfl h66) rfl) h69 (fun _ h70 _ => by obtain ⟨shares_of, h67, h71⟩ := bs h70; clear h70; obtain ⟨same_2, h68, h72⟩ := bs h71; clear h71; exact evT (en := (fun (c_ : Bool) (y : (Bool)) => (eB y, [some (eF ns), some ((eL eI) draws_13), g4, some ((eT (eT eI)) rounds_1), some (eI s_1.1), some ((eL eI) s_1.2), g9, g6, g10, none])) true) h72 (v_call (ρ2 := [some (eF ns), some ((eL eI) draws_13), g4, some ((eT (eT eI)) rounds_1), some (eI s_1.1), some ((eL eI) s_1.2), g9, g6, g10, none]) (as_e (v_call (ρ2 := [some (eF ns), some ((eL eI) draws_13), g4, some ((eT (eT eI)) rounds_1), some (eI s_1.1), some ((eL eI) s_1.2), g9, g6, g10, none]) (as_e (v_q rfl (Im.im imS)) (as_e (v_q rfl (Im.im imI)) (as_e (v_q rfl (Im.im imI)) as_n))) (sim_shares_of h67) rfl) (as_e (v_rw (d := (eT eI) ([(3 : Int), (3 : Int), (2 : Int)] : (List Int))) (es_c (v_q rfl (Im.im imI)) (es_c (v_q rfl (Im.im imI)) (es_c (v_q rfl (Im.im imI)) es_n))) rfl) as_n)) (sameS_of (e := (eT eI)) (x := shares_of) (y := ([(3 : Int), (3 : Int), (2 : Int)] : (List Int))) rfl h68) rfl)) rfl)) rfl)) rfl)) ?_
  cases h82
  exact ⟨_, rfl⟩
end K42

set_option Elab.async false
set_option linter.all false
set_option maxRecDepth 100000
set_option maxHeartbeats 1000000
set_option synthInstance.maxSize 2000
namespace K42
open NV
theorem eTT : eqG eS ("turns" : PySem.Str) ("turns" : PySem.Str) = some true := by decide +kernel
theorem eOT : eqG eS ("oldest" : PySem.Str) ("turns" : PySem.Str) = some false := by decide +kernel
theorem eFT : eqG eS ("fixed" : PySem.Str) ("turns" : PySem.Str) = some false := by decide +kernel
theorem eOO : eqG eS ("oldest" : PySem.Str) ("oldest" : PySem.Str) = some true := by decide +kernel
theorem eFO : eqG eS ("fixed" : PySem.Str) ("oldest" : PySem.Str) = some false := by decide +kernel
theorem ltP_iff (p q : Int × Int) : ltP p q = true ↔ p.1 < q.1 ∨ p.1 = q.1 ∧ p.2 < q.2 := by
  show (if p.1 = q.1 then decide (p.2 < q.2) else decide (p.1 < q.1)) = true ↔ _
  split <;> simp only [decide_eq_true_eq] <;> omega
/-- a walk that ends the def at its m-th item -/
theorem forC_at {α σ ρ : Type} {f : σ → α → Option (Ctl σ ρ)} {s : σ} {r : ρ} : ∀ (xs : List α) (m : Nat) (x : α), xs[m]? = some x → (∀ i y, i < m → xs[i]? = some y → f s y = some (.nx s)) → f s x = some (.rt r) → forC f xs s = some (.rt r)
  | [], m, x, h, _, _ => by simp at h
  | y :: ys, 0, x, h, _, e => by
    simp at h; subst h
    show (f s y).bind _ = _
    rw [e]; rfl
  | y :: ys, m + 1, x, h, g, e => by
    show (f s y).bind _ = _
    rw [g 0 y (by omega) rfl]
    exact forC_at ys m x (by simpa using h) (fun i z hi hz => g (i + 1) z (by omega) (by simpa using hz)) e
theorem forC_no {α σ ρ : Type} {f : σ → α → Option (Ctl σ ρ)} {s : σ} : ∀ (xs : List α), (∀ y ∈ xs, f s y = some (.nx s)) → forC f xs s = some (.nx s)
  | [], _ => rfl
  | y :: ys, g => by
    show (f s y).bind _ = _
    rw [g y (by simp)]
    exact forC_no ys fun z hz => g z (by simp [hz])
/-- places that ask -/
structure Asks (p : Nat) (xs : List Int) : Prop where
  asc : xs.Pairwise (· < ·)
  rng : ∀ x ∈ xs, 0 ≤ x ∧ x < p
  len : xs.length ≤ p
theorem rgL_asc (n : Nat) : (rgL 0 n).Pairwise (· < ·) := by
  unfold rgL
  exact List.pairwise_map.mpr (List.pairwise_lt_range.imp fun h => by omega)
theorem sub_asks {p : Nat} {xs : List Int} (h : xs.Sublist (rgL 0 p)) : Asks p xs := ⟨(rgL_asc p).sublist h, fun x hx => by
  have := rgL_mem.mp (h.subset hx); omega, by have := h.length_le; rwa [rgL_len] at this⟩
/-- the place granted by turns -/
structure ByTurn (xs : List Int) (turn g : Int) : Prop where
  mem : g ∈ xs
  way : (turn ≤ g ∧ ∀ x ∈ xs, turn ≤ x → g ≤ x) ∨ ((∀ x ∈ xs, x < turn) ∧ ∀ x ∈ xs, g ≤ x)
theorem head_le {xs : List Int} {a : Int} (h : (a :: xs).Pairwise (· < ·)) : ∀ x ∈ a :: xs, a ≤ x := fun x hx => by
  rcases List.mem_cons.mp hx with e | hx
  · omega
  · have := (List.pairwise_cons.mp h).1 x hx; omega
theorem turns_ok (turn : Int) (xs : List Int) (hx : xs ≠ []) (h : xs.Pairwise (· < ·)) : ∃ g, f_place_by_turns xs turn = some g ∧ ByTurn xs turn g := by
  unfold f_place_by_turns
  by_cases hg : ∃ x ∈ xs, turn ≤ x
  · obtain ⟨m, hm, q1, q2⟩ : ∃ m, ∃ hm : m < xs.length, turn ≤ xs[m] ∧ ∀ i (hi : i < m), ¬ turn ≤ xs[i] := by
      cases e : xs.findIdx? (fun x => decide (turn ≤ x)) with
      | none =>
        obtain ⟨x, hx, ht⟩ := hg
        have := List.findIdx?_eq_none_iff.mp e x hx
        simp at this; omega
      | some m =>
        obtain ⟨hm, h1, h2⟩ := List.findIdx?_eq_some_iff_getElem.mp e
        exact ⟨m, hm, by simpa using h1, fun i hi => by simpa using h2 i hi⟩
    refine ⟨xs[m], ?_, List.getElem_mem hm, .inl ⟨q1, fun x hx ht => ?_⟩⟩
    · rw [forC_at (r := xs[m]) xs m xs[m] (List.getElem?_eq_getElem hm) (fun i y hi hy => by
        obtain ⟨h1, rfl⟩ := List.getElem?_eq_some_iff.mp hy
        rw [if_neg (by simpa using q2 i hi)]) (by rw [if_pos (by simpa using q1)])]
      rfl
    · obtain ⟨i, hi, rfl⟩ := List.mem_iff_getElem.mp hx
      by_cases c : i < m
      · exact absurd ht (q2 i c)
      · by_cases c2 : i = m
        · subst c2; exact Int.le_refl _
        · have := List.pairwise_iff_getElem.mp h m i hm hi (by omega); omega
  · have hn : ∀ x ∈ xs, x < turn := fun x hx => by
      by_cases c : turn ≤ x
      · exact absurd ⟨x, hx, c⟩ hg
      · omega
    cases xs with
    | nil => exact absurd rfl hx
    | cons a xs =>
      refine ⟨a, ?_, by simp, .inr ⟨hn, head_le h⟩⟩
      rw [forC_no _ fun y hy => by rw [if_neg (by have := hn y hy; simp; omega)]]
      show (L2.atI (a :: xs) 0).bind _ = _
      rw [at_zero]; rfl
/-- the first of the least -/
structure Least (ages : List (Int × Int)) (b : Nat) (n : Nat) : Prop where
  lt : b < ages.length
  le : ∀ k (h : k < ages.length), k < n → ltP ages[k] (ages[b]'lt) = false
  first : ∀ k (h : k < b), ltP (ages[b]'lt) (ages[k]'(by omega)) = true
theorem minOf_ok : ∀ (r : List (Int × Int)) (p : Int × Int), (PySem.W.minOf p r = p ∨ PySem.W.minOf p r ∈ r) ∧ ltP p (PySem.W.minOf p r) = false ∧ ∀ y ∈ r, ltP y (PySem.W.minOf p r) = false
  | [], p => ⟨.inl rfl, by
    have := ltP_iff p p
    cases e : ltP p p with
    | false => exact e
    | true => have := this.mp e; omega, fun y h => by simp at h⟩
  | x :: r, p => by
    have e : PySem.W.minOf p (x :: r) = PySem.W.minOf (if ltP x p = true then x else p) r := rfl
    obtain ⟨h1, h2, h3⟩ := minOf_ok r (if ltP x p = true then x else p)
    rw [e]
    generalize PySem.W.minOf (if ltP x p = true then x else p) r = m at h1 h2 h3
    have a1 := ltP_iff x p
    have a2 := ltP_iff x m
    have a3 := ltP_iff p m
    refine ⟨?_, ?_, fun y hy => ?_⟩
    · by_cases c : ltP x p = true
      · rw [if_pos c] at h1
        rcases h1 with h1 | h1
        · exact .inr (by rw [h1]; simp)
        · exact .inr (by simp [h1])
      · rw [if_neg c] at h1
        rcases h1 with h1 | h1
        · exact .inl h1
        · exact .inr (by simp [h1])
    · by_cases c : ltP x p = true
      · rw [if_pos c] at h2
        have b1 := a1.mp c
        have b2 : ¬ (x.1 < m.1 ∨ x.1 = m.1 ∧ x.2 < m.2) := fun q => by rw [a2.mpr q] at h2; cases h2
        cases e : ltP p m with
        | false => rfl
        | true => have := a3.mp e; omega
      · rw [if_neg c] at h2; exact h2
    · rcases List.mem_cons.mp hy with rfl | hy
      · by_cases c : ltP y p = true
        · rw [if_pos c] at h2; exact h2
        · rw [if_neg c] at h2
          have b1 : ¬ (y.1 < p.1 ∨ y.1 = p.1 ∧ y.2 < p.2) := fun q => c (a1.mpr q)
          have b2 : ¬ (p.1 < m.1 ∨ p.1 = m.1 ∧ p.2 < m.2) := fun q => by rw [a3.mpr q] at h2; cases h2
          cases e : ltP y m with
          | false => rfl
          | true => have := a2.mp e; omega
      · exact h3 y hy
theorem best_ok (ages : List (Int × Int)) (h0 : 0 < ages.length) : ∃ b : Nat, forS (fun (best_1 : Int) (k_ : Int) => (L2.atI ages k_).bind fun at_ => (L2.atI ages best_1).bind fun at_1 => if (ltP at_ at_1) = true then some k_ else some best_1) (rgL 0 ages.length) (0 : Int) = some (b : Int) ∧ Least ages b ages.length := by
  obtain ⟨s, e, b, rfl, hb⟩ := yes_forSr (f := fun (best_1 : Int) (k_ : Int) => (L2.atI ages k_).bind fun at_ => (L2.atI ages best_1).bind fun at_1 => if (ltP at_ at_1) = true then some k_ else some best_1) (lo := 0) (n := ages.length) (s := (0 : Int)) (fun i s => ∃ b : Nat, s = (b : Int) ∧ Least ages b i) ⟨0, rfl, h0, fun k _ h => by omega, fun k h => by omega⟩ (fun i s hi ⟨b, hs, hb⟩ => by
    subst hs
    obtain ⟨hl, h1, h2⟩ := hb
    rw [Int.zero_add]
    refine yes_to (at_nat hi) (yes_to (at_nat hl) (yes_if (fun c => yes_some ⟨i, rfl, hi, fun k hk hki => ?_, fun k hk => ?_⟩) fun c => yes_some ⟨b, rfl, hl, fun k hk hki => ?_, h2⟩))
    · have a1 := ltP_iff ages[i] ages[b]
      by_cases ek : k = i
      · subst ek
        cases e : ltP ages[k] ages[k] with
        | false => rfl
        | true => have := (ltP_iff ages[k] ages[k]).mp e; omega
      · have q := h1 k hk (by omega)
        cases e : ltP ages[k] ages[i] with
        | false => rfl
        | true =>
          have b1 := (ltP_iff ages[k] ages[i]).mp e
          have b2 := a1.mp c
          have : ltP ages[k] ages[b] = true := (ltP_iff _ _).mpr (by omega)
          rw [this] at q; cases q
    · have q := h1 k (by omega) hk
      have b2 := (ltP_iff ages[i] ages[b]).mp c
      have b3 : ¬ (ages[k].1 < ages[b].1 ∨ ages[k].1 = ages[b].1 ∧ ages[k].2 < ages[b].2) := fun z => by rw [(ltP_iff _ _).mpr z] at q; cases q
      exact (ltP_iff _ _).mpr (by omega)
    · by_cases ek : k = i
      · subst ek; exact c
      · exact h1 k hk (by omega))
  exact ⟨b, e, hb⟩
theorem ages_ok (asks : List Int) (ages : List (Int × Int)) (hl : ages.length = asks.length) (h0 : asks ≠ []) : ∃ (b : Nat) (h : b < asks.length), f_place_by_ages asks ages = some asks[b] ∧ Least ages b ages.length := by
  have hpos : 0 < ages.length := by rw [hl]; exact List.length_pos_iff.mpr h0
  obtain ⟨b, e, hb, h1, h2⟩ := best_ok ages hpos
  have hba : b < asks.length := by omega
  refine ⟨b, hba, ?_, hb, h1, h2⟩
  unfold f_place_by_ages
  cases ages with
  | nil => simp at hpos
  | cons p r =>
    obtain ⟨m1, m2, m3⟩ := minOf_ok r p
    have hmem : PySem.W.minOf p r ∈ p :: r := by
      rcases m1 with m1 | m1
      · rw [m1]; simp
      · simp [m1]
    have hle : ∀ y ∈ p :: r, ltP y (PySem.W.minOf p r) = false := fun y hy => by
      rcases List.mem_cons.mp hy with rfl | hy
      · exact m2
      · exact m3 y hy
    have eb : (p :: r)[b] = PySem.W.minOf p r := by
      obtain ⟨i, hi, ei⟩ := List.mem_iff_getElem.mp hmem
      have q1 := h1 i hi hi
      have q2 := hle _ (List.getElem_mem hb)
      rw [ei] at q1
      generalize PySem.W.minOf p r = m at q1 q2
      have b1 : ¬ (m.1 < ((p :: r)[b]).1 ∨ m.1 = ((p :: r)[b]).1 ∧ m.2 < ((p :: r)[b]).2) := fun z => by rw [(ltP_iff m (p :: r)[b]).mpr z] at q1; cases q1
      have b2 : ¬ (((p :: r)[b]).1 < m.1 ∨ ((p :: r)[b]).1 = m.1 ∧ ((p :: r)[b]).2 < m.2) := fun z => by rw [(ltP_iff (p :: r)[b] m).mpr z] at q2; cases q2
      exact Prod.ext (by omega) (by omega)
    have ix : idxS (p :: r) (PySem.W.minOf p r) = some (b : Int) := by
      unfold idxS
      rw [List.findIdx?_eq_some_iff_getElem.mpr ⟨hb, by simp [eb], fun j hj => by
        have q := h2 j hj
        rw [eb] at q
        have : (p :: r)[j]'(by omega) ≠ PySem.W.minOf p r := fun z => by
          rw [z] at q
          have := (ltP_iff _ _).mp q; omega
        simpa using this⟩]
      rfl
    show (some (PySem.W.minOf p r)).bind _ = _
    rw [Option.bind_some, ix, Option.bind_some, at_nat hba]; rfl
end K42

set_option Elab.async false
set_option linter.all false
set_option maxRecDepth 100000
set_option maxHeartbeats 1000000
set_option synthInstance.maxSize 2000
namespace K42
open NV
theorem pick3 {α : Type} {a b c : α} {x : Int} (h0 : 0 ≤ x) (h : x < 3) : ∃ m, L2.atI [a, b, c] x = some m ∧ (m = a ∨ m = b ∨ m = c) := by
  have : x = 0 ∨ x = 1 ∨ x = 2 := by omega
  rcases this with rfl | rfl | rfl
  · exact ⟨a, rfl, .inl rfl⟩
  · exact ⟨b, rfl, .inr (.inl rfl)⟩
  · exact ⟨c, rfl, .inr (.inr rfl)⟩
theorem popA_ok {α : Type} {xs : List α} {k : Int} (h0 : 0 ≤ k) (h : k < xs.length) (hk : xs.length ≤ 1000000) : ∃ x, popA xs k = some (x, xs.eraseIdx k.toNat) := by
  obtain ⟨n, rfl⟩ := Int.eq_ofNat_of_zero_le h0
  have hn : n < xs.length := by omega
  refine ⟨xs[n], ?_⟩
  unfold popA
  rw [if_pos (by omega), ixN_nat hn, Option.bind_some, List.getElem?_eq_getElem hn]; rfl
theorem places_ok (draws : List Int) {p : Nat} (hp : 0 < p) (hp2 : p ≤ 1000) {rare : Int} (hr : 0 < rare) : Yes (f_law_places draws p rare) (fun r => Asks p r.1 ∧ r.1 ≠ []) := by
  unfold f_law_places
  refine yes_to (rg_nat (by omega)) ?_
  refine yes_compSf (id : Int → Int) (by rw [rgL_len]; omega) (fun s x _ => ?_) fun ys D hs => ?_
  · exact yes_take hr fun v D _ _ => yes_if (fun _ => yes_some (.inl rfl)) fun _ => yes_some (.inr rfl)
  · rw [List.map_id]
    have ha := sub_asks hs
    refine yes_b2 (P := fun _ f => Asks p f ∧ f ≠ []) (yes_if (fun c => ?_) fun c => yes_some ⟨ha, ?_⟩) fun D2 f h => yes_some h
    · have e : ys = [] := by
        have := of_decide_eq_true c
        exact List.length_eq_zero_iff.mp (by omega)
      subst e
      refine yes_take (by omega) fun v D2 h1 h2 => yes_to (snoc_ok (by simp)) (yes_some ⟨⟨?_, ?_, ?_⟩, by simp⟩)
      · simp
      · intro x hx
        have e : x = v := by simpa using hx
        omega
      · simp; omega
    · intro e
      subst e
      simp at c
theorem lages_ok (draws : List Int) {n : Nat} (hn : n ≤ 1000) : Yes (f_law_ages draws n) (fun r => r.1.length = n) := by
  unfold f_law_ages
  refine yes_to (rg_nat (by omega)) (yes_take (by decide) fun x D h0 h1 => ?_)
  obtain ⟨m, e, hm⟩ := pick3 (a := (1 : Int)) (b := 4) (c := 10000) h0 h1
  refine yes_to e (yes_lt (yes_to (rg_nat (by omega)) (yes_b3 (P := fun _ _ f => f.length = n) ?_ fun _ _ f h => yes_some h)))
  refine yes_imp (yes_forSr (fun i s => s.2.1.length = n - i ∧ s.2.2.length = i) ⟨by show (rgL 0 n).length = _; rw [rgL_len]; omega, rfl⟩ fun i s hi ⟨h2, h3⟩ => ?_) fun s h => h.2
  refine yes_take (by omega) fun a D2 _ _ => yes_take (by omega) fun k D3 hk hk2 => ?_
  obtain ⟨y, e2⟩ := popA_ok (xs := s.2.1) hk hk2 (by omega)
  refine yes_b2to e2 (yes_to (snoc_ok (by omega)) (yes_some ⟨?_, by simp [h3]⟩))
  show (s.2.1.eraseIdx k.toNat).length = _
  rw [List.length_eraseIdx, if_pos (by omega)]; omega
/-! ### shares -/
def cs (p k : Nat) : List Int := (List.range p).map fun i => ((k / p + (if i < k % p then 1 else 0) : Nat) : Int)
theorem cs_len {p k : Nat} : (cs p k).length = p := by simp [cs]
theorem rgL_ne {p : Nat} (hp : 0 < p) : rgL 0 p ≠ [] := fun e => by
  have := rgL_len (lo := 0) (n := p)
  rw [e] at this; simp at this; omega
theorem rgL_cons {p : Nat} (hp : 0 < p) : ∃ r, rgL 0 p = 0 :: r := by
  obtain ⟨m, rfl⟩ : ∃ m, p = m + 1 := ⟨p - 1, by omega⟩
  unfold rgL
  rw [List.range_succ_eq_map]
  exact ⟨_, rfl⟩
theorem shares_turns {p k : Nat} (hp : 0 < p) (hp2 : p ≤ 1000) (hk : k ≤ 1000) : f_shares_of ("turns" : PySem.Str) p k = some (cs p k) := by
  unfold f_shares_of
  rw [eTT, Option.bind_some, if_pos rfl, rg_nat (by omega), Option.bind_some]
  rw [compO_ok (fun x : Int => ((k / p + (if x < ((k % p : Nat) : Int) then 1 else 0) : Nat) : Int)) (by rw [rgL_len]; omega) fun x hx => ?_]
  · rw [Option.bind_some]
    congr 1
    unfold cs rgL
    rw [List.map_map]
    refine List.map_congr_left fun i _ => ?_
    simp only [Function.comp, Int.zero_add]
    congr 2
    by_cases c : i < k % p
    · rw [if_pos c, if_pos (by omega)]
    · rw [if_neg c, if_neg (by omega)]
  · have big : ((p : Nat) : Int) < 2 ^ 8999 := by
      have : (1000 : Int) < 2 ^ 8999 := by decide +kernel
      omega
    rw [divS_ok (by omega) big, Option.bind_some, modS_ok (by omega), Option.bind_some]
    congr 1
    have e1 : ((k : Nat) : Int) / (p : Int) = ((k / p : Nat) : Int) := rfl
    have e2 : ((k : Nat) : Int) % (p : Int) = ((k % p : Nat) : Int) := rfl
    rw [e1, e2]
    by_cases c : x < ((k % p : Nat) : Int)
    · rw [if_pos (by simpa using c), if_pos c]; omega
    · rw [if_neg (by simpa using c), if_neg c]; omega
theorem shares_else {kind : PySem.Str} (he : eqG eS kind ("turns" : PySem.Str) = some false) {p k : Nat} (hp : 0 < p) (hp2 : p ≤ 1000) : f_shares_of kind p k = some ((k : Int) :: List.replicate (p - 1) 0) := by
  unfold f_shares_of
  rw [he, Option.bind_some, if_neg (by decide), repT_ok (by omega) (by omega) (by simp), Option.bind_some, show ((p : Int) - 1).toNat = p - 1 by omega, rep1, catS_ok (by simp; omega)]; rfl
theorem sub_filt {xs ys : List Int} (h : xs.Sublist ys) (hn : ys.Nodup) : ys.filter (fun y => decide (y ∈ xs)) = xs := by
  induction h with
  | slnil => rfl
  | @cons l1 l2 a h ih =>
    have hn := List.nodup_cons.mp hn
    rw [List.filter_cons_of_neg (by simpa using fun q => hn.1 (h.subset q))]
    exact ih hn.2
  | @cons_cons l1 l2 a h ih =>
    have hn := List.nodup_cons.mp hn
    rw [List.filter_cons_of_pos (by simp)]
    congr 1
    refine .trans (List.filter_congr fun y hy => ?_) (ih hn.2)
    have : y ≠ a := fun e => hn.1 (e ▸ hy)
    simp [this]
theorem rgL_nodup (p : Nat) : (rgL 0 p).Nodup := (rgL_asc p).imp fun h => by omega
theorem cut_to {α : Type} (S : List α) (n : Nat) : cut S none (some (n : Int)) = S.take n := by
  unfold cut
  rw [HT.sIx_none, HT.sIx_nat, Nat.sub_zero, List.drop_zero]
  by_cases h : n ≤ S.length
  · rw [show min n S.length = n by omega]
  · rw [show min n S.length = S.length by omega, List.take_of_length_le (by omega), List.take_of_length_le (by omega)]
def some_ (row : List Int) : Bool := decide ((0 : Int) < (row.length : Int))
def hd (row : List Int) : Int := row.headD 0
theorem hd_at {row : List Int} (h : some_ row = true) : L2.atI row 0 = some (hd row) := by
  cases row with
  | nil => cases h
  | cons a r => exact at_zero
def firsts (A : List (List Int)) : List Int := (A.filter some_).map hd
def kept (p : Nat) (A : List (List Int)) : List Int := (rgL 0 p).filter fun x => decide (∀ row ∈ A, x ∈ row)
theorem fixed_ok {row : List Int} (h : some_ row = true) : f_granted ("fixed" : PySem.Str) row 0 [] = some (hd row) := by
  unfold f_granted
  rw [eFT, Option.bind_some, if_neg (by decide), eFO, Option.bind_some, if_neg (by decide), hd_at h]; rfl
theorem served_ok (A : List (List Int)) (r : Nat) (hr : r ≤ A.length) (hr2 : r ≤ 1000) : forS (fun (served_1 : List Int) (at_ : Int) => (L2.atI A at_).bind fun at_1 => if (decide ((0 : Int) < (at_1.length : Int))) = true then (L2.atI A at_).bind fun at_2 => (f_granted ("fixed" : PySem.Str) at_2 0 ([] : List (Int × Int))).bind fun granted => (snoc served_1 granted).bind fun served_2 => some served_2 else some served_1) (rgL 0 r) [] = some (firsts (A.take r)) := by
  refine (yes_forSr (fun i s => s = firsts (A.take i)) rfl fun i s hi e => ?_).eq
  have hi2 : i < A.length := by omega
  rw [Int.zero_add]
  have et : A.take (i + 1) = A.take i ++ [A[i]] := by rw [List.take_succ, List.getElem?_eq_getElem hi2]; rfl
  have hl : s.length ≤ i := by
    rw [e]
    unfold firsts
    rw [List.length_map]
    exact Nat.le_trans (List.length_filter_le _ _) (by simp; omega)
  refine yes_to (at_nat hi2) (yes_if (fun c => ?_) fun c => yes_some ?_)
  · refine yes_to (at_nat hi2) (yes_to (fixed_ok c) (yes_to (snoc_ok (by omega)) (yes_some ?_)))
    rw [et, e]
    unfold firsts
    rw [List.filter_append, List.filter_cons_of_pos (show some_ A[i] = true from c), List.map_append]; rfl
  · rw [et, e]
    unfold firsts
    rw [List.filter_append, List.filter_cons_of_neg (by rw [show some_ A[i] = false from c]; decide), List.map_append]; simp
theorem always_ok {p : Nat} (hp2 : p ≤ 1000) {A : List (List Int)} (hA : ∀ row ∈ A, row.Sublist (rgL 0 p)) {r : Nat} (h1 : 1 ≤ r) (hr : r ≤ A.length) (hr2 : r ≤ 1000) : f_ask_always A r = some (kept p (A.take r)) := by
  unfold f_ask_always
  have h0 : 0 < A.length := by omega
  have ea : L2.atI A 0 = some A[0] := at_nat (j := 0) h0
  rw [ea, Option.bind_some, rg2_ok (by omega) (by omega) (by omega) (by omega), Option.bind_some]
  have e := (yes_forSr (f := fun (found : List Int) (at_1 : Int) => (compF found (fun (place : Int) => (L2.atI A at_1).bind fun at_2 => some (decide (place ∈ at_2))) (fun (place : Int) => some place)).bind fun found_1 => some found_1) (lo := 1) (n := ((r : Int) - 1).toNat) (s := A[0]) (fun i s => s = kept p (A.take (i + 1))) ?_ fun i s hi e => ?_).eq
  · rw [e, show ((r : Int) - 1).toNat + 1 = r by omega]; rfl
  · unfold kept
    have et : A.take (0 + 1) = [A[0]] := by rw [List.take_succ, List.getElem?_eq_getElem h0]; rfl
    rw [et]
    refine .trans (sub_filt (hA _ (List.getElem_mem h0)) (rgL_nodup p)).symm (List.filter_congr fun y _ => decide_eq_decide.mpr ⟨fun h row q => ?_, fun h => h _ (by simp)⟩)
    rw [List.mem_singleton.mp q]; exact h
  · have hi2 : i + 1 < A.length := by omega
    have et : A.take (i + 1 + 1) = A.take (i + 1) ++ [A[i + 1]] := by rw [List.take_succ, List.getElem?_eq_getElem hi2]; rfl
    have hl : s.length ≤ p := by
      rw [e]
      refine Nat.le_trans (List.length_filter_le _ _) (by rw [rgL_len]; omega)
    have ex : (1 : Int) + (i : Int) = ((i + 1 : Nat) : Int) := by omega
    rw [ex]
    refine yes_to (compF_ok (fun place => decide (place ∈ A[i + 1])) id (by omega) (fun x _ => by rw [at_nat hi2]; rfl) fun x _ _ => rfl) (yes_some ?_)
    rw [List.map_id, e, et]
    unfold kept
    rw [List.filter_filter]
    refine List.filter_congr fun y _ => ?_
    refine (Bool.decide_and _ _).symm.trans (decide_eq_decide.mpr ⟨fun ⟨a, b⟩ row h => ?_, fun h => ⟨h _ (List.mem_append.mpr (.inr (List.mem_singleton.mpr rfl))), fun row q => h row (List.mem_append.mpr (.inl q))⟩⟩)
    rcases List.mem_append.mp h with h | h
    · exact b row h
    · rw [List.mem_singleton.mp h]; exact a
theorem starv_ok {p : Nat} (hp2 : p ≤ 1000) {A : List (List Int)} (hA : ∀ row ∈ A, row.Sublist (rgL 0 p)) {r : Nat} (h1 : 1 ≤ r) (hr : r ≤ A.length) (hr2 : r ≤ 1000) : f_starved A r = some ((kept p (A.take r)).filter fun x => !decide (x ∈ firsts (A.take r))) := by
  unfold f_starved
  rw [lt_eq, rg_nat (by omega), Option.bind_some, served_ok A r hr hr2, Option.bind_some, always_ok hp2 hA h1 hr hr2, Option.bind_some, compF_self]
  · rfl
  · refine Nat.lt_of_le_of_lt (List.length_filter_le _ _) (by rw [rgL_len]; omega)
end K42

set_option Elab.async false
set_option linter.all false
set_option maxRecDepth 100000
set_option maxHeartbeats 1000000
set_option synthInstance.maxSize 2000
namespace K42
open NV
theorem asc_sub {p : Nat} {xs : List Int} (h1 : xs.Pairwise (· < ·)) (h2 : ∀ x ∈ xs, 0 ≤ x ∧ x < p) : xs.Sublist (rgL 0 p) := by
  have e : xs = (rgL 0 p).filter (fun y => decide (y ∈ xs)) := asc_eq h1 ((rgL_asc p).filter _) fun k => by
    rw [List.mem_filter, rgL_mem]
    simp only [decide_eq_true_eq]
    exact ⟨fun h => ⟨by have := h2 k h; omega, h⟩, fun h => h.2⟩
  rw [e]; exact List.filter_sublist
theorem Asks.sub {p : Nat} {xs : List Int} (h : Asks p xs) : xs.Sublist (rgL 0 p) := asc_sub h.asc h.rng
/-- a round of asks -/
def G (p : Nat) (row : List Int) : Prop := Asks p row ∧ row ≠ []
theorem rounds_ok (draws : List Int) {p : Nat} (hp : 0 < p) (hp2 : p ≤ 30) : Yes (f_law_rounds draws p) (fun r => (∀ row ∈ r.1, G p row) ∧ 0 < r.1.length ∧ r.1.length ≤ 40) := by
  unfold f_law_rounds
  refine yes_take (by decide) fun style D _ _ => ?_
  refine yes_b2 (P := fun a _ => G p a) (places_ok D hp (by omega) (by decide)) fun always D1 ⟨ha, ha0⟩ => yes_lt (yes_take (by decide) fun x D2 h0 h1 => ?_)
  obtain ⟨m, e, hm⟩ := pick3 (a := (4 : Int)) (b := 12) (c := 40) h0 h1
  refine yes_to e (yes_take (by omega) fun v D3 hv hv2 => ?_)
  obtain ⟨n, hn⟩ : ∃ n : Nat, 1 + v = (n : Int) := ⟨(1 + v).toNat, by omega⟩
  rw [hn]
  refine yes_to (rg_nat (by omega)) ?_
  refine yes_b2 (P := fun _ A => A.length = n ∧ ∀ row ∈ A, G p row) (yes_imp (yes_forSr (fun i s => s.2.length = i ∧ ∀ row ∈ s.2, G p row) ⟨rfl, fun _ h => by cases h⟩ fun i s hi ⟨q1, q2⟩ => ?_) fun s h => h) fun D4 A ⟨hl, hA⟩ => yes_some ⟨hA, by show 0 < A.length; omega, by show A.length ≤ 40; omega⟩
  refine yes_b2 (P := fun a _ => G p a) (places_ok s.1 hp (by omega) (by decide)) fun asks D5 hg => ?_
  refine yes_bind (P := G p) (yes_if (fun _ => ?_) fun _ => yes_some hg) fun a1 hg1 => yes_bind (P := G p) (yes_if (fun _ => ?_) fun _ => yes_some hg1) fun a2 hg2 => ?_
  · have l1 := hg.1.len
    have l2 := ha.len
    refine yes_to (catS_ok (by omega)) (yes_to (a := sset (asks ++ always)) (if_pos (by rw [List.length_append]; omega)) (yes_some ?_))
    have hm : ∀ k, k ∈ sset (asks ++ always) ↔ k ∈ asks ∨ k ∈ always := fun k => by rw [sset_mem, List.mem_append]
    refine ⟨sub_asks (asc_sub sset_pair fun k hk => ?_), fun e => ?_⟩
    · rcases (hm k).mp hk with h | h
      · exact hg.1.rng k h
      · exact ha.rng k h
    · obtain ⟨k, hk⟩ := List.exists_mem_of_ne_nil _ hg.2
      have := (hm k).mpr (.inl hk)
      rw [e] at this; cases this
  · exact yes_to (rg_nat (by omega)) (yes_some ⟨sub_asks (List.Sublist.refl _), rgL_ne hp⟩)
  · refine yes_to (snoc_ok (by omega)) (yes_some ⟨by simp [q1], fun row h => ?_⟩)
    rcases List.mem_append.mp h with h | h
    · exact q2 row h
    · rw [List.mem_singleton.mp h]; exact hg2
theorem cyc {p : Nat} {a x : Int} (ha : 0 ≤ a ∧ a < p) (hx : 0 ≤ x ∧ x < p) : (a - x) % (p : Int) = if x ≤ a then a - x else a - x + p := by
  split
  · exact Int.emod_eq_of_lt (by omega) (by omega)
  · rw [← Int.add_emod_right, Int.emod_eq_of_lt (by omega) (by omega)]
/-- one that waits: who went ahead of it -/
structure Wt (p : Nat) (own : Int) (A : List Int) (t : Int) : Prop where
  nd : A.Nodup
  far : ∀ a ∈ A, (own - t) % (p : Int) < (own - a) % (p : Int)
  few : (A.length : Int) + (own - t) % (p : Int) ≤ p - 1
theorem wt_nil {p : Nat} (hp : 0 < p) {own t : Int} : Wt p own [] t := ⟨List.nodup_nil, fun _ h => (by cases h), by
  have := Int.emod_lt_of_pos (own - t) (show (0 : Int) < p by omega)
  simp; omega⟩
theorem wt_next {p : Nat} {own t g : Int} {A asks : List Int} (w : Wt p own A t) (b : ByTurn asks t g) (hr : ∀ x ∈ asks, 0 ≤ x ∧ x < (p : Int)) (ho : own ∈ asks) (hg : own ≠ g) (ht : 0 ≤ t ∧ t < p) : Wt p own (A ++ [g]) ((g + 1) % p) := by
  have h1 := hr own ho
  have h2 := hr g b.mem
  have e1 := cyc h1 ht
  have e2 := cyc h1 h2
  have e3 : (own - (g + 1) % (p : Int)) % (p : Int) = (own - g) % (p : Int) - 1 := by
    by_cases c : g + 1 < p
    · rw [Int.emod_eq_of_lt (by omega) c, cyc h1 ⟨by omega, c⟩, e2]
      split <;> split <;> omega
    · have : g + 1 = p := by omega
      rw [this, Int.emod_self, cyc h1 ⟨by omega, by omega⟩, e2]
      split <;> split <;> omega
  have le : (own - g) % (p : Int) ≤ (own - t) % (p : Int) := by
    rw [e1, e2]
    rcases b.way with ⟨q1, q2⟩ | ⟨q1, q2⟩
    · have := q2 own ho
      split <;> split <;> omega
    · have := q1 own ho
      have := q2 own ho
      split <;> split <;> omega
  refine ⟨?_, fun a ha => ?_, ?_⟩
  · refine List.nodup_append.mpr ⟨w.nd, by simp, fun x hx y hy e => ?_⟩
    have hy := List.mem_singleton.mp hy
    subst hy; subst e
    have := w.far x hx
    omega
  · rw [e3]
    rcases List.mem_append.mp ha with ha | ha
    · have := w.far a ha; omega
    · rw [List.mem_singleton.mp ha]; omega
  · rw [e3, List.length_append]
    have := w.few
    simp; omega
theorem nset_nd {A : List Int} (h : A.Nodup) : nset A = A.length := by
  unfold nset
  rw [L2.firstMet_nodup A h A.length (Nat.le_refl _), List.take_length]
theorem isP {p : Nat} {g : Int} (h : 0 ≤ g ∧ g < p) : f_law_is_place g p = some true := by
  unfold f_law_is_place
  simp [h.1, h.2]
theorem gr_turns {asks : List Int} {turn : Int} {ages : List (Int × Int)} {g : Int} (h : f_place_by_turns asks turn = some g) : f_granted ("turns" : PySem.Str) asks turn ages = some g := by
  unfold f_granted
  rw [eTT, Option.bind_some, if_pos rfl, h]; rfl
theorem tb_turns {place turn : Int} {p : Nat} (hp : 0 < p) : f_turn_behind ("turns" : PySem.Str) place p turn = some ((place + 1) % p) := by
  unfold f_turn_behind
  rw [eTT, Option.bind_some, if_pos rfl, modS_ok (by omega)]; rfl
theorem fair_ok (draws : List Int) {p : Nat} (hp : 0 < p) (hp2 : p ≤ 30) (A : List (List Int)) (hA : ∀ row ∈ A, G p row) : Yes (f_law_turns_fair draws A p) (fun r => r.1 = true) := by
  unfold f_law_turns_fair
  refine yes_take (by omega) fun t0 D h0 h1 => ?_
  refine yes_to (a := (p : Int) - 1) rfl (yes_to (sameS_ok rfl nest_I) (yes_ifF rfl (yes_to (rg_nat (by omega)) ?_)))
  refine yes_to (compO_pure (g := fun _ => ([] : List Int)) (by rw [rgL_len]; omega)) ?_
  have rl : ((rgL 0 p).map fun _ => ([] : List Int)).length = p := by rw [List.length_map, rgL_len]
  refine yes_forCa (fun s => (0 ≤ s.2.1 ∧ s.2.1 < p) ∧ s.2.2.length = p ∧ ∀ (j : Nat) (h : j < s.2.2.length), Wt p j s.2.2[j] s.2.1) ⟨⟨h0, h1⟩, rl, fun j h => ?_⟩ (fun asks hk s ⟨ht, hl, hw⟩ => ?_) fun _ _ => yes_some rfl
  · simp only [List.getElem_map]; exact wt_nil hp
  obtain ⟨ha, hne⟩ := hA asks hk
  have hal := ha.len
  refine yes_b2 (P := fun a _ => a.length = asks.length) (lages_ok s.1 (n := asks.length) (by omega)) fun ages D2 _ => ?_
  obtain ⟨g, e, b⟩ := turns_ok s.2.1 asks hne ha.asc
  have hg := ha.rng g b.mem
  refine yes_to (gr_turns e) (yes_to (isP hg) (yes_ifF (by simp [b.mem]) (yes_to (rg_nat (by omega)) ?_)))
  have ht2 : 0 ≤ (g + 1) % (p : Int) ∧ (g + 1) % (p : Int) < p := ⟨Int.emod_nonneg _ (by omega), Int.emod_lt_of_pos _ (by omega)⟩
  refine yes_forCr (fun i A => A.length = p ∧ ∀ (j : Nat) (h : j < A.length), Wt p j A[j] (if j < i then (g + 1) % (p : Int) else s.2.1)) ⟨hl, fun j h => ?_⟩ (fun i A hi ⟨q1, q2⟩ => ?_) fun A ⟨q1, q2⟩ => ?_
  · rw [if_neg (by omega)]; exact hw j h
  · rw [Int.zero_add]
    have hi2 : i < A.length := by omega
    have old := q2 i hi2
    rw [if_neg (by omega)] at old
    refine yes_bind (P := fun B => ∃ X, B = A.set i X ∧ Wt p i X ((g + 1) % (p : Int))) (yes_if (fun _ => ?_) fun c => ?_) fun B ⟨X, hB, wX⟩ => ?_
    · exact yes_to (set_nat hi2) (yes_some ⟨[], rfl, wt_nil hp⟩)
    · simp only [Bool.or_eq_false_iff, decide_eq_false_iff_not, Bool.not_eq_false', decide_eq_true_eq] at c
      have f := old.few
      have := Int.emod_nonneg ((i : Int) - s.2.1) (show (p : Int) ≠ 0 by omega)
      refine yes_to (at_nat hi2) (yes_to (catS_ok (by simp; omega)) (yes_to (set_nat hi2) (yes_some ⟨_, rfl, wt_next old b ha.rng c.2 c.1 ht⟩)))
    · subst hB
      have hiX : i < (A.set i X).length := by rw [List.length_set]; exact hi2
      have eX : (A.set i X)[i] = X := List.getElem_set_self hiX
      refine yes_to (at_nat hiX) ?_
      rw [eX]
      have f := wX.few
      have := Int.emod_nonneg ((i : Int) - (g + 1) % (p : Int)) (show (p : Int) ≠ 0 by omega)
      refine yes_bind (P := fun v => v = false) (yes_ifF (by simp; omega) (yes_to (at_nat hiX) ?_)) fun v hv => yes_ifF hv (yes_nx ⟨by rw [List.length_set]; exact q1, fun j h => ?_⟩)
      · rw [eX]
        refine yes_to (a := (X.length : Int)) ?_ (yes_to (at_nat hiX) (yes_some ?_))
        · unfold nsetS
          rw [nset_nd wX.nd]
          exact if_pos (by omega)
        · rw [eX]; simp
      · rw [List.getElem_set]
        by_cases c : i = j
        · subst c
          rw [if_pos rfl, if_pos (by omega)]; exact wX
        · rw [if_neg c]
          have := q2 j (by rw [List.length_set] at h; exact h)
          by_cases c2 : j < i
          · rw [if_pos (by omega)]; rwa [if_pos c2] at this
          · rw [if_neg (by omega)]; rwa [if_neg c2] at this
  · refine yes_to (tb_turns hp) (yes_to (isP ht2) (yes_ifF rfl (yes_nx ⟨ht2, q1, fun j h => ?_⟩)))
    have h : j < A.length := h
    have := q2 j h
    rwa [if_pos (by omega)] at this
end K42

set_option Elab.async false
set_option linter.all false
set_option maxRecDepth 100000
set_option maxHeartbeats 1000000
set_option synthInstance.maxSize 2000
namespace K42
open NV
theorem fmin : ∀ (r : List Int) (n : Int), (r.foldl min n = n ∨ r.foldl min n ∈ r) ∧ r.foldl min n ≤ n ∧ ∀ x ∈ r, r.foldl min n ≤ x
  | [], n => ⟨.inl rfl, Int.le_refl _, fun _ h => by cases h⟩
  | a :: r, n => by
    obtain ⟨h1, h2, h3⟩ := fmin r (min n a)
    rw [List.foldl_cons]
    generalize r.foldl min (min n a) = z at h1 h2 h3
    refine ⟨?_, by omega, fun x hx => ?_⟩
    · rcases h1 with h1 | h1
      · by_cases c : n ≤ a
        · exact .inl (by omega)
        · exact .inr (by rw [show z = a by omega]; simp)
      · exact .inr (by simp [h1])
    · rcases List.mem_cons.mp hx with rfl | hx
      · omega
      · exact h3 x hx
theorem minS_ok {xs : List Int} {y : Int} (h : y ∈ xs) (hl : ∀ x ∈ xs, y ≤ x) : minS xs = some y := by
  cases xs with
  | nil => cases h
  | cons n r =>
    obtain ⟨h1, h2, h3⟩ := fmin r n
    have e : r.foldl min n = y := by
      have q : r.foldl min n ∈ n :: r := by
        rcases h1 with h1 | h1
        · rw [h1]; simp
        · simp [h1]
      have := hl _ q
      rcases List.mem_cons.mp h with rfl | h
      · omega
      · have := h3 y h; omega
    show some (r.foldl min n) = _
    rw [e]
theorem fmax : ∀ (r : List Int) (n : Int), r.foldl max n = n ∨ r.foldl max n ∈ r
  | [], n => .inl rfl
  | a :: r, n => by
    rw [List.foldl_cons]
    rcases fmax r (max n a) with h | h
    · rw [h]
      by_cases c : a ≤ n
      · exact .inl (by omega)
      · exact .inr (by rw [show max n a = a by omega]; simp)
    · exact .inr (by simp [h])
theorem maxS_in {xs : List Int} (h : xs ≠ []) : ∃ y ∈ xs, maxS xs = some y := by
  cases xs with
  | nil => exact absurd rfl h
  | cons n r =>
    refine ⟨_, ?_, rfl⟩
    rcases fmax r n with h | h
    · rw [h]; simp
    · simp [h]
theorem minS_in {xs : List Int} (h : xs ≠ []) : ∃ y ∈ xs, minS xs = some y := by
  cases xs with
  | nil => exact absurd rfl h
  | cons n r =>
    refine ⟨_, ?_, rfl⟩
    rcases (fmin r n).1 with h | h
    · rw [h]; simp
    · simp [h]
theorem byTurn_one {xs : List Int} {t g h : Int} (a : ByTurn xs t g) (b : ByTurn xs t h) : g = h := by
  rcases a.way with ⟨a1, a2⟩ | ⟨a1, a2⟩ <;> rcases b.way with ⟨b1, b2⟩ | ⟨b1, b2⟩
  · have := a2 h b.mem b1; have := b2 g a.mem a1; omega
  · have := b1 g a.mem; omega
  · have := a1 h b.mem; omega
  · have := a2 h b.mem; have := b2 g a.mem; omega
theorem asc_lt {xs : List Int} (h : xs.Pairwise (· < ·)) {i j : Nat} (hi : i < xs.length) (hj : j < xs.length) (c : i < j) : xs[i] < xs[j] := List.pairwise_iff_getElem.mp h i j hi hj c
theorem asc_le {xs : List Int} (h : xs.Pairwise (· < ·)) {i j : Nat} (hi : i < xs.length) (hj : j < xs.length) (c : i ≤ j) : xs[i] ≤ xs[j] := by
  by_cases e : i = j
  · subst e; exact Int.le_refl _
  · have := asc_lt h hi hj (by omega); omega
/-- the asks round and round -/
def sq (xs : List Int) (x : Nat) : Int := xs.getD (x % xs.length) 0
theorem sq_at {xs : List Int} {x j : Nat} (hj : j < xs.length) (e : x % xs.length = j) : sq xs x = xs[j] := by
  subst e
  unfold sq
  rw [List.getD_eq_getElem?_getD, List.getElem?_eq_getElem hj]; rfl
theorem nxt {p : Nat} {xs : List Int} (ha : Asks p xs) (h0 : xs ≠ []) (x : Nat) : ByTurn xs ((sq xs x + 1) % (p : Int)) (sq xs (x + 1)) := by
  have hk : 0 < xs.length := List.length_pos_iff.mpr h0
  have hj := Nat.mod_lt x hk
  have e1 := sq_at hj rfl
  rw [e1]
  have r1 := ha.rng _ (List.getElem_mem hj)
  by_cases c : x % xs.length + 1 < xs.length
  · have e2 : (x + 1) % xs.length = x % xs.length + 1 := by rw [Nat.add_mod, Nat.mod_eq_of_lt (a := 1) (by omega), Nat.mod_eq_of_lt c]
    rw [sq_at c e2]
    have l := asc_lt ha.asc hj c (by omega)
    have r2 := ha.rng _ (List.getElem_mem c)
    rw [Int.emod_eq_of_lt (by omega) (by omega)]
    refine ⟨List.getElem_mem c, .inl ⟨by omega, fun y hy h => ?_⟩⟩
    obtain ⟨i, hi, rfl⟩ := List.mem_iff_getElem.mp hy
    by_cases q : i ≤ x % xs.length
    · have := asc_le ha.asc hi hj q; omega
    · exact asc_le ha.asc c hi (by omega)
  · have e2 : (x + 1) % xs.length = 0 := by
      have : x + 1 = xs.length * (x / xs.length) + (x % xs.length + 1) := by have := Nat.div_add_mod x xs.length; omega
      rw [this, show x % xs.length + 1 = xs.length by omega, Nat.mul_add_mod]; exact Nat.mod_self _
    rw [sq_at hk e2]
    refine ⟨List.getElem_mem hk, ?_⟩
    have low : ∀ y ∈ xs, xs[0] ≤ y := fun y hy => by
      obtain ⟨i, hi, rfl⟩ := List.mem_iff_getElem.mp hy
      exact asc_le ha.asc hk hi (by omega)
    by_cases q : xs[x % xs.length] + 1 < p
    · rw [Int.emod_eq_of_lt (by omega) q]
      refine .inr ⟨fun y hy => ?_, low⟩
      obtain ⟨i, hi, rfl⟩ := List.mem_iff_getElem.mp hy
      have := asc_le ha.asc hi hj (by omega); omega
    · rw [show xs[x % xs.length] + 1 = p by omega, Int.emod_self]
      exact .inl ⟨(ha.rng _ (List.getElem_mem hk)).1, fun y hy _ => low y hy⟩
theorem cut_from {α : Type} (S : List α) (n : Nat) : cut S (some (n : Int)) none = S.drop n := by
  unfold cut
  rw [HT.sIx_none, HT.sIx_nat]
  by_cases h : n ≤ S.length
  · rw [show min n S.length = n by omega, List.take_of_length_le (by simp)]
  · rw [show min n S.length = S.length by omega, List.drop_of_length_le (Nat.le_refl _), List.drop_of_length_le (by omega)]; simp
theorem idx_ok {xs : List Int} {y : Int} {b : Nat} (hb : b < xs.length) (e : xs[b] = y) (h : ∀ j (hj : j < b), xs[j]'(by omega) ≠ y) : idxS xs y = some (b : Int) := by
  unfold idxS
  rw [List.findIdx?_eq_some_iff_getElem.mpr ⟨hb, by simp [e], fun j hj => by simpa using h j hj⟩]
  rfl
theorem rot_ok {xs : List Int} (ha : xs.Pairwise (· < ·)) (h0 : 0 < xs.length) {m : Nat} (hm : m < xs.length) : ∃ b : Nat, idxS (xs.drop m ++ xs.take m) xs[0] = some (b : Int) ∧ (xs.drop m ++ xs.take m).drop b ++ (xs.drop m ++ xs.take m).take b = xs := by
  by_cases c : m = 0
  · subst c
    refine ⟨0, idx_ok (by simp; omega) (by simp) (fun j hj => by omega), by simp⟩
  · refine ⟨xs.length - m, idx_ok (by simp; omega) ?_ (fun j hj => ?_), ?_⟩
    · rw [List.getElem_append_right (by simp)]
      simp
    · rw [List.getElem_append_left (by simp; omega), List.getElem_drop]
      have := asc_lt ha h0 (j := m + j) (by omega) (by omega)
      omega
    · have e : xs.length - m = (xs.drop m).length := by simp
      rw [e, List.drop_left, List.take_left, List.take_append_drop]
theorem come_ok (draws : List Int) {p : Nat} (hp : 0 < p) (hp2 : p ≤ 30) {asks : List Int} (hg : G p asks) : Yes (f_law_all_come draws asks p) (fun r => r.1 = true) := by
  obtain ⟨ha, hne⟩ := hg
  have hk : 0 < asks.length := List.length_pos_iff.mpr hne
  have hkp := ha.len
  unfold f_law_all_come
  refine yes_take (by omega) fun t0 D h0 h1 => yes_lt ?_
  obtain ⟨g0, e0, b0⟩ := turns_ok t0 asks hne ha.asc
  obtain ⟨m, hm, em⟩ := List.mem_iff_getElem.mp b0.mem
  have s0 : sq asks (m + 0) = g0 := by rw [sq_at hm (by rw [Nat.add_zero, Nat.mod_eq_of_lt hm]), em]
  rw [show (2 : Int) * (asks.length : Int) = ((2 * asks.length : Nat) : Int) by omega]
  refine yes_to (rg_nat (by omega)) ?_
  refine yes_forCr (fun i s => (0 ≤ s.1 ∧ s.1 < p) ∧ ByTurn asks s.1 (sq asks (m + i)) ∧ s.2 = (List.range i).map fun x => sq asks (m + x)) ⟨⟨h0, h1⟩, by rw [s0]; exact b0, rfl⟩ (fun i s hi ⟨ht, hb, hs⟩ => ?_) fun s ⟨_, _, hs⟩ => ?_
  · refine yes_to (compO_pure (g := fun own => ((0 : Int), own)) (by omega)) ?_
    obtain ⟨g, e, b⟩ := turns_ok s.1 asks hne ha.asc
    have eg := byTurn_one hb b
    have rg := ha.rng g b.mem
    have hl : s.2.length = i := by rw [hs]; simp
    refine yes_to (gr_turns e) (yes_to (isP rg) (yes_ifF (by simp [b.mem]) (yes_to (snoc_ok (by omega)) (yes_to (tb_turns hp) (yes_to (modS_ok (by omega)) (yes_to (sameS_ok rfl nest_I) (yes_ifF rfl (yes_nx ⟨⟨Int.emod_nonneg _ (by omega), Int.emod_lt_of_pos _ (by omega)⟩, ?_, ?_⟩))))))))
    · rw [← eg]; exact nxt ha hne (m + i)
    · show s.2 ++ [g] = _
      rw [hs, ← eg, List.range_succ, List.map_append]; rfl
  · rw [thenF_nx]
    refine yes_ltN fun first ef => ?_
    have e1 : first = asks.drop m ++ asks.take m := by
      rw [ef, cut_to, hs, ← List.map_take, List.take_range, show min asks.length (2 * asks.length) = asks.length by omega]
      refine List.ext_getElem (by simp; omega) fun i h1 h2 => ?_
      have hi : i < asks.length := by simpa using h1
      simp only [List.getElem_map, List.getElem_range]
      by_cases c : m + i < asks.length
      · rw [List.getElem_append_left (by simp; omega), List.getElem_drop, sq_at c (Nat.mod_eq_of_lt c)]
      · rw [List.getElem_append_right (by simp; omega), List.getElem_take, sq_at (j := m + i - asks.length) (by omega) (by rw [Nat.mod_eq_sub_mod (by omega), Nat.mod_eq_of_lt (by omega)])]
        congr 1
        simp; omega
    have e2 : s.2 = first ++ first := by
      rw [ef, cut_to, hs, ← List.map_take, List.take_range, show min asks.length (2 * asks.length) = asks.length by omega]
      refine List.ext_getElem (by simp; omega) fun i h1 h2 => ?_
      have hi : i < 2 * asks.length := by simpa using h1
      simp only [List.getElem_map, List.getElem_range, List.getElem_append, List.length_map, List.length_range]
      by_cases c : i < asks.length
      · rw [dif_pos c]
      · rw [dif_neg c]
        unfold sq
        rw [show m + i = (m + (i - asks.length)) + asks.length by omega, Nat.add_mod_right]
    have hmem : ∀ x, x ∈ first ↔ x ∈ asks := fun x => by
      rw [e1, List.mem_append, Or.comm, ← List.mem_append, List.take_append_drop]
    obtain ⟨b, hb, hr⟩ := rot_ok ha.asc hk hm
    have hlen : first.length ≤ 30 := by rw [e1]; simp; omega
    refine yes_to (minS_ok (y := asks[0]) ((hmem _).mpr (List.getElem_mem hk)) fun x hx => ?_) ?_
    · obtain ⟨i, hi, rfl⟩ := List.mem_iff_getElem.mp ((hmem x).mp hx)
      exact asc_le ha.asc hk hi (by omega)
    · rw [← e1] at hb hr
      refine yes_to hb (yes_to (catS_ok (by omega)) ?_)
      refine yes_bind (P := fun v => v = true) (yes_ifT (by rw [← e2]; simp) ?_) fun v hv => yes_some hv
      rw [cut_from, cut_to]
      refine yes_to (catS_ok (by simp; omega)) (yes_some ?_)
      rw [hr]; simp
end K42

set_option Elab.async false
set_option linter.all false
set_option maxRecDepth 100000
set_option maxHeartbeats 1000000
set_option synthInstance.maxSize 2000
namespace K42
open NV
theorem gr_oldest {asks : List Int} {turn : Int} {ages : List (Int × Int)} {g : Int} (h : f_place_by_ages asks ages = some g) : f_granted ("oldest" : PySem.Str) asks turn ages = some g := by
  unfold f_granted
  rw [eOT, Option.bind_some, if_neg (by decide), eOO, Option.bind_some, if_pos rfl, h]; rfl
theorem tb_oldest {place turn p : Int} : f_turn_behind ("oldest" : PySem.Str) place p turn = some turn := by
  unfold f_turn_behind
  rw [eOT, Option.bind_some, if_neg (by decide)]
theorem tb_fixed {place turn p : Int} : f_turn_behind ("fixed" : PySem.Str) place p turn = some turn := by
  unfold f_turn_behind
  rw [eFT, Option.bind_some, if_neg (by decide)]
theorem gr_fixed {asks : List Int} {turn : Int} {ages : List (Int × Int)} (h : asks ≠ []) : f_granted ("fixed" : PySem.Str) asks turn ages = some (hd asks) := by
  unfold f_granted
  cases asks with
  | nil => exact absurd rfl h
  | cons a r => rw [eFT, Option.bind_some, if_neg (by decide), eFO, Option.bind_some, if_neg (by decide), at_zero]; rfl
def ag (L : List (Int × Int)) (own : Int) : Int × Int := L.getD own.toNat (0, 0)
theorem ag_at {L : List (Int × Int)} {own : Int} (h : 0 ≤ own ∧ own < L.length) : L2.atI L own = some (ag L own) := by
  obtain ⟨j, rfl⟩ := Int.eq_ofNat_of_zero_le h.1
  have hj : j < L.length := by omega
  rw [at_nat hj]
  unfold ag
  rw [List.getD_eq_getElem?_getD, Int.toNat_natCast, List.getElem?_eq_getElem hj]; rfl
theorem old_ok (draws : List Int) {p : Nat} (hp : 0 < p) (hp2 : p ≤ 30) (A : List (List Int)) (hA : ∀ row ∈ A, G p row) : Yes (f_law_oldest_fair draws A p) (fun r => r.1 = true) := by
  unfold f_law_oldest_fair
  refine yes_to (rg_nat (by omega)) ?_
  refine yes_compS (fun _ => True) (by rw [rgL_len]; omega) (fun s x _ => yes_take (by decide) fun v D _ _ => yes_some ⟨_, rfl, trivial⟩) fun ages D hl _ => ?_
  rw [rgL_len] at hl
  refine yes_forCa (fun s => s.2.2.length = p) hl (fun asks hk s hs => ?_) fun _ _ => yes_some rfl
  obtain ⟨ha, hne⟩ := hA asks hk
  have hal := ha.len
  refine yes_take (by omega) fun v D2 _ _ => ?_
  have at_ : ∀ own ∈ asks, L2.atI s.2.2 own = some (ag s.2.2 own) := fun own ho => ag_at (by have := ha.rng own ho; omega)
  refine yes_to (compO_ok (ag s.2.2) (by omega) fun own ho => by rw [at_ own ho]; rfl) ?_
  obtain ⟨b, hb, e, l1, l2, l3⟩ := ages_ok asks (asks.map (ag s.2.2)) (by simp) hne
  have hr := ha.rng _ (List.getElem_mem hb)
  refine yes_to (gr_oldest e) (yes_to (isP hr) (yes_ifF (by simp [List.getElem_mem hb]) ?_))
  refine yes_to (compF_ok (fun own => ltP (ag s.2.2 own) (ag s.2.2 asks[b])) id (by omega) (fun own ho => by rw [at_ own ho, at_ _ (List.getElem_mem hb)]; rfl) fun _ _ _ => rfl) ?_
  have e0 : (asks.filter fun own => ltP (ag s.2.2 own) (ag s.2.2 asks[b])) = [] := List.filter_eq_nil_iff.mpr fun own ho => by
    obtain ⟨i, hi, rfl⟩ := List.mem_iff_getElem.mp ho
    have := l2 i (by simpa using hi) (by simpa using hi)
    simp only [List.getElem_map] at this
    rw [this]; decide
  rw [e0]
  refine yes_ifF rfl (yes_to (modS_ok (by omega)) (yes_to tb_oldest (yes_to (sameS_ok (Int.emod_eq_of_lt hr.1 hr.2) nest_I) (yes_ifF rfl ?_))))
  obtain ⟨j, hj⟩ := Int.eq_ofNat_of_zero_le hr.1
  rw [hj]
  exact yes_to (set_nat (by omega)) (yes_lt (yes_nx (by show (s.2.2.set j _).length = p; rw [List.length_set]; exact hs)))
theorem some_of {row : List Int} (h : row ≠ []) : some_ row = true := by
  have := List.length_pos_iff.mpr h
  unfold some_
  simp; omega
theorem fix_ok (draws : List Int) {p : Nat} (hp : 0 < p) (hp2 : p ≤ 30) (A : List (List Int)) (hA : ∀ row ∈ A, G p row) (h0 : 0 < A.length) (h40 : A.length ≤ 40) : Yes (f_law_fixed_unfair draws A p) (fun r => r.1 = true) := by
  unfold f_law_fixed_unfair
  refine yes_lt (yes_forC (fun i s => s.2 = (A.take i).map hd) rfl (fun i asks s hk hs => ?_) fun s hs => ?_)
  · obtain ⟨hi, ek⟩ := List.getElem?_eq_some_iff.mp hk
    obtain ⟨ha, hne⟩ := hA asks (ek ▸ List.getElem_mem hi)
    have hal := ha.len
    refine yes_take (by omega) fun t D2 _ _ => ?_
    refine yes_b2 (P := fun a _ => a.length = asks.length) (lages_ok D2 (n := asks.length) (by omega)) fun ages D3 _ => ?_
    have hm : hd asks ∈ asks := by
      cases asks with
      | nil => exact absurd rfl hne
      | cons a r => exact List.mem_cons_self
    refine yes_to (gr_fixed hne) (yes_to (minS_ok hm fun x hx => ?_) (yes_to (sameS_ok rfl nest_I) ?_))
    · cases asks with
      | nil => cases hx
      | cons a r => exact head_le ha.asc x hx
    · refine yes_bind (P := fun v => v = false) (yes_ifF rfl (yes_to tb_fixed (yes_to (sameS_ok rfl nest_I) (yes_some rfl)))) fun v hv => yes_ifF hv (yes_to (snoc_ok ?_) (yes_nx ?_))
      · rw [hs]; simp; omega
      · show s.2 ++ [hd asks] = _
        rw [hs, List.take_succ, hk]; simp
  · rw [thenF_nx]
    rw [List.take_length] at hs
    refine yes_take (by omega) fun v D2 hv hv2 => yes_lt (yes_lt ?_)
    obtain ⟨r, hr⟩ : ∃ n : Nat, 1 + v = (n : Int) := ⟨(1 + v).toNat, by omega⟩
    rw [hr, cut_to, cut_to]
    refine yes_to (rg_nat (by omega)) ?_
    have hn : (A.take r).filter some_ = A.take r := List.filter_eq_self.mpr fun row h => some_of (hA row (List.mem_of_mem_take h)).2
    have hf : s.2.take r = firsts (A.take r) := by
      unfold firsts
      rw [hn, hs, List.map_take]
    rw [hf]
    have hlt : (A.take r).length = r := by simp; omega
    refine yes_bind (P := fun s => s = (rgL 0 p).filter fun own => (!decide (own ∈ firsts (A.take r))) && decide (∀ row ∈ A.take r, own ∈ row)) (yes_imp (yes_forSr (fun i s => s = (rgL 0 i).filter fun own => (!decide (own ∈ firsts (A.take r))) && decide (∀ row ∈ A.take r, own ∈ row)) rfl fun i s hi e => ?_) fun s h => h) fun due hd => ?_
    · rw [Int.zero_add]
      have et : rgL 0 (i + 1) = rgL 0 i ++ [(i : Int)] := by unfold rgL; rw [List.range_succ, List.map_append]; simp
      refine yes_bind (P := fun v => v = ((!decide ((i : Int) ∈ firsts (A.take r))) && decide (∀ row ∈ A.take r, (i : Int) ∈ row))) (yes_if (fun c => ?_) fun c => yes_some (by rw [c]; rfl)) fun v hv => ?_
      · refine yes_to (compF_self (by omega)) (yes_some ?_)
        rw [c, Bool.true_and]
        refine decide_eq_decide.mpr ⟨fun h row hrow => ?_, fun h => ?_⟩
        · have h : ((A.take r).filter fun asks => decide ((i : Int) ∈ asks)).length = (A.take r).length := by omega
          simpa using List.length_filter_eq_length_iff.mp h row hrow
        · have h : ((A.take r).filter fun asks => decide ((i : Int) ∈ asks)).length = (A.take r).length := List.length_filter_eq_length_iff.mpr fun row hrow => by simpa using h row hrow
          omega
      · subst hv
        have hl : s.length ≤ i := by rw [e]; exact Nat.le_trans (List.length_filter_le _ _) (by rw [rgL_len]; omega)
        refine yes_if (fun c => yes_to (snoc_ok (by omega)) (yes_some ?_)) fun c => yes_some ?_
        · rw [et, List.filter_append, e]
          congr 1
          simp only [List.filter]
          rw [c]
        · rw [et, List.filter_append, ← e]
          simp only [List.filter]
          rw [c]; simp
    · refine yes_to (starv_ok (p := p) (by omega) (fun row h => (hA row h).1.sub) (by omega) (by omega) (by omega)) ?_
      have es : ((kept p (A.take r)).filter fun x => !decide (x ∈ firsts (A.take r))) = due := by
        rw [hd]
        unfold kept
        rw [List.filter_filter]
      rw [es]
      refine yes_to (sameS_ok rfl (nest_TI ?_)) (yes_some rfl)
      rw [hd]; exact Nat.le_trans (List.length_filter_le _ _) (by rw [rgL_len]; omega)
/-! ### shares -/
theorem cs_sum (q r : Nat) : ∀ p : Nat, (((List.range p).map fun i => ((q + (if i < r then 1 else 0) : Nat) : Int)).sum) = ((p * q + min r p : Nat) : Int)
  | 0 => by simp
  | p + 1 => by
    rw [List.range_succ, List.map_append, List.sum_append, cs_sum q r p]
    simp only [List.map_cons, List.map_nil, List.sum_cons, List.sum_nil]
    rw [Nat.add_mul]
    split <;> omega
theorem cs_sum' {p : Nat} (hp : 0 < p) (n : Nat) : (cs p n).sum = (n : Int) := by
  unfold cs
  rw [cs_sum]
  have := Nat.div_add_mod n p
  have := Nat.mod_lt n hp
  rw [show min (n % p) p = n % p by omega]
  omega
theorem cs_el {p n : Nat} {y : Int} (h : y ∈ cs p n) : y = ((n / p : Nat) : Int) ∨ y = ((n / p : Nat) : Int) + 1 := by
  unfold cs at h
  obtain ⟨i, _, rfl⟩ := List.mem_map.mp h
  split
  · right; omega
  · left; omega
theorem cs_desc (p n : Nat) : (cs p n).Pairwise (· ≥ ·) := by
  unfold cs
  refine List.pairwise_map.mpr (List.pairwise_lt_range.imp fun {a b} h => ?_)
  split <;> split <;> omega
theorem share_ok (draws : List Int) {p : Nat} (hp : 0 < p) (hp2 : p ≤ 30) : Yes (f_law_shares_fair draws p) (fun r => r.1 = true) := by
  unfold f_law_shares_fair
  refine yes_take (by decide) fun v D hv hv2 => yes_lt ?_
  obtain ⟨n, hn⟩ : ∃ n : Nat, 1 + v = (n : Int) := ⟨(1 + v).toNat, by omega⟩
  rw [hn]
  have hl := cs_len (p := p) (k := n)
  have hne : cs p n ≠ [] := fun e => by rw [e] at hl; simp at hl; omega
  refine yes_to (shares_turns hp (by omega) (by omega)) ?_
  refine yes_bind (P := fun v => v = false) (yes_ifF rfl (yes_bind (P := fun v => v = false) (yes_ifF (by simp [hl]) ?_) fun v hv => yes_some hv)) fun v hv => yes_ifF hv ?_
  · refine yes_to (compF_self (q := fun _ => ((!true) || false)) (by omega)) (yes_some ?_)
    rw [List.filter_eq_nil_iff.mpr (fun x _ => by decide)]; rfl
  obtain ⟨mx, hmx, e1⟩ := maxS_in hne
  obtain ⟨mn, hmn, e2⟩ := minS_in hne
  refine yes_bind (P := fun v => v = false) (yes_ifF (by rw [cs_sum' hp]; simp) (yes_to e1 (yes_to e2 (yes_some ?_)))) fun v hv => yes_ifF hv ?_
  · have a1 := cs_el hmx
    have a2 := cs_el hmn
    have e3 : cs p n = (isort (cs p n)).reverse := by
      have := isort_eq (List.reverse_perm (cs p n)) (List.pairwise_reverse.mpr (cs_desc p n))
      rw [← this, List.reverse_reverse]
    rw [← e3]
    simp; omega
  have er : repT ([0] : List Int) ((p : Int) - 1) = some (List.replicate (p - 1) 0) := by
    rw [repT_ok (by omega) (by omega) (by simp), show ((p : Int) - 1).toNat = p - 1 by omega, rep1]
  have ec : catS ([(n : Int)] : List Int) (List.replicate (p - 1) 0) = some ((n : Int) :: List.replicate (p - 1) 0) := catS_ok (by simp; omega)
  have hn2 : nest 12 (eT eI ((n : Int) :: List.replicate (p - 1) 0)) = true := nest_TI (by simp; omega)
  refine yes_to (shares_else eOT hp (by omega)) (yes_to er (yes_to ec (yes_to (sameS_ok rfl hn2) ?_)))
  refine yes_bind (P := fun v => v = true) (yes_ifT rfl (yes_to (shares_else eFT hp (by omega)) (yes_to er (yes_to ec (yes_to (sameS_ok rfl hn2) (yes_some rfl)))))) fun v hv => yes_some hv
theorem law_ok (draws : List Int) : Yes (f_law draws) (· = true) := by
  unfold f_law
  refine yes_forCa (fun _ => True) trivial (fun most hk s _ => ?_) fun D _ => ?_
  · have hmost : 0 < most ∧ most ≤ 7 := by
      simp only [List.mem_cons, List.not_mem_nil, or_false] at hk
      omega
    refine yes_take hmost.1 fun v D2 hv hv2 => yes_lt ?_
    obtain ⟨p, hp⟩ : ∃ n : Nat, 1 + v = (n : Int) := ⟨(1 + v).toNat, by omega⟩
    rw [hp]
    have p1 : 0 < p := by omega
    have p2 : p ≤ 30 := by omega
    refine yes_b2 (P := fun A _ => (∀ row ∈ A, G p row) ∧ 0 < A.length ∧ A.length ≤ 40) (rounds_ok D2 p1 p2) fun A D3 ⟨hA, h0, h40⟩ => ?_
    refine yes_b2 (P := fun b _ => b = true) (fair_ok D3 p1 p2 A hA) fun b D4 hb => ?_
    refine yes_b2 (P := fun b _ => b = false) (yes_ifF (by rw [hb]; rfl) ?_) fun b D5 hb => yes_ifF hb ?_
    · have hne : A ≠ [] := List.length_pos_iff.mp h0
      refine yes_to (at_last hne) ?_
      exact yes_b2 (P := fun b _ => b = true) (come_ok D4 p1 p2 (hA _ (List.getLast_mem hne))) fun b D5 hb => yes_some (by rw [hb]; rfl)
    refine yes_b2 (P := fun b _ => b = true) (old_ok D5 p1 p2 A hA) fun b D6 hb => ?_
    refine yes_b2 (P := fun b _ => b = false) (yes_ifF (by rw [hb]; rfl) ?_) fun b D7 hb => yes_ifF hb (yes_nx trivial)
    refine yes_b2 (P := fun b _ => b = true) (fix_ok D6 p1 p2 A hA h0 h40) fun b D7 hb => ?_
    refine yes_b2 (P := fun b _ => b = false) (yes_ifF (by rw [hb]; rfl) ?_) fun b D8 hb => yes_some hb
    exact yes_b2 (P := fun b _ => b = true) (share_ok D7 p1 p2) fun b D8 hb => yes_some (by rw [hb]; rfl)
  · exact yes_eq (by rw [thenF_nx]; decide +kernel)
theorem law_f (draws : List Int) : f_law draws = some true := (law_ok draws).eq
end K42

set_option Elab.async false
set_option linter.all false
set_option maxRecDepth 100000
namespace K42
open NV
theorem law_true (ns : List Int) (hl : ns.length ≤ 63) : ∃ os, run tb 1 15 20 [.flst ns] = some (.bl true, os) := sim_law (fu := 1) (k := 0) ns hl fun d => law_f d
end K42

set_option Elab.async false
set_option linter.all false
set_option maxRecDepth 100000
open PySem PySem.W PyProof.Rows
set_option maxHeartbeats 0 in
theorem PySem.Challenge.cw_neverwedged_k42_whole_turns_are_fair_holds : PySem.Challenge.rw_neverwedged_k42_whole_turns_are_fair.Holds := by
  w_on; o_law; k_head; (case hw => w_witness2)
  k_fill
  refine L2.walk_ofK (l := PySem.Challenge.rw_neverwedged_k42_whole_turns_are_fair) (n := 63) (k := 15) (x := "script") (CX := L2.CX0) (sp := fun K => NV.spLaw K42.tb 1 15 20 K) rfl (by decide) rfl ⟨rfl, by decide, by decide⟩ (fun w h Y => PySem.W.kIn_of Y) ?F (fun K H a ns hl hO hS => ⟨a, ns, rfl, NV.froz_of hO hS, hl, fun _ => rfl⟩) (fun _ _ _ _ h => h)
  case F =>
    intro w mg fa h KX G hmg
    refine' K42.all_mk KX G hmg ?a0 ?l0 ?c0 ?k0 ?a1 ?l1 ?c1 ?k1 ?a2 ?l2 ?c2 ?k2 ?a3 ?l3 ?c3 ?k3 ?a4 ?l4 ?c4 ?k4 ?a5 ?l5 ?c5 ?k5 ?a6 ?l6 ?c6 ?k6 ?a7 ?l7 ?c7 ?k7 ?a8 ?l8 ?c8 ?k8 ?a9 ?l9 ?c9 ?k9 ?a10 ?l10 ?c10 ?k10 ?a11 ?l11 ?c11 ?k11 ?a12 ?l12 ?c12 ?k12 ?a13 ?l13 ?c13 ?k13 ?a14 ?l14 ?c14 ?k14 ?a15 ?l15 ?c15 ?k15 ?a16 ?l16 ?c16 ?k16 ?a17 ?l17 ?c17 ?k17 ?a18 ?l18 ?c18 ?k18 ?a19 ?l19 ?c19 ?k19 ?a20 ?l20 ?c20 ?k20 ?z_len ?z_int ?z_abs ?z_tuple ?z_list ?z_sorted ?z_sum ?z_all ?z_any ?z_min ?z_max ?z_isinstance ?z_bool ?z_str ?z_range ?z_set ?z_dict K42.law_true
    (case a0 => k_is); (case l0 => k_is); (case c0 => k_is); (case k0 => k_is); (case a1 => k_is); (case l1 => k_is); (case c1 => k_is); (case k1 => k_is); (case a2 => k_is); (case l2 => k_is); (case c2 => k_is); (case k2 => k_is); (case a3 => k_is); (case l3 => k_is); (case c3 => k_is); (case k3 => k_is); (case a4 => k_is); (case l4 => k_is); (case c4 => k_is); (case k4 => k_is); (case a5 => k_is); (case l5 => k_is); (case c5 => k_is); (case k5 => k_is); (case a6 => k_is); (case l6 => k_is); (case c6 => k_is); (case k6 => k_is); (case a7 => k_is); (case l7 => k_is); (case c7 => k_is); (case k7 => k_is); (case a8 => k_is); (case l8 => k_is); (case c8 => k_is); (case k8 => k_is); (case a9 => k_is); (case l9 => k_is); (case c9 => k_is); (case k9 => k_is); (case a10 => k_is); (case l10 => k_is); (case c10 => k_is); (case k10 => k_is); (case a11 => k_is); (case l11 => k_is); (case c11 => k_is); (case k11 => k_is); (case a12 => k_is); (case l12 => k_is); (case c12 => k_is); (case k12 => k_is); (case a13 => k_is); (case l13 => k_is); (case c13 => k_is); (case k13 => k_is); (case a14 => k_is); (case l14 => k_is); (case c14 => k_is); (case k14 => k_is); (case a15 => k_is); (case l15 => k_is); (case c15 => k_is); (case k15 => k_is); (case a16 => k_is); (case l16 => k_is); (case c16 => k_is); (case k16 => k_is); (case a17 => k_is); (case l17 => k_is); (case c17 => k_is); (case k17 => k_is); (case a18 => k_is); (case l18 => k_is); (case c18 => k_is); (case k18 => k_is); (case a19 => k_is); (case l19 => k_is); (case c19 => k_is); (case k19 => k_is); (case a20 => k_is); (case l20 => k_is); (case c20 => k_is); (case k20 => k_is); (case z_len => k_is); (case z_int => k_is); (case z_abs => k_is); (case z_tuple => k_is); (case z_list => k_is); (case z_sorted => k_is); (case z_sum => k_is); (case z_all => k_is); (case z_any => k_is); (case z_min => k_is); (case z_max => k_is); (case z_isinstance => k_is); (case z_bool => k_is); (case z_str => k_is); (case z_range => k_is); (case z_set => k_is); (case z_dict => k_is)

