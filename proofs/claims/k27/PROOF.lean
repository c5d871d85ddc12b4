import PyProof.Rows.All
import Wide.All
import OpenK.AllK
import Wide.FinOn
import HandS.ForMost
import HandS.Wide
import HandS.IsInst
import HandS.Conv
import HandS.Style
import HandS.Codes
import KE.KDictPairs
import KE.KxIndex
import PySem.Challenge.RW_copiedhouse_k27_whole_sums_and_bags_in_a
set_option Elab.async false
set_option linter.all false
set_option maxRecDepth 100000
set_option maxHeartbeats 8000000
/-! The plain law: bags as sorted lists of pairs, by what they hold of each word. No program in sight. -/
namespace K27
/-- all that a list of pairs holds of w, added -/
def val {κ : Type} [DecidableEq κ] : List (κ × Int) → κ → Int
  | [], _ => 0
  | p :: r, w => (if p.1 = w then p.2 else 0) + val r w
section
variable {κ : Type} [DecidableEq κ]
theorem val_append (w : κ) : ∀ (a b : List (κ × Int)), val (a ++ b) w = val a w + val b w
  | [], b => by show val b w = 0 + val b w; omega
  | p :: r, b => by
    have ih := val_append w r b
    show (if p.1 = w then p.2 else 0) + val (r ++ b) w = (if p.1 = w then p.2 else 0) + val r w + val b w
    omega
theorem val_not {w : κ} : ∀ {a : List (κ × Int)}, (∀ p ∈ a, p.1 ≠ w) → val a w = 0
  | [], _ => rfl
  | p :: r, h => by
    have h1 := h p List.mem_cons_self
    have ih := val_not (a := r) fun q hq => h q (List.mem_cons_of_mem _ hq)
    show (if p.1 = w then p.2 else 0) + val r w = 0
    rw [if_neg h1, ih]
    rfl
theorem val_take {w : κ} {a : List (κ × Int)} {i : Nat} {p : κ × Int} (h : a[i]? = some p) : val (a.take (i + 1)) w = val (a.take i) w + (if p.1 = w then p.2 else 0) := by
  rw [List.take_add_one, h, val_append]
  show val (a.take i) w + ((if p.1 = w then p.2 else 0) + 0) = _
  omega
/-- the bag ps holds f w of each word w: its words rise by lt, none is there 0 times -/
structure Norm (lt : κ → κ → Prop) (ps : List (κ × Int)) (f : κ → Int) : Prop where
  so : ps.Pairwise fun p q => lt p.1 q.1
  at_ : ∀ w n, (w, n) ∈ ps ↔ (f w = n ∧ n ≠ 0)
theorem val_of_nodup {w : κ} {n : Int} : ∀ {a : List (κ × Int)}, (a.map (·.1)).Nodup → (w, n) ∈ a → val a w = n
  | [], _, h => nomatch h
  | p :: r, hn, h => by
    have hn : (p.1 :: r.map (·.1)).Nodup := hn
    obtain ⟨h1, h2⟩ := List.nodup_cons.mp hn
    show (if p.1 = w then p.2 else 0) + val r w = n
    rcases List.mem_cons.mp h with e | e
    · subst e
      rw [if_pos rfl, val_not fun q hq e => h1 (List.mem_map.mpr ⟨q, hq, e⟩)]
      show n + 0 = n
      omega
    · have ne : p.1 ≠ w := fun z => h1 (List.mem_map.mpr ⟨(w, n), e, z.symm⟩)
      rw [if_neg ne, val_of_nodup h2 e]
      omega
section
variable {lt : κ → κ → Prop} (irr : ∀ a, ¬ lt a a) (tr : ∀ a b c, lt a b → lt b c → lt a c)
include irr in
theorem Norm.nd {ps : List (κ × Int)} {f : κ → Int} (N : Norm lt ps f) : (ps.map (·.1)).Nodup := by
  unfold List.Nodup
  rw [List.pairwise_map]
  exact N.so.imp (S := fun a b : κ × Int => a.1 ≠ b.1) fun {a b} h (e : a.1 = b.1) => irr a.1 (by rw [← e] at h; exact h)
include irr in
theorem Norm.val_eq {ps : List (κ × Int)} {f : κ → Int} (N : Norm lt ps f) (w : κ) : val ps w = f w := by
  by_cases h : f w = 0
  · rw [h]
    exact val_not fun p hp e => by
      have q := (N.at_ p.1 p.2).mp hp
      rw [e, h] at q
      exact q.2 q.1.symm
  · exact val_of_nodup (N.nd irr) ((N.at_ w (f w)).mpr ⟨rfl, h⟩)
include irr tr in
theorem same_of {α : Type} {r : α → α → Prop} (ir : ∀ a, ¬ r a a) (t : ∀ a b c, r a b → r b c → r a c) : ∀ {l m : List α}, l.Pairwise r → m.Pairwise r → (∀ x, x ∈ l ↔ x ∈ m) → l = m
  | [], [], _, _, _ => rfl
  | [], b :: m, _, _, h => nomatch (h b).mpr List.mem_cons_self
  | a :: l, [], _, _, h => nomatch (h a).mp List.mem_cons_self
  | a :: l, b :: m, hl, hm, h => by
    obtain ⟨hl1, hl2⟩ := List.pairwise_cons.mp hl
    obtain ⟨hm1, hm2⟩ := List.pairwise_cons.mp hm
    have e : a = b := by
      rcases List.mem_cons.mp ((h a).mp List.mem_cons_self) with e | e
      · exact e
      · rcases List.mem_cons.mp ((h b).mpr List.mem_cons_self) with z | z
        · exact z.symm
        · exact (ir a (t a b a (hl1 b z) (hm1 a e))).elim
    subst e
    rw [same_of ir t hl2 hm2 fun x => ⟨fun hx => ?_, fun hx => ?_⟩]
    · rcases List.mem_cons.mp ((h x).mp (List.mem_cons_of_mem _ hx)) with z | z
      · subst z
        exact (ir x (hl1 x hx)).elim
      · exact z
    · rcases List.mem_cons.mp ((h x).mpr (List.mem_cons_of_mem _ hx)) with z | z
      · subst z
        exact (ir x (hm1 x hx)).elim
      · exact z
include irr tr in
theorem Norm.uniq {ps qs : List (κ × Int)} {f : κ → Int} (N : Norm lt ps f) (M : Norm lt qs f) : ps = qs :=
  same_of irr tr (r := fun p q : κ × Int => lt p.1 q.1) (fun a => irr a.1) (fun a b c => tr a.1 b.1 c.1) N.so M.so fun x => (N.at_ x.1 x.2).trans (M.at_ x.1 x.2).symm
/-- the bag of a table: its words sorted, without those that it holds 0 times -/
theorem Norm.of {ys : List κ} {f : κ → Int} (so : ys.Pairwise lt) (al : ∀ w, f w ≠ 0 → w ∈ ys) : Norm lt ((ys.filter fun w => decide (f w ≠ 0)).map fun w => (w, f w)) f := by
  refine ⟨?_, fun w n => ⟨fun h => ?_, fun h => ?_⟩⟩
  · rw [List.pairwise_map]
    exact so.filter _
  · obtain ⟨x, hx, e⟩ := List.mem_map.mp h
    have e1 : x = w := congrArg Prod.fst e
    have e2 : f x = n := congrArg Prod.snd e
    subst e1
    exact ⟨e2, by rw [← e2]; exact of_decide_eq_true (List.mem_filter.mp hx).2⟩
  · obtain ⟨e, h0⟩ := h
    refine List.mem_map.mpr ⟨w, List.mem_filter.mpr ⟨al w (by rw [e]; exact h0), decide_eq_true (by rw [e]; exact h0)⟩, by rw [e]⟩
end
end
/-! ### lists without repetition within a list -/
theorem nodup_le {α : Type} [DecidableEq α] : ∀ {l m : List α}, l.Nodup → (∀ x ∈ l, x ∈ m) → l.length ≤ m.length
  | [], _, _, _ => Nat.zero_le _
  | a :: l, m, hn, h => by
    obtain ⟨h1, h2⟩ := List.nodup_cons.mp hn
    have ha : a ∈ m := h a List.mem_cons_self
    have ih := nodup_le (l := l) (m := m.erase a) h2 fun x hx => by
      have ne : x ≠ a := fun e => h1 (by rw [← e]; exact hx)
      exact (List.mem_erase_of_ne ne).mpr (h x (List.mem_cons_of_mem _ hx))
    rw [List.length_erase_of_mem ha] at ih
    have hp : 0 < m.length := List.length_pos_of_mem ha
    show l.length + 1 ≤ m.length
    omega
/-! ### sums in any order -/
theorem sum_perm {α : Type} (g : α → Int) {l m : List α} (h : l.Perm m) : (l.map g).sum = (m.map g).sum := by
  induction h with
  | nil => rfl
  | cons x _ ih => rw [List.map_cons, List.map_cons, List.sum_cons, List.sum_cons, ih]
  | swap x y l =>
    rw [List.map_cons, List.map_cons, List.map_cons, List.map_cons, List.sum_cons, List.sum_cons, List.sum_cons, List.sum_cons]
    omega
  | trans _ _ a b => exact a.trans b
theorem sum_map_take {α : Type} (g : α → Int) : ∀ {l : List α} {i : Nat} {x : α}, l[i]? = some x → ((l.take (i + 1)).map g).sum = ((l.take i).map g).sum + g x
  | [], i, x, h => by simp at h
  | a :: r, 0, x, h => by
    have e : a = x := Option.some.inj h
    subst e
    show ([g a] : List Int).sum = ([] : List Int).sum + g a
    rw [List.sum_cons]
    exact Int.add_comm _ _
  | a :: r, i + 1, x, h => by
    have ih := sum_map_take g (l := r) (i := i) (x := x) h
    show (g a :: ((r.take (i + 1)).map g)).sum = (g a :: ((r.take i).map g)).sum + g x
    rw [List.sum_cons, List.sum_cons, ih]
    omega
theorem rot_perm {α : Type} (l : List α) (k : Nat) : (l.drop k ++ l.take k).Perm l := by
  have h : (l.drop k ++ l.take k).Perm (l.take k ++ l.drop k) := List.perm_append_comm
  rw [List.take_append_drop] at h
  exact h
end K27

/-! Rules that the layer lacks: tuple(list) as a known object, dict(tuple of pairs), text * int, == of two bags. -/
namespace K27
open PySem PySem.Spec PyProof.Rows L2
/-! ### bags at addresses -/
def BagAt (H : Hp) (a : Addr) (ps : List (Str × Int)) : Prop :=
  ∃ (o : Obj) (rs : List Addr), H a = some (.frz o (.tup (rs.map V.ref))) ∧ o.dict = none ∧ Paired (fun r (p : Str × Int) => H r = some (.tup [.str p.1, .int p.2])) rs ps
def rTupF (K : PySem.W.Frag) : List V → Hp → VK → Prop := fun xs H Q => ∃ (p : Addr) (ys : List V), xs = [.ref p] ∧ SqL K H p ys ∧ ∀ (l : Addr) (o : Obj), H l = none → o.cls = .type "tuple" → o.dict = none → Q (.ref l) (upd H l (.frz o (.tup ys)))
def rDictT (K : PySem.W.Frag) : List V → Hp → VK → Prop := fun xs H Q => ∃ (a : Addr) (o : Obj) (ps : List Addr) (kvs : List (Key × V)), xs = [.ref a] ∧ H a = some (.frz o (.tup (ps.map V.ref))) ∧ o.dict = none ∧
    Paired (fun p kv => SqT K H p [kV kv.1, kv.2]) ps kvs ∧ ∀ p, H p = none → Q (.ref p) (upd H p (.dK (mergeK [] kvs)))
def rEqBag : R2 := fun x y H Q => ∃ (a b : Addr) (ps : List (Str × Int)), x = .ref a ∧ y = .ref b ∧ BagAt H a ps ∧ BagAt H b ps ∧ Q (.bl true) H
def rMulS : R2 := fun x y H Q => ∃ (z : Str) (i : Int), x = .str z ∧ y = .int i ∧ z.length ≤ 16 ∧ 0 ≤ i ∧ i ≤ 1000 ∧ ∀ m : Str, (m.length : Int) = (z.length : Int) * i → Q (.str m) H
section
variable {X : Cx}
theorem call_tuple_frz : CallR X (.type "tuple") (rTupF X.K) := by
  intro pins s σ H xs us Q I r h
  obtain ⟨p, ys, rfl, hq, q⟩ := h
  obtain ⟨u, rfl, rx⟩ := vals1 r
  cases rx
  obtain ⟨its, r', pl, hz⟩ := I.list hq
  have hlen := r'.length
  refine call_tuple_list pl.isList (fun h' kp => ?_) (by simp only [List.size_toArray] <;> omega)
  have I1 : Inv X pins σ H { s with heap := h' } := I.kept (t' := s.toks) kp
  have I2 : Inv X pins σ (upd H h'.objs.size (.frz { cls := .type "tuple", data := .seq its.toArray } (.tup ys))) { s with heap := h'.push { cls := .type "tuple", data := .seq its.toArray } } :=
    I1.laid (t' := s.toks) (fun b o e => Heap.get?_push_of_some _ e) (Nat.le_refl _) (show ObjOk X.prog X.w _ _ _ (.frz _ (.tup ys)) from ⟨Heap.get?_push_size _ rfl, hz, its, r', IsTup.new _ _⟩)
  exact ⟨.ref h'.objs.size, _, I2, rfl, q _ _ (I1.hok.fresh (Nat.le_refl _)) rfl rfl⟩
theorem pairs_two {pins : List (Addr × Obj)} {σ : L2.St} {H : Hp} {s : Shared} (I : Inv X pins σ H s) : ∀ {ps : List Addr} {kvs : List (Key × V)}, Paired (fun p kv => SqT X.K H p [kV kv.1, kv.2]) ps kvs →
    ∃ (prs : List (Key × Value)) (pvs : List (Value × Value)), KV kvs prs ∧ prs.length = ps.length ∧ pvs.length = ps.length ∧
      ∀ (j : Nat) (k v : Value), pvs[j]? = some (k, v) → ∃ (b : Addr) (kk : Key), ps[j]? = some b ∧ IsTup s.heap b #[k, v] ∧ prs[j]? = some (kk, v) ∧ keyIs kk k = true
  | _, _, .nil => ⟨[], [], .nil, rfl, rfl, fun j k v e => by simp at e⟩
  | _, _, .cons (a := p) (b := kv) h t => by
    obtain ⟨prs, pvs, r, hl, hl2, hp⟩ := pairs_two I t
    obtain ⟨its, rv, ht, _⟩ := I.tuple h
    obtain ⟨u, y, ei, ru, ry⟩ := vals2 rv
    subst ei
    refine ⟨(kv.1, y) :: prs, (u, y) :: pvs, .cons ⟨rfl, ry⟩ r, by rw [List.length_cons, List.length_cons, hl], by rw [List.length_cons, List.length_cons, hl2], fun j k v e => ?_⟩
    cases j with
    | zero =>
      have e' : (u, y) = (k, v) := Option.some.inj e
      cases e'
      exact ⟨p, kv.1, rfl, ht, rfl, kV_is (P := X.prog) (w := X.w) ru⟩
    | succ j =>
      obtain ⟨b, kk, e1, e2, e3, e4⟩ := hp j k v (by simpa using e)
      exact ⟨b, kk, by simpa using e1, e2, by simpa using e3, e4⟩
theorem call_dictT (hcalm : X.calm = true) : CallR X (.type "dict") (rDictT X.K) := by
  intro pins s σ H xs us Q I r q
  obtain ⟨a, o, ps, kvs, rfl, ha, hd, hp, q⟩ := q
  obtain ⟨u, rfl, rx⟩ := vals1 r
  cases rx
  obtain ⟨ho, hz, its, rv, o', ho', hc, n, hdat⟩ := (show ObjOk X.prog X.w H s.heap a (.frz o (.tup (ps.map V.ref))) from I.hok a _ ha)
  have ei := refs_at rv
  subst ei
  rw [ho] at ho'
  cases ho'
  rw [List.length_map] at hz
  obtain ⟨prs, pvs, rel, hl, hl2, hpr⟩ := pairs_two (s := s) I hp
  refine PySem.call_dict_pairs (knd := mixKind X.prog X.w) (kvs := prs) (PairArg.tuple a (ps.map Value.ref).toArray (fun j => ps.getD j 0) pvs) (I.ok.hd hcalm) ⟨⟨o, n, ho, hc, hd, hdat⟩, by simp [hl2], fun j k v e => ?_⟩ ⟨by rw [hl, hl2], fun i key v e => ?_⟩ (by rw [hl2]; exact hz) fun h' tk hd' hk => ?_
  · obtain ⟨b, kk, e1, e2, e3, e4⟩ := hpr j k v e
    have eb : ps.getD j 0 = b := by simp [List.getD, e1]
    show (List.map Value.ref ps).toArray[j]? = some (Value.ref (ps.getD j 0)) ∧ PairAt s.heap (ps.getD j 0) k v
    rw [eb]
    exact ⟨by simp [e1], Or.inl e2⟩
  · obtain ⟨b, kk, e1, e2, e3, e4⟩ := hpr i key v e
    exact ⟨kk, e3, e4⟩
  · have hm : (s.heap.objs.size == sysModules) = false := beq_eq_false_iff_ne.mpr (Nat.ne_of_gt I.big)
    have hlen : (mergeK [] kvs).length ≤ sizeLine := by
      refine Nat.le_trans (length_mergeK kvs []) ?_
      rw [List.length_nil, Nat.zero_add, rel.length, hl]
      exact hz
    exact ⟨.ref s.heap.objs.size, upd H s.heap.objs.size (.dK (mergeK [] kvs)), I.laid (t' := tk) (fun b ob e => hk b ob (by simp) e) (Nat.le_refl _) (show ObjOk X.prog X.w _ _ _ (.dK (mergeK [] kvs)) from ⟨hlen, hm, merged [] prs, KV.merge rel .nil, hd'⟩), rfl, q _ (I.hok.fresh (Nat.le_refl _))⟩
theorem op_mul_str : OpR X (binaryOp .Mult) rMulS := by
  intro pins s σ H x y v u Q I rx ry h
  obtain ⟨z, i, rfl, rfl, h1, h2, h3, q⟩ := h
  obtain ⟨t, rfl⟩ := rx
  obtain ⟨t2, rfl⟩ := ry
  exact PySem.W.KXi.mul rfl h1 (by omega) (by omega) fun t' k _ hn => ⟨.str _, H, I.tok k, ⟨t', rfl⟩, q _ (hn h2)⟩
theorem two_true (e : Nat → Bool) (h : ∀ j, e j = true) (n : Nat) : ((List.range (min n n)).all e && n == n) = true := by
  rw [List.all_eq_true.mpr fun j _ => h j, Bool.true_and]
  exact beq_self_eq_true n
theorem paired_same {α β γ : Type} {F : α → β → Prop} {G : γ → β → Prop} : ∀ {as : List α} {bs : List β} {cs : List γ}, Paired F as bs → Paired G cs bs → as.length = cs.length ∧ ∀ (j : Nat) (a : α) (c : γ), as[j]? = some a → cs[j]? = some c → ∃ b, F a b ∧ G c b
  | _, _, _, .nil, .nil => ⟨rfl, fun j a c h => by simp at h⟩
  | _, _, _, .cons x t, .cons y u => by
    obtain ⟨h1, h2⟩ := paired_same t u
    refine ⟨by rw [List.length_cons, List.length_cons, h1], fun j a c ha hc => ?_⟩
    cases j with
    | zero =>
      cases (Option.some.inj ha)
      cases (Option.some.inj hc)
      exact ⟨_, x, y⟩
    | succ j => exact h2 j a c (by simpa using ha) (by simpa using hc)
theorem paired_at {α β : Type} {F : α → β → Prop} : ∀ {as : List α} {bs : List β} {j : Nat} {a : α}, Paired F as bs → as[j]? = some a → ∃ b, bs[j]? = some b ∧ F a b
  | _, _, _, _, .nil, h => by simp at h
  | _, _, 0, _, .cons x _, h => by
    cases (Option.some.inj h)
    exact ⟨_, rfl, x⟩
  | _, _, j + 1, _, .cons _ t, h => by
    obtain ⟨b, e, f⟩ := paired_at (j := j) t (by simpa using h)
    exact ⟨b, by simpa using e, f⟩
theorem op_eq_bag (hu : X.A.units + 64 < cLine) : OpR X (compareOp .Eq) rEqBag := by
  intro pins s σ H x y v u Q I rx ry h
  obtain ⟨a, b, ps, rfl, rfl, ⟨oa, ra, ha, _, pa⟩, ⟨ob, rb, hb, _, pb⟩, q⟩ := h
  cases rx
  cases ry
  obtain ⟨ua, va, ta, _⟩ := I.tuple (.inl (.inr ⟨oa, ha⟩))
  obtain ⟨ub, vb, tb, _⟩ := I.tuple (.inl (.inr ⟨ob, hb⟩))
  have ea := refs_at va
  subst ea
  have eb := refs_at vb
  subst eb
  obtain ⟨hl, hp⟩ := paired_same pa pb
  have hsz : (ra.map Value.ref).toArray.size = (rb.map Value.ref).toArray.size := by simp [hl]
  refine SeqAt.eq_tupleAt (e := fun _ => true) ta tb (by omega) (fun j h1 h2 => ?_) ?_
  · have k1 : j < ra.length := by simpa using h1
    have k2 : j < rb.length := by simpa using h2
    obtain ⟨p, f, g⟩ := hp j _ _ (List.getElem?_eq_getElem k1) (List.getElem?_eq_getElem k2)
    have e1 : (ra.map Value.ref).toArray[j] = Value.ref ra[j] := by simp
    have e2 : (rb.map Value.ref).toArray[j] = Value.ref rb[j] := by simp
    rw [e1, e2]
    by_cases e : ra[j] = rb[j]
    · rw [e]
      exact SeqAt.EqAt.same _
    · refine SeqAt.EqAt.of_refs e ?_
      obtain ⟨w1, v1, t1, _⟩ := I.tuple (.inl (.inl f))
      obtain ⟨w2, v2, t2, _⟩ := I.tuple (.inl (.inl g))
      obtain ⟨x1, y1, rfl, ⟨k1, rfl⟩, ⟨k2, rfl⟩⟩ := vals2 v1
      obtain ⟨x2, y2, rfl, ⟨k3, rfl⟩, ⟨k4, rfl⟩⟩ := vals2 v2
      have key := SeqAt.RcAt.tuples (A := X.A.in1) (e := fun _ => true) t1 t2 (by show X.A.units + 1 < cLine; omega) (fun j h1 h2 => ?_)
      · exact key
      · match j, h1 with
        | 0, _ =>
          have z := SeqAt.EqAt.str_str (A := X.A.in1.in1) (s := s) p.1 k1 p.1 k3
          rw [beq_self_eq_true] at z
          exact z
        | 1, _ =>
          have z := SeqAt.EqAt.int_int (A := X.A.in1.in1) (s := s) p.2 k2 p.2 k4
          rw [beq_self_eq_true] at z
          exact z
  · rw [← hsz, two_true _ (fun _ => rfl)]
    exact ⟨.bl true, H, I, rfl, q⟩
end
/-! ### how the heap goes on: all that is there stays, but boxes may change -/
def IsBox (o : HO) : Prop := ∃ c s : Int, o = .lst [.int c, .int s]
def Box (H : Hp) (a : Addr) : Prop := ∃ c s : Int, H a = some (.lst [.int c, .int s])
def Evo (H H' : Hp) : Prop := ∀ a o, H a = some o → H' a = some o ∨ (IsBox o ∧ ∃ o', H' a = some o' ∧ IsBox o')
theorem Evo.refl (H : Hp) : Evo H H := fun _ _ h => .inl h
theorem Evo.trans {H H1 H2 : Hp} (x : Evo H H1) (y : Evo H1 H2) : Evo H H2 := fun a o h => by
  rcases x a o h with e | ⟨b, o', e, b'⟩
  · exact y a o e
  · rcases y a o' e with e2 | ⟨_, o2, e2, b2⟩
    · exact .inr ⟨b, o', e2, b'⟩
    · exact .inr ⟨b, o2, e2, b2⟩
theorem Evo.free {H H' : Hp} (x : Evo H H') {p : Addr} (h : H' p = none) : H p = none := by
  cases e : H p with
  | none => rfl
  | some o =>
    rcases x p o e with z | ⟨_, o', z, _⟩
    · rw [h] at z; cases z
    · rw [h] at z; cases z
theorem Evo.upd {H H1 : Hp} (x : Evo H H1) {p : Addr} (h : H p = none) (o : HO) : Evo H (L2.upd H1 p o) := fun a u e => by
  have ne : a ≠ p := ne_of_none e h
  rw [upd_ne ne]
  exact x a u e
theorem Evo.new {H : Hp} {p : Addr} (h : H p = none) (o : HO) : Evo H (L2.upd H p o) := (Evo.refl H).upd h o
theorem Evo.box {H H' : Hp} (x : Evo H H') {a : Addr} (b : Box H a) : Box H' a := by
  obtain ⟨c, s, e⟩ := b
  rcases x a _ e with z | ⟨_, o', z, c', s', e'⟩
  · exact ⟨c, s, z⟩
  · exact ⟨c', s', by rw [z, e']⟩
theorem Evo.keep {H H' : Hp} (x : Evo H H') {a : Addr} {o : HO} (h : H a = some o) (nb : ¬ IsBox o) : H' a = some o := by
  rcases x a o h with z | ⟨b, _⟩
  · exact z
  · exact (nb b).elim
theorem Evo.setBox {H H1 : Hp} (x : Evo H H1) {b : Addr} (hb : Box H b) {c s : Int} : Evo H (L2.upd H1 b (.lst [.int c, .int s])) := fun a o e => by
  by_cases z : a = b
  · subst z
    obtain ⟨c0, s0, e0⟩ := hb
    rw [e0] at e
    cases e
    exact .inr ⟨⟨c0, s0, rfl⟩, _, upd_same, c, s, rfl⟩
  · rw [upd_ne z]
    exact x a o e
theorem nb_tup {xs : List V} : ¬ IsBox (.tup xs) := fun ⟨_, _, e⟩ => by cases e
theorem nb_dK {kvs : List (Key × V)} : ¬ IsBox (.dK kvs) := fun ⟨_, _, e⟩ => by cases e
theorem nb_frz {o : Obj} {u : HO} : ¬ IsBox (.frz o u) := fun ⟨_, _, e⟩ => by cases e
theorem nb_strs {ws : List Str} : ¬ IsBox (.lst (ws.map V.str)) := fun ⟨_, _, e⟩ => by
  cases ws with
  | nil => cases e
  | cons a r => cases e
theorem nb_refs {rs : List Addr} : ¬ IsBox (.lst (rs.map V.ref)) := fun ⟨_, _, e⟩ => by
  cases rs with
  | nil => cases e
  | cons a r => cases e
theorem Evo.bagAt {H H' : Hp} (x : Evo H H') {a : Addr} {ps : List (Str × Int)} (b : BagAt H a ps) : BagAt H' a ps := by
  obtain ⟨o, rs, ha, hd, hp⟩ := b
  exact ⟨o, rs, x.keep ha nb_frz, hd, Paired.mapP hp fun r p e => x.keep e nb_tup⟩
/-! ### texts by their order -/
def lt (a b : Str) : Prop := a.cps.toList < b.cps.toList
theorem lt_irr (a : Str) : ¬ lt a a := List.lt_irrefl _
theorem lt_tr (a b c : Str) : lt a b → lt b c → lt a c := List.lt_trans
theorem lt_of_not {a b : Str} (h : ¬ lt b a) (ne : a ≠ b) : lt a b := by
  by_cases h2 : lt a b
  · exact h2
  · refine (ne ?_).elim
    have e : a.cps.toList = b.cps.toList := List.le_antisymm (List.not_lt.mp h) (List.not_lt.mp h2)
    cases a
    cases b
    exact congrArg Str.mk (Array.toList_inj.mp e)
theorem rising_pw : ∀ {r : List Str} {p : Str}, risingS p r = true → (p :: r).Nodup → (p :: r).Pairwise lt
  | [], p, _, _ => List.pairwise_singleton _ _
  | x :: r, p, h, hn => by
    have h : (!ltCps x.cps.toList p.cps.toList && risingS x r) = true := h
    rw [Bool.and_eq_true, ltCps_eq, Bool.not_eq_true', decide_eq_false_iff_not] at h
    obtain ⟨n1, n2⟩ := List.nodup_cons.mp hn
    have ih := rising_pw h.2 n2
    have px : lt p x := lt_of_not h.1 fun e => n1 (by rw [e]; exact List.mem_cons_self)
    refine List.pairwise_cons.mpr ⟨fun y hy => ?_, ih⟩
    rcases List.mem_cons.mp hy with e | hy
    · rw [e]
      exact px
    · exact lt_tr _ _ _ px ((List.pairwise_cons.mp ih).1 y hy)
theorem sorted_pw {ys : List Str} (h : sortedS ys = true) (hn : ys.Nodup) : ys.Pairwise lt := by
  cases ys with
  | nil => exact .nil
  | cons p r => exact rising_pw h hn
/-! ### a bag by what it holds -/
def Bag (ws : List Str) (H : Hp) (a : Addr) (f : Str → Int) : Prop := ∃ ps, BagAt H a ps ∧ Norm lt ps f ∧ ∀ p ∈ ps, p.1 ∈ ws
theorem Evo.bag {H H' : Hp} (x : Evo H H') {ws : List Str} {a : Addr} {f : Str → Int} (b : Bag ws H a f) : Bag ws H' a f := by
  obtain ⟨ps, h, n, k⟩ := b
  exact ⟨ps, x.bagAt h, n, k⟩
/-! ### a dict from words to numbers, by what it holds -/
structure DNum (ws : List Str) (kvs : List (Key × V)) (f : Str → Int) : Prop where
  nd : (kvs.map (·.1)).Nodup
  ks : ∀ k ∈ kvs.map (·.1), ∃ w ∈ ws, k = Sum.inr w
  vl : ∀ w, valV kvs (Sum.inr w : Key) = some (.int (f w)) ∨ (valV kvs (Sum.inr w : Key) = none ∧ f w = 0)
theorem DNum.get {ws : List Str} {kvs : List (Key × V)} {f : Str → Int} (D : DNum ws kvs f) (w : Str) : (valV kvs (Sum.inr w : Key)).getD (.int 0) = .int (f w) := by
  rcases D.vl w with e | ⟨e, z⟩
  · rw [e]
    rfl
  · rw [e, z]
    rfl
theorem DNum.nil {ws : List Str} : DNum ws [] fun _ => 0 := ⟨List.nodup_nil, (fun _ h => nomatch h), fun _ => Or.inr ⟨rfl, rfl⟩⟩
theorem putK_keys {kvs : List (Key × V)} {k : Key} {v : V} : (k ∈ kvs.map (·.1) ∧ (putK kvs k v).map (·.1) = kvs.map (·.1)) ∨ (k ∉ kvs.map (·.1) ∧ (putK kvs k v).map (·.1) = kvs.map (·.1) ++ [k]) := by
  by_cases ha : (kvs.any fun kv => decide (kv.1 = k)) = true
  · refine Or.inl ⟨?_, ?_⟩
    · obtain ⟨p, hp, e⟩ := List.any_eq_true.mp ha
      exact List.mem_map.mpr ⟨p, hp, of_decide_eq_true e⟩
    · unfold putK
      rw [if_pos ha, List.map_map]
      refine List.map_congr_left fun p _ => ?_
      show (if p.1 = k then (p.1, v) else p).1 = p.1
      split <;> rfl
  · refine Or.inr ⟨fun h => ha ?_, ?_⟩
    · obtain ⟨p, hp, e⟩ := List.mem_map.mp h
      exact List.any_eq_true.mpr ⟨p, hp, decide_eq_true e⟩
    · unfold putK
      rw [if_neg ha, List.map_append]
      rfl
theorem DNum.put {ws : List Str} {kvs : List (Key × V)} {f : Str → Int} (D : DNum ws kvs f) {w : Str} (hw : w ∈ ws) (n : Int) : DNum ws (putK kvs (Sum.inr w : Key) (.int n)) fun x => if x = w then n else f x := by
  refine ⟨?_, fun k hk => ?_, fun x => ?_⟩
  · rcases putK_keys (kvs := kvs) (k := Sum.inr w) (v := .int n) with ⟨_, e⟩ | ⟨h, e⟩
    · rw [e]
      exact D.nd
    · rw [e]
      exact nd_snoc D.nd h
  · rcases putK_keys (kvs := kvs) (k := Sum.inr w) (v := .int n) with ⟨_, e⟩ | ⟨_, e⟩
    · rw [e] at hk
      exact D.ks k hk
    · rw [e] at hk
      rcases List.mem_append.mp hk with h | h
      · exact D.ks k h
      · exact ⟨w, hw, List.mem_singleton.mp h⟩
  · rw [valV_put]
    by_cases e : x = w
    · rw [if_pos (congrArg Sum.inr e), if_pos e]
      exact Or.inl rfl
    · rw [if_neg (fun z => e (Sum.inr.inj z)), if_neg e]
      exact D.vl x
theorem DNum.congr {ws : List Str} {kvs : List (Key × V)} {f g : Str → Int} (D : DNum ws kvs f) (h : ∀ w, f w = g w) : DNum ws kvs g := by
  rw [show g = f from funext fun w => (h w).symm]
  exact D
theorem DNum.len {ws : List Str} {kvs : List (Key × V)} {f : Str → Int} (D : DNum ws kvs f) : kvs.length ≤ ws.length := by
  have h := nodup_le (l := kvs.map (·.1)) (m := ws.map (Sum.inr : Str → Key)) D.nd fun k hk => by
    obtain ⟨w, hw, e⟩ := D.ks k hk
    exact List.mem_map.mpr ⟨w, hw, e.symm⟩
  rw [List.length_map, List.length_map] at h
  exact h
/-- the words of the dict, as list(d) tells them -/
theorem DNum.words {ws : List Str} {f : Str → Int} : ∀ {kvs : List (Key × V)}, (∀ k ∈ kvs.map (·.1), ∃ w ∈ ws, k = Sum.inr w) → (kvs.map (·.1)).Nodup →
    ∃ xs : List Str, (kvs.map fun kv => kV kv.1) = xs.map V.str ∧ xs.Nodup ∧ xs.length = kvs.length ∧ ∀ w, w ∈ xs ↔ (Sum.inr w : Key) ∈ kvs.map (·.1)
  | [], _, _ => ⟨[], rfl, List.nodup_nil, rfl, fun w => ⟨(fun h => nomatch h), (fun h => nomatch h)⟩⟩
  | p :: r, hk, hn => by
    have hn : (p.1 :: r.map (·.1)).Nodup := hn
    obtain ⟨n1, n2⟩ := List.nodup_cons.mp hn
    obtain ⟨xs, e, nx, hl, hm⟩ := DNum.words (f := f) (kvs := r) (fun k h => hk k (List.mem_cons_of_mem _ h)) n2
    obtain ⟨w, _, ew⟩ := hk p.1 List.mem_cons_self
    refine ⟨w :: xs, ?_, List.nodup_cons.mpr ⟨fun h => n1 (by rw [ew]; exact (hm w).mp h), nx⟩, by rw [List.length_cons, List.length_cons, hl], fun x => ?_⟩
    · rw [List.map_cons, List.map_cons, e, ew]
      rfl
    · show x ∈ w :: xs ↔ (Sum.inr x : Key) ∈ p.1 :: r.map (·.1)
      rw [List.mem_cons, List.mem_cons, hm x, ew]
      exact ⟨fun h => h.imp (congrArg Sum.inr) id, fun h => h.imp Sum.inr.inj id⟩
/-- the pairs of a bag stored one behind another -/
theorem DNum.merge {ws : List Str} : ∀ {ps : List (Str × Int)} {kvs : List (Key × V)} {f : Str → Int}, DNum ws kvs f → (∀ p ∈ ps, p.1 ∈ ws) → (ps.map (·.1)).Nodup →
    DNum ws (mergeK kvs (ps.map fun p => ((Sum.inr p.1 : Key), V.int p.2))) fun w => if w ∈ ps.map (·.1) then val ps w else f w
  | [], kvs, f, D, _, _ => D
  | p :: r, kvs, f, D, hk, hn => by
    have hn : (p.1 :: r.map (·.1)).Nodup := hn
    obtain ⟨n1, n2⟩ := List.nodup_cons.mp hn
    have ih := DNum.merge (ps := r) (D.put (hk p List.mem_cons_self) p.2) (fun q h => hk q (List.mem_cons_of_mem _ h)) n2
    refine ih.congr fun w => ?_
    show (if w ∈ r.map (·.1) then val r w else if w = p.1 then p.2 else f w) = if w ∈ p.1 :: r.map (·.1) then (if p.1 = w then p.2 else 0) + val r w else f w
    by_cases h : w ∈ r.map (·.1)
    · have ne : p.1 ≠ w := fun e => n1 (by rw [e]; exact h)
      rw [if_pos h, if_pos (List.mem_cons_of_mem _ h), if_neg ne]
      omega
    · by_cases e : w = p.1
      · subst e
        rw [if_neg h, if_pos rfl, if_pos List.mem_cons_self, if_pos rfl, val_not fun q hq e => h (List.mem_map.mpr ⟨q, hq, e⟩)]
        omega
      · rw [if_neg h, if_neg e, if_neg fun m => (List.mem_cons.mp m).elim e h]
theorem DNum.ofNorm {ws : List Str} {ps : List (Str × Int)} {f : Str → Int} (N : Norm lt ps f) (hk : ∀ p ∈ ps, p.1 ∈ ws) : DNum ws (mergeK [] (ps.map fun p => ((Sum.inr p.1 : Key), V.int p.2))) f :=
  (DNum.nil.merge hk (N.nd lt_irr)).congr fun w => by
    by_cases h : w ∈ ps.map (·.1)
    · rw [if_pos h, N.val_eq lt_irr]
    · rw [if_neg h]
      rw [← N.val_eq lt_irr w, val_not fun q hq e => h (List.mem_map.mpr ⟨q, hq, e⟩)]
end K27

/-! The law's draws: _law_take, _law_box, _law_whole. -/
namespace K27
open PySem PySem.Spec PyProof.Rows L2
def topS (i : Nat) : Stmt := PySem.Challenge.pw_copiedhouse_k27_whole_sums_and_bags_in_a.main.body.getD i (.Pass ⟨0, 0, 0, 0⟩)
abbrev sBagOf : Stmt := topS 1
abbrev sAdded : Stmt := topS 2
abbrev sLess : Stmt := topS 3
abbrev sJoined : Stmt := topS 12
abbrev sBox : Stmt := topS 14
abbrev sTake : Stmt := topS 15
abbrev sPool : Stmt := topS 16
abbrev sWhole : Stmt := topS 17
abbrev sLBag : Stmt := topS 18
abbrev sIsBag : Stmt := topS 19
abbrev sNums : Stmt := topS 20
abbrev sPair : Stmt := topS 21
abbrev sLaw : Stmt := topS 22
section
variable {P : Program} {w : World} {K : PySem.W.Frag} {mg : Str → Option Value} {base : Heap}
/-! ### _law_take -/
def spTake : Sp := fun vs H Q _ => ∃ (b : Addr) (m : Int), vs = [.ref b, .int m] ∧ Box H b ∧ 0 < m ∧ m ≤ 4294967296 ∧ ∀ (r : Int) (H' : Hp), 0 ≤ r → r < m → Evo H H' → (∀ c o, H c = some o → c ≠ b → H' c = some o) → Q (.int r) H'
theorem scTake : FnScope ["_law_box_here", "_law_many", "_law_digit", "_law_one"] ["_law_box_here", "_law_many"] (defScope sTake) := ⟨rfl, rfl, rfl, by decide +kernel, rfl, by decide +kernel, by decide +kernel⟩
theorem wide_by {i m : Int} (h : 0 < m) (h2 : m ≤ 4294967296) : CDivW i m := wide_div (b := 40) h (by
  have e : (2 : Nat) ^ 40 = 1099511627776 := by decide
  rw [e]
  omega) (by decide) (by decide)
theorem ok_take {f : Addr} {fd : FuncData} (F : Fun K "_law_take" "_law_take" sTake f fd) : FnOk P w K mg base CX0 1 f fd ["_law_box_here", "_law_many"] spTake := by
  refine F.ok scTake (fun vs H Q E h => ?_) (fun cdv A outer s H vs Q E hr h => ?_)
  · obtain ⟨b, m, rfl, _⟩ := h
    rfl
  · obtain ⟨b, m, rfl, hb, h0, h1, q⟩ := h
    refine ⟨_, pss_cons (ps_if (pt_cmpR op_gt (pe_ix ix_list (pv 0) pe_int (fun _ _ => rfl)) pe_int (nomark _))
        (pss_cons (ps_set (i := 2) scTake.nd rfl (.inl rfl) (pe_op op_mod (pe_ix ix_list (pv 0) pe_int (fun _ _ => rfl)) (pv 1)))
        (pss_cons (ps_asg (pe_op op_fdivW (pe_ix ix_list (pv 0) pe_int (fun _ _ => rfl)) (pv 1)) (pg_sub (pv 0) pe_int set_list))
        (pss_one (ps_ret (pv 2))))) pss_nil)
      (pss_cons (ps_set (i := 3) scTake.nd rfl (.inl rfl) (pe_op op_mod (pe_op op_mul (pe_ix ix_list (pv 0) pe_int (fun _ _ => rfl)) pe_int) pe_int))
      (pss_cons (ps_asg (pe_op op_add (pe_op op_mod (pe_op op_add (pe_op op_mul (pv 3) pe_int) pe_int) pe_int) pe_int) (pg_sub (pv 0) pe_int set_list))
      (pss_one (ps_ret (pe_op op_mod (pe_op op_fdiv (pe_op op_add (pe_op op_mul (pv 3) pe_int) (pe_ix ix_list (pv 0) pe_int (fun _ _ => rfl))) pe_int) (pv 1)))))), ?_⟩
    obtain ⟨c, s0, e⟩ := id hb
    refine ⟨.ref b, rfl, b, _, 0, .int c, rfl, rfl, SqL.of e, atI_nat (j := 0) rfl, c, 0, rfl, rfl, _, rfl, ite2 (fun _ => ?_) (fun _ => ?_)⟩
    · refine ⟨.ref b, rfl, b, _, 0, .int c, rfl, rfl, SqL.of e, atI_nat (j := 0) rfl, .int m, rfl, c, m, rfl, rfl, h0, ?_⟩
      refine ⟨.ref b, rfl, b, _, 0, .int c, rfl, rfl, SqL.of e, atI_nat (j := 0) rfl, .int m, rfl, c, m, rfl, rfl, wide_by h0 h1, ?_⟩
      refine ⟨.ref b, rfl, b, _, 0, 0, rfl, rfl, e, rfl, ?_⟩
      exact ⟨.int (c % m), rfl, q _ _ (Int.emod_nonneg _ (by omega)) (Int.emod_lt_of_pos _ h0) ((Evo.refl H).setBox hb) fun c o e hc => by rw [upd_ne hc]; exact e⟩
    · refine ⟨.ref b, rfl, b, _, 1, .int s0, rfl, rfl, SqL.of e, atI_nat (j := 1) rfl, s0, 69623, rfl, rfl, .inr ⟨by decide, by decide⟩, _, 2147483647, rfl, rfl, by show (0 : Int) < 2147483647; decide, ?_⟩
      refine ⟨.int _, rfl, _, 48271, rfl, rfl, .inr ⟨by decide, by decide⟩, _, 30103, rfl, rfl, _, 2147483646, rfl, rfl, by show (0 : Int) < 2147483646; decide, _, 1, rfl, rfl, ?_⟩
      refine ⟨.ref b, rfl, b, _, 1, 1, rfl, rfl, e, rfl, ?_⟩
      refine ⟨.int _, rfl, _, 2147483647, rfl, rfl, .inr ⟨by decide, by decide⟩, .ref b, rfl, b, _, 1, .int _, rfl, rfl, SqL.of upd_same, atI_nat (j := 1) rfl, _, _, rfl, rfl, _, 8191, rfl, rfl, ⟨by decide, by decide⟩, .int m, rfl, _, m, rfl, rfl, h0, ?_⟩
      exact q _ _ (Int.emod_nonneg _ (by omega)) (Int.emod_lt_of_pos _ h0) ((Evo.refl H).setBox hb) fun c o e hc => by rw [upd_ne hc]; exact e
/-! ### _law_whole -/
def spWhole : Sp := fun vs H Q _ => ∃ i : Int, vs = [.int i] ∧ Q (.bl true) H
theorem scWhole : FnScope ["_law_found"] ["_law_found"] (defScope sWhole) := ⟨rfl, rfl, rfl, by decide +kernel, rfl, by decide +kernel, by decide +kernel⟩
theorem ok_whole {f : Addr} {fd : FuncData} (F : Fun K "_law_whole" "_law_whole" sWhole f fd) (mi : mg "isinstance" = none) (mI : mg "int" = none) (mb : mg "bool" = none) : FnOk P w K mg base CX0 1 f fd ["_law_found"] spWhole := by
  refine F.ok scWhole (fun vs H Q E h => ?_) (fun cdv A outer s H vs Q E hr h => ?_)
  · obtain ⟨i, rfl, _⟩ := h
    rfl
  · obtain ⟨i, rfl, q⟩ := h
    refine ⟨_, pss_one (ps_ret (pe_and (pe_callB call_isi (by rfl) mi (by decide +kernel) (pa_cons (pv 0) (pa_cons (pe_bltn (v := .ty "int") (by rfl) mI (by decide +kernel) rfl) pa_nil)))
      (pe_one (pe_not (pe_callB call_isi (by rfl) mi (by decide +kernel) (pa_cons (pv 0) (pa_cons (pe_bltn (v := .ty "bool") (by rfl) mb (by decide +kernel) rfl) pa_nil))))))), ?_⟩
    refine ⟨.int i, rfl, .int i, .ty "int", _, _, true, rfl, .ty "int", .base (.int i), kit_ty (by decide +kernel), true, rfl, iteT ?_⟩
    exact ⟨.int i, rfl, .int i, .ty "bool", _, _, false, rfl, .ty "bool", .base (.int i), kit_ty (by decide +kernel), false, rfl, q⟩
/-! ### _law_box -/
def spBox (K : PySem.W.Frag) : Sp := fun vs H Q _ => ∃ (a : Addr) (ns : List Int) (k : Nat), vs = [.ref a, .int k] ∧ SqL K H a (ns.map V.int) ∧ ∀ (p : Addr) (H' : Hp), H p = none → Evo H H' → Box H' p → Q (.ref p) H'
theorem scBox : FnScope ["_law_script", "_law_k", "_law_cell", "_law_seed"] ["_law_script", "_law_k"] (defScope sBox) := ⟨rfl, rfl, rfl, by decide +kernel, rfl, by decide +kernel, by decide +kernel⟩
theorem ints_at {ns : List Int} {i : Nat} (h : i < ns.length) : (ns.map V.int)[i]? = some (.int ns[i]) := by
  rw [List.getElem?_map, List.getElem?_eq_getElem h]
  rfl
theorem ok_box {f : Addr} {fd : FuncData} (F : Fun K "_law_box" "_law_box" sBox f fd) (ml : mg "len" = none) (mI : mg "int" = none) : FnOk P w K mg base CX0 1 f fd ["_law_script", "_law_k"] (spBox K) := by
  refine F.ok scBox (fun vs H Q E h => ?_) (fun cdv A outer s H vs Q E hr h => ?_)
  · obtain ⟨a, ns, k, rfl, _⟩ := h
    rfl
  · obtain ⟨a, ns, k, rfl, hS, q⟩ := h
    refine ⟨_, pss_cons (ps_set (i := 2) scBox.nd rfl (.inl rfl) (pe_op op_add (pe_op op_mul pe_int (pv 1)) pe_int))
      (C8.pss_cut (ps_if (pt_cmpR op_lt (pv 1) (pe_callB call_len_seq (by rfl) ml PySem.boot_len (pa_cons (pv 0) pa_nil)) (nomark _))
          (pss_one (ps_set (i := 2) scBox.nd rfl (.inl rfl) (pe_ix ix_list (pv 0) (pv 1) (fun _ _ => rfl))))
          (pss_one (ps_if (pt_cmpR op_gt (pe_callB call_len_seq (by rfl) ml PySem.boot_len (pa_cons (pv 0) pa_nil)) pe_int (nomark _))
            (pss_one (ps_set (i := 2) scBox.nd rfl (.inl rfl) (pe_op op_add (pv 2) (pe_op op_mul (pe_op op_mod (pe_ix ix_list (pv 0) (pe_op op_mod (pv 1) (pe_callB call_len_seq (by rfl) ml PySem.boot_len (pa_cons (pv 0) pa_nil))) (fun _ _ => rfl)) pe_int) pe_int))))
            pss_nil)))
      (pss_cons (ps_set (i := 3) scBox.nd rfl (.inl rfl) (pe_op op_add (pe_op op_mod (pe_op op_add (pe_op op_mul (pe_op op_mod (pv 2) pe_int) pe_int) (pe_op op_mul pe_int (pv 1))) pe_int) pe_int))
      (pss_one (ps_ret (pe_lst (pa_cons (pe_op op_mul (pv 2) (pe_callTy call_int1 (by rfl) mI (by decide +kernel) (pa_cons (pe_cmpR op_ge (pv 2) (pe_op op_pow pe_int pe_int) (nomark _)) pa_nil))) (pa_cons (pv 3) pa_nil))))))), ?_⟩
    have len0 : (ns.map V.int).length = ns.length := List.length_map _
    refine ⟨.int k, rfl, 7919, k, rfl, rfl, .inl ⟨by decide, by decide⟩, _, 11, rfl, rfl, ?_⟩
    refine ⟨fun σ' H' => H' = H ∧ ∃ z : Int, σ' = [some (.ref a), some (.int k), some (.int z), none], ?_, ?_⟩
    · refine ⟨.int k, rfl, .ref a, rfl, a, ns.map V.int, rfl, .inl hS, k, _, rfl, rfl, _, rfl, ite2 (fun h => ?_) (fun h => ?_)⟩
      · have h' : k < ns.length := by
          have := of_decide_eq_true h
          rw [len0] at this
          omega
        exact ⟨.ref a, rfl, .int k, rfl, a, _, k, .int ns[k], rfl, rfl, hS, atI_nat (ints_at h'), rfl, _, rfl⟩
      · refine ⟨.ref a, rfl, a, ns.map V.int, rfl, .inl hS, _, 0, rfl, rfl, _, rfl, ite2 (fun h2 => ?_) (fun h2 => ?_)⟩
        · have hp : 0 < ns.length := by
            have := of_decide_eq_true h2
            rw [len0] at this
            omega
          have hm : k % ns.length < ns.length := Nat.mod_lt _ hp
          have em : (k : Int) % ((ns.map V.int).length : Int) = ((k % ns.length : Nat) : Int) := by
            rw [len0]
            exact (Int.natCast_emod k ns.length).symm
          refine ⟨.int _, rfl, .ref a, rfl, .int k, rfl, .ref a, rfl, a, ns.map V.int, rfl, .inl hS, k, _, rfl, rfl, by show (0 : Int) < ((ns.map V.int).length : Int); rw [len0]; omega, a, _, _, .int ns[k % ns.length], rfl, rfl, hS, by rw [em]; exact atI_nat (ints_at hm), _, 2147483629, rfl, rfl, by show (0 : Int) < 2147483629; decide, _, 69623, rfl, rfl, .inr ⟨by decide, by decide⟩, _, _, rfl, rfl, rfl, _, rfl⟩
        · exact ⟨rfl, _, rfl⟩
    · rintro σ' H' ⟨rfl, z, rfl⟩
      refine ⟨.int z, rfl, z, 2147483629, rfl, rfl, by show (0 : Int) < 2147483629; decide, _, 48271, rfl, rfl, .inr ⟨by decide, by decide⟩, .int k, rfl, 40692, k, rfl, rfl, .inl ⟨by decide, by decide⟩, _, _, rfl, rfl, _, 2147483646, rfl, rfl, by show (0 : Int) < 2147483646; decide, _, 1, rfl, rfl, ?_⟩
      refine ⟨.int z, rfl, .int z, rfl, 10, 18, rfl, rfl, ⟨by decide, by decide, by decide⟩, z, _, rfl, rfl, .inr ⟨_, rfl, z, _, rfl, rfl, .inr ?_, .int _, rfl, ?_⟩⟩
      · split
        · exact ⟨by decide, by decide⟩
        · exact ⟨by decide, by decide⟩
      · refine ⟨by show 2 ≤ sizeLine; decide, fun p np => ?_⟩
        exact q p _ np (Evo.new np _) ⟨_, _, upd_same⟩
end
end K27

/-! The program's bags: bag_of, bags_added, bags_less. Two readings that stand in several defs: a dict's bag, a bag added to a dict. -/
namespace K27
open PySem PySem.Spec PyProof.Rows L2
/-- tuple([(word, d[word]) for word in sorted(list(d)) if d[word] != 0]), d in slot i, word in slot j -/
theorem bag_reading {K : PySem.W.Frag} {ws : List Str} {f : Str → Int} {kvs : List (Key × V)} {d : Addr} {i j : Nat} {σ : L2.St} {H : Hp} {Q : VK} (hij : j ≠ i) (hj : j < σ.length) (hi : σ[i]? = some (some (.ref d)))
    (hd : H d = some (.dK kvs)) (D : DNum ws kvs f) (hw : ws.length < 64) (q : ∀ (l : Addr) (H' : Hp), H l = none → Evo H H' → Bag ws H' l f → Q (.ref l) H') :
    tCB (rTupF K) (tCons (tLc (iList K (tCB (rSortedS K) (tCons (tCB rListD (tCons (tVar i) tNil)) tNil))) (gName j) (tTest (tOp rNe (tDGet (tVar i) (tVar j)) (tC (.int 0)))) (tTup (tCons (tVar j) (tCons (tDGet (tVar i) (tVar j)) tNil))) [j]) tNil) σ H Q := by
  obtain ⟨xs, ex, nx, lx, mx⟩ := DNum.words (f := f) D.ks D.nd
  have lx' : xs.length < 64 := by
    have := D.len
    omega
  refine ⟨.ref d, hi, d, kvs, rfl, hd, fun a na => ?_⟩
  refine ⟨a, xs, rfl, by rw [ex]; exact SqL.of upd_same, lx', fun ys s py sy ns => ?_⟩
  have ev1 : Evo H (upd H a (.lst (kvs.map fun kv => kV kv.1))) := Evo.new na _
  have ev2 : Evo H (upd (upd H a (.lst (kvs.map fun kv => kV kv.1))) s (.lst (ys.map V.str))) := ev1.upd (ev1.free ns) _
  have h2s : (upd (upd H a (.lst (kvs.map fun kv => kV kv.1))) s (.lst (ys.map V.str))) s = some (.lst (ys.map V.str)) := upd_same
  revert ev2 h2s
  generalize upd (upd H a (.lst (kvs.map fun kv => kV kv.1))) s (.lst (ys.map V.str)) = H2
  intro ev2 h2s
  have ly : ys.length < 64 := by
    rw [py.length_eq]
    exact lx'
  refine ⟨s, rfl, ⟨_, SqL.of h2s⟩, fun L nL => lc_list (K := K) (a := s) (xs := ys.map V.str) (fun n H' => Evo H2 H' ∧ ∃ rs : List Addr, H' L = some (.lst (rs.map V.ref)) ∧ rs.length ≤ n ∧
    Paired (fun r (p : Str × Int) => H' r = some (.tup [.str p.1, .int p.2])) rs (((ys.take n).filter fun w => decide (f w ≠ 0)).map fun w => (w, f w))) ?_ ?_ ?_ ?_⟩
  · exact ⟨Evo.new nL _, [], upd_same, Nat.le_refl _, .nil⟩
  · rintro n H' _ ⟨ev, _⟩
    exact SqL.of (ev.keep h2s nb_strs)
  · rintro n x H' hx ⟨ev, rs, eL, lrs, pr⟩
    obtain ⟨w, hy, rfl⟩ : ∃ w, ys[n]? = some w ∧ x = V.str w := by
      rw [List.getElem?_map] at hx
      cases e : ys[n]? with
      | none =>
        rw [e] at hx
        cases hx
      | some w =>
        rw [e] at hx
        exact ⟨w, rfl, (Option.some.inj hx).symm⟩
    have hn : n < 64 := Nat.lt_trans (List.getElem?_eq_some_iff.mp hy).1 ly
    have hwx : w ∈ xs := py.mem_iff.mp (List.mem_of_getElem? hy)
    have hd' : H' d = some (.dK kvs) := ev.keep (ev2.keep hd nb_dK) nb_dK
    have hv : valV kvs (Sum.inr w : Key) = some (.int (f w)) := by
      rcases D.vl w with e | ⟨e, _⟩
      · exact e
      · exact (valV_not e ((mx w).mp hwx)).elim
    have dg : DGet H' d (.str w) (some (.int (f w))) := by
      rw [← hv]
      exact DGet.k (k := Sum.inr w) hd'
    have gi : ((wipe σ [j]).set j (some (V.str w)))[i]? = some (some (.ref d)) := by
      show ((σ.set j none).set j (some (V.str w)))[i]? = _
      rw [List.set_set, List.getElem?_set_ne hij]
      exact hi
    have gj : ((wipe σ [j]).set j (some (V.str w)))[j]? = some (some (.str w)) := by
      show ((σ.set j none).set j (some (V.str w)))[j]? = _
      rw [List.set_set, List.getElem?_set_self hj]
    refine ⟨?_, .ref d, gi, .str w, gj, d, _, rfl, dg, rfl, _, rfl, ?_⟩
    · show ((σ.set j none).set j (some (V.str w))).set j none = σ.set j none
      rw [List.set_set, List.set_set]
    · by_cases h0 : f w = 0
      · rw [show (!decide (V.int (f w) = V.int 0)) = false by simp [h0]]
        refine iteF ⟨ev, rs, eL, Nat.le_succ_of_le lrs, ?_⟩
        rw [List.take_add_one, hy, List.filter_append, List.map_append]
        simpa [h0] using pr
      · rw [show (!decide (V.int (f w) = V.int 0)) = true by simp [h0]]
        refine iteT ⟨.str w, gj, .ref d, gi, .str w, gj, d, _, rfl, dg, by show 2 ≤ sizeLine; decide, fun T nT => ⟨rs.map V.ref, ?_, ?_, ?_⟩⟩
        · rw [upd_ne (ne_of_none eL nT)]
          exact eL
        · rw [List.length_map]
          exact small1000 (by omega)
        · have LT : L ≠ T := ne_of_none eL nT
          refine ⟨(ev.upd (ev.free nT) _).upd nL _, rs ++ [T], by rw [upd_same, List.map_append]; rfl, by rw [List.length_append]; show rs.length + 1 ≤ n + 1; omega, ?_⟩
          rw [List.take_add_one, hy, List.filter_append, List.map_append]
          have e1 : (((some w).toList.filter fun w => decide (f w ≠ 0)).map fun w => (w, f w)) = [(w, f w)] := by simp [h0]
          rw [e1]
          refine Paired.snoc (Paired.mapP pr fun r p e => ?_) ?_
          · rw [upd_ne (ne_of e eL (by intro z; cases z)), upd_ne (ne_of_none e nT)]
            exact e
          · rw [upd_ne LT.symm, upd_same]
  · rintro H' ⟨ev, rs, eL, lrs, pr⟩
    rw [List.length_map, List.take_length] at pr
    refine ⟨L, _, rfl, SqL.of eL, fun l o nl _ od => ?_⟩
    have evl : Evo H H' := ev2.trans ev
    refine q l _ (evl.free nl) (evl.upd (evl.free nl) _) ⟨_, ⟨o, rs, upd_same, od, Paired.mapP pr fun r p e => ?_⟩, Norm.of (sorted_pw sy (py.nodup_iff.mpr nx)) fun w h => ?_, fun p hp => ?_⟩
    · rw [upd_ne (ne_of_none e nl)]
      exact e
    · refine py.mem_iff.mpr ((mx w).mpr ?_)
      rcases D.vl w with e | ⟨_, e⟩
      · exact valV_in e
      · exact (h e).elim
    · obtain ⟨w, hw', rfl⟩ := List.mem_map.mp hp
      have hwx : w ∈ xs := py.mem_iff.mp (List.mem_filter.mp hw').1
      obtain ⟨w2, h2, e2⟩ := D.ks _ ((mx w).mp hwx)
      rw [show w = w2 from Sum.inr.inj e2]
      exact h2
/-- for word, many in b: d[word] = d.get(word, 0) + many (or - many): b in slot jb, d in slot dd, word and many in slots jw, jm -/
theorem add_reading {K : PySem.W.Frag} {ws : List Str} {f h : Str → Int} {kvs : List (Key × V)} {d b : Addr} {dd jb jw jm : Nat} {σ : L2.St} {H : Hp} {D : Ends} {g : Int → Int → Int} (sg : Int) (hg : ∀ i j, g i j = i + sg * j)
    (n1 : jw ≠ dd) (n2 : jm ≠ dd) (n3 : jw ≠ jm) (l1 : jw < σ.length) (l2 : jm < σ.length) (h0 : ∃ x y, (σ.set jw x).set jm y = σ) (hdd : σ[dd]? = some (some (.ref d))) (hjb : σ[jb]? = some (some (.ref b)))
    (hd : H d = some (.dK kvs)) (DN : DNum ws kvs f) (hb : Bag ws H b h) (hw : ws.length < 64)
    (q : ∀ (x y : Option V) (kvs' : List (Key × V)), DNum ws kvs' (fun w => f w + sg * h w) → D.nx ((σ.set jw x).set jm y) (upd H d (.dK kvs'))) :
    tFor (iTup K (tVar jb)) (gTup K 2 (gCons (gName jw) (gCons (gName jm) gNil))) (sDPut (tVar dd) (tVar jw) (tOp (rI0 fun i j => .int (g i j)) (tDGet2 (tVar dd) (tVar jw) (tC (.int 0))) (tVar jm))) D σ H := by
  obtain ⟨ps, ⟨o, rs, ha, od, pr⟩, N, hk⟩ := hb
  have stay : ∀ kvs', SqT K (upd H d (.dK kvs')) b (rs.map V.ref) := fun kvs' => .inl (.inr ⟨o, by rw [upd_ne (ne_of ha hd (by intro z; cases z))]; exact ha⟩)
  refine ⟨.ref b, hjb, b, rfl, ⟨rs.map V.ref, .inl (.inr ⟨o, ha⟩)⟩, for_tup (K := K) (a := b) (xs := rs.map V.ref) (fun n σ' H' => ∃ x y kvs', σ' = (σ.set jw x).set jm y ∧ H' = upd H d (.dK kvs') ∧ DNum ws kvs' fun w => f w + sg * val (ps.take n) w) ?_ ?_ ?_ ?_⟩
  · obtain ⟨x, y, e⟩ := h0
    refine ⟨x, y, kvs, e.symm, ?_, DN.congr fun w => ?_⟩
    · funext a
      by_cases z : a = d
      · subst z
        rw [upd_same]
        exact hd
      · rw [upd_ne z]
    · show f w = f w + sg * 0
      omega
  · rintro n σ' H' _ ⟨x, y, kvs', rfl, rfl, _⟩
    exact stay kvs'
  · rintro n x σ' H' hx ⟨x0, y0, kvs', rfl, rfl, DN'⟩
    obtain ⟨r, p, hr, hp, hrp, rfl⟩ : ∃ (r : Addr) (p : Str × Int), rs[n]? = some r ∧ ps[n]? = some p ∧ H r = some (.tup [.str p.1, .int p.2]) ∧ x = V.ref r := by
      rw [List.getElem?_map] at hx
      cases e : rs[n]? with
      | none =>
        rw [e] at hx
        cases hx
      | some r =>
        rw [e] at hx
        obtain ⟨p, e2, e3⟩ := paired_at pr e
        exact ⟨r, p, rfl, e2, e3, (Option.some.inj hx).symm⟩
    have hr' : (upd H d (.dK kvs')) r = some (.tup [.str p.1, .int p.2]) := by
      rw [upd_ne (ne_of hrp hd (by intro z; cases z))]
      exact hrp
    have hpw : p.1 ∈ ws := hk p (List.mem_of_getElem? hp)
    have es : ((((σ.set jw x0).set jm y0).set jw (some (.str p.1))).set jm (some (.int p.2))) = (σ.set jw (some (.str p.1))).set jm (some (.int p.2)) := by
      rw [List.set_comm _ _ n3.symm, List.set_set, List.set_set]
    refine ⟨r, _, rfl, .inl (.inl hr'), rfl, .str p.1, _, rfl, .int p.2, _, rfl, rfl, ?_⟩
    rw [es]
    have g1 : ((σ.set jw (some (V.str p.1))).set jm (some (V.int p.2)))[dd]? = some (some (.ref d)) := by
      rw [List.getElem?_set_ne n2, List.getElem?_set_ne n1]
      exact hdd
    have g2 : ((σ.set jw (some (V.str p.1))).set jm (some (V.int p.2)))[jw]? = some (some (.str p.1)) := by
      rw [List.getElem?_set_ne n3.symm, List.getElem?_set_self l1]
    have g3 : ((σ.set jw (some (V.str p.1))).set jm (some (V.int p.2)))[jm]? = some (some (.int p.2)) := by
      rw [List.getElem?_set_self (by rw [List.length_set]; exact l2)]
    refine ⟨.ref d, g1, d, rfl, .inl ⟨kvs', .inl upd_same⟩, .str p.1, g2, _, DGet.k (k := Sum.inr p.1) upd_same, .int p.2, g3, _, p.2, DN'.get p.1, rfl, .ref d, g1, .str p.1, g2, d, _, rfl, DPut.k (k := Sum.inr p.1) upd_same ?_, ?_⟩
    · have := DN'.len
      exact small1000 (by omega)
    · refine ⟨_, _, _, rfl, upd_upd, (DN'.put hpw _).congr fun w => ?_⟩
      rw [val_take hp, Int.mul_add, hg]
      by_cases e : w = p.1
      · subst e
        rw [if_pos rfl, if_pos rfl]
        omega
      · rw [if_neg e, if_neg fun z => e z.symm]
        omega
  · rintro σ' H' ⟨x, y, kvs', rfl, rfl, DN'⟩
    refine q x y kvs' (DN'.congr fun w => ?_)
    have el : ps.take (rs.map V.ref).length = ps := List.take_of_length_le (by
      rw [List.length_map]
      exact Nat.le_of_eq (Paired.length pr).symm)
    rw [el, N.val_eq lt_irr]
section
variable {P : Program} {w : World} {K : PySem.W.Frag} {mg : Str → Option Value} {base : Heap}
/-! ### bag_of -/
def spBagOf : Sp := fun vs H Q _ => ∃ (d : Addr) (ws : List Str) (kvs : List (Key × V)) (f : Str → Int), vs = [.ref d] ∧ H d = some (.dK kvs) ∧ DNum ws kvs f ∧ ws.length < 64 ∧ ∀ (l : Addr) (H' : Hp), H l = none → Evo H H' → Bag ws H' l f → Q (.ref l) H'
theorem scBagOf : FnScope ["numbers", "word"] ["numbers"] (defScope sBagOf) := ⟨rfl, rfl, rfl, by decide +kernel, rfl, by decide +kernel, by decide +kernel⟩
theorem ok_bagOf {f : Addr} {fd : FuncData} (F : Fun K "bag_of" "bag_of" sBagOf f fd) (mt : mg "tuple" = none) (ms : mg "sorted" = none) (ml : mg "list" = none) : FnOk P w K mg base CX0 1 f fd ["numbers"] spBagOf := by
  refine F.ok scBagOf (fun vs H Q E h => ?_) (fun cdv A outer s H vs Q E hr h => ?_)
  · obtain ⟨d, ws, kvs, f, rfl, _⟩ := h
    rfl
  · obtain ⟨d, ws, kvs, f, rfl, hd, D, hw, q⟩ := h
    have hu := hu_of hr
    refine ⟨_, pss_one (ps_ret (pe_callTy call_tuple_frz (by rfl) mt (by decide +kernel) (pa_cons
      (pe_lc (own := [("word", 1)]) (g := gName 1) (by rfl) scBagOf.nd (pi_list (pe_callB cr_sortedS (by rfl) ms (by decide +kernel) (pa_cons (pe_callTy (call_list_dK rfl) (by rfl) ml (by decide +kernel) (pa_cons (pv 0) pa_nil)) pa_nil)))
        (blkOk_by (own := [("word", 1)]) (N := ["numbers", "word"]) (sc := defScope sBagOf) (by decide +kernel)) (fun _ _ _ _ _ => pg_name (i := 1) scBagOf.nd rfl (Or.inl rfl))
        (fun _ _ _ _ _ => pts_one (pt_cmpR op_ne (pe_dget hu (pv 0) (pv 1) (fun _ _ => rfl)) pe_int (nomark _))) (fun _ _ _ _ _ => pe_tup (pa_cons (pv 1) (pa_cons (pe_dget hu (pv 0) (pv 1) (fun _ _ => rfl)) pa_nil)))) pa_nil))), ?_⟩
    exact bag_reading (by decide) (by show 1 < 2; decide) rfl hd D hw q
/-! ### bags_added -/
def spAdded : Sp := fun vs H Q _ => ∃ (a b : Addr) (ws : List Str) (f g : Str → Int), vs = [.ref a, .ref b] ∧ Bag ws H a f ∧ Bag ws H b g ∧ ws.length < 64 ∧ ∀ (l : Addr) (H' : Hp), H l = none → Evo H H' → Bag ws H' l (fun w => f w + g w) → Q (.ref l) H'
theorem scAdded : FnScope ["one", "other", "numbers", "word", "many"] ["one", "other"] (defScope sAdded) := ⟨rfl, rfl, rfl, by decide +kernel, rfl, by decide +kernel, by decide +kernel⟩
theorem ok_added {f fB : Addr} {fd fdB : FuncData} (F : Fun K "bags_added" "bags_added" sAdded f fd) (FB : Fun K "bag_of" "bag_of" sBagOf fB fdB) (bB : Binds K fdB ["numbers"] []) (gB : mg "bag_of" = some (.ref fB))
    (GB : FnOk P w K mg base CX0 1 fB fdB ["numbers"] spBagOf) (md : mg "dict" = none) : FnOk P w K mg base CX0 2 f fd ["one", "other"] spAdded := by
  refine F.ok scAdded (fun vs H Q E h => ?_) (fun cdv A outer s H vs Q E hr h => ?_)
  · obtain ⟨a, b, ws, f, g, rfl, _⟩ := h
    rfl
  · obtain ⟨a, b, ws, f, g, rfl, ha, hb, hw, q⟩ := h
    have hu := hu_of hr
    refine ⟨_, pss_cons (ps_set (i := 2) scAdded.nd rfl (.inl rfl) (pe_callTy (call_dictT rfl) (by rfl) md (by decide +kernel) (pa_cons (pv 0) pa_nil)))
      (pss_cons (ps_for PassesOwn.never rfl (pi_tup (pv 1)) (pg_tup rfl (pgs_cons (pg_name (i := 3) scAdded.nd rfl (.inl rfl)) (pgs_cons (pg_name (i := 4) scAdded.nd rfl (.inl rfl)) pgs_nil)))
        (pss_one (ps_dput hu (pv 2) (pv 3) (pe_op op_add (pe_dget2 hu (pv 2) (pv 3) pe_int ⟨rfl, rfl, rfl, rfl⟩) (pv 4)) rfl)))
      (pss_one (ps_ret (pe_call GB hr (by rfl) gB FB.kp bB .nil pass0 (pa_cons (pv 2) pa_nil))))), ?_⟩
    obtain ⟨ps, ⟨o, rs, e, od, pr⟩, N, hk⟩ := id ha
    refine ⟨.ref a, rfl, a, o, rs, ps.map fun p => ((Sum.inr p.1 : Key), V.int p.2), rfl, e, od, ?_, fun d nd => ?_⟩
    · clear N hk e q
      induction pr with
      | nil => exact .nil
      | cons x _ ih => exact .cons (.inl (.inl x)) ih
    · have ev : Evo H (upd H d (.dK (mergeK [] (ps.map fun p => ((Sum.inr p.1 : Key), V.int p.2))))) := Evo.new nd _
      refine add_reading (f := f) (h := g) (ws := ws) (d := d) (b := b) 1 (fun i j => by omega) (by decide) (by decide) (by decide) (by show 3 < 5; decide) (by show 4 < 5; decide) ⟨none, none, rfl⟩ rfl rfl upd_same (DNum.ofNorm N hk) (ev.bag hb) hw fun x y kvs' DN => ?_
      rw [upd_upd]
      refine ⟨.ref d, rfl, d, ws, kvs', _, rfl, upd_same, DN, hw, fun l H' nl ev' hB => ?_⟩
      have ev2 : Evo H (upd H d (.dK kvs')) := Evo.new nd _
      have ew : (fun w => f w + 1 * g w) = fun w => f w + g w := funext fun w => by omega
      rw [ew] at hB
      exact q l H' (ev2.free nl) (ev2.trans ev') hB
end
end K27

/-! bags_less, joined (by sum, by bag); the law's _law_is_bag, _law_numbers. -/
namespace K27
open PySem PySem.Spec PyProof.Rows L2
theorem Norm.neg {ps : List (Str × Int)} {g : Str → Int} (N : Norm lt ps g) : Norm lt (ps.map fun p => (p.1, 0 - p.2)) fun w => 0 - g w := by
  refine ⟨?_, fun w n => ⟨fun h => ?_, fun h => ?_⟩⟩
  · rw [List.pairwise_map]
    exact N.so
  · obtain ⟨p, hp, e⟩ := List.mem_map.mp h
    have e1 : p.1 = w := congrArg Prod.fst e
    have e2 : 0 - p.2 = n := congrArg Prod.snd e
    have z := (N.at_ p.1 p.2).mp hp
    rw [e1] at z
    exact ⟨by rw [z.1]; exact e2, by omega⟩
  · obtain ⟨h1, h2⟩ := h
    exact List.mem_map.mpr ⟨(w, 0 - n), (N.at_ w (0 - n)).mpr ⟨by omega, by omega⟩, by show (w, 0 - (0 - n)) = (w, n); rw [show (0 : Int) - (0 - n) = n by omega]⟩
theorem neg_at {ps : List (Str × Int)} {n : Nat} {p : Str × Int} (h : ps[n]? = some p) : (ps.map fun p => (p.1, 0 - p.2)).take (n + 1) = (ps.map fun p => (p.1, 0 - p.2)).take n ++ [(p.1, 0 - p.2)] := by
  rw [List.take_add_one, List.getElem?_map, h]
  rfl
theorem pss_any {X : Cx} {sts : List Stmt} : PSs X sts tNever := pss_never
section
variable {P : Program} {w : World} {K : PySem.W.Frag} {mg : Str → Option Value} {base : Heap}
/-! ### bags_less -/
def spLess : Sp := fun vs H Q _ => ∃ (a b : Addr) (ws : List Str) (f g : Str → Int), vs = [.ref a, .ref b] ∧ Bag ws H a f ∧ Bag ws H b g ∧ ws.length < 64 ∧ ∀ (l : Addr) (H' : Hp), H l = none → Evo H H' → Bag ws H' l (fun w => f w - g w) → Q (.ref l) H'
theorem scLess : FnScope ["one", "other", "word", "many"] ["one", "other"] (defScope sLess) := ⟨rfl, rfl, rfl, by decide +kernel, rfl, by decide +kernel, by decide +kernel⟩
theorem ok_less {f fA : Addr} {fd fdA : FuncData} (F : Fun K "bags_less" "bags_less" sLess f fd) (FA : Fun K "bags_added" "bags_added" sAdded fA fdA) (bA : Binds K fdA ["one", "other"] []) (gA : mg "bags_added" = some (.ref fA))
    (GA : FnOk P w K mg base CX0 2 fA fdA ["one", "other"] spAdded) (mt : mg "tuple" = none) : FnOk P w K mg base CX0 3 f fd ["one", "other"] spLess := by
  refine F.ok scLess (fun vs H Q E h => ?_) (fun cdv A outer s H vs Q E hr h => ?_)
  · obtain ⟨a, b, ws, f, g, rfl, _⟩ := h
    rfl
  · obtain ⟨a, b, ws, f, g, rfl, ha, hb, hw, q⟩ := h
    refine ⟨_, pss_one (ps_ret (pe_call GA hr (by rfl) gA FA.kp bA .nil pass0 (pa_cons (pv 0) (pa_cons (pe_callTy call_tuple_frz (by rfl) mt (by decide +kernel) (pa_cons
      (pe_lc (own := [("word", 2), ("many", 3)]) (g := gTup K 2 (gCons (gName 2) (gCons (gName 3) gNil))) (by rfl) scLess.nd (pi_tup (pv 1))
        (blkOk_by (own := [("word", 2), ("many", 3)]) (N := ["one", "other", "word", "many"]) (sc := defScope sLess) (by decide +kernel))
        (fun _ _ _ _ _ => pg_tup rfl (pgs_cons (pg_name (i := 2) scLess.nd rfl (Or.inl rfl)) (pgs_cons (pg_name (i := 3) scLess.nd rfl (Or.inl rfl)) pgs_nil)))
        (fun _ _ _ _ _ => pts_nil) (fun _ _ _ _ _ => pe_tup (pa_cons (pv 2) (pa_cons (pe_op op_sub pe_int (pv 3)) pa_nil)))) pa_nil)) pa_nil)))), ?_⟩
    obtain ⟨ps, ⟨o, rs, e, od, pr⟩, N, hk⟩ := id hb
    refine ⟨.ref a, rfl, .ref b, rfl, b, rfl, ⟨rs.map V.ref, .inl (.inr ⟨o, e⟩)⟩, fun L nL => lc_tup (K := K) (a := b) (xs := rs.map V.ref) (fun n H' => Evo H H' ∧ ∃ ts : List Addr, H' L = some (.lst (ts.map V.ref)) ∧ ts.length = n ∧
      Paired (fun r (p : Str × Int) => H' r = some (.tup [.str p.1, .int p.2])) ts ((ps.map fun p => (p.1, 0 - p.2)).take n)) ?_ ?_ ?_ ?_⟩
    · exact ⟨Evo.new nL _, [], upd_same, rfl, .nil⟩
    · rintro n H' _ ⟨ev, _⟩
      exact .inl (.inr ⟨o, ev.keep e nb_frz⟩)
    · rintro n x H' hx ⟨ev, ts, eL, lts, tr⟩
      obtain ⟨r, p, hr2, hp, hrp, rfl⟩ : ∃ (r : Addr) (p : Str × Int), rs[n]? = some r ∧ ps[n]? = some p ∧ H r = some (.tup [.str p.1, .int p.2]) ∧ x = V.ref r := by
        rw [List.getElem?_map] at hx
        cases e : rs[n]? with
        | none =>
          rw [e] at hx
          cases hx
        | some r =>
          rw [e] at hx
          obtain ⟨p, e2, e3⟩ := paired_at pr e
          exact ⟨r, p, rfl, e2, e3, (Option.some.inj hx).symm⟩
      have hlen : rs.length ≤ 64 := by
        rw [Paired.length pr]
        have z := nodup_le (l := ps.map (·.1)) (m := ws) (N.nd lt_irr) fun x hx => by
          obtain ⟨q, hq, rfl⟩ := List.mem_map.mp hx
          exact hk q hq
        rw [List.length_map] at z
        omega
      have hn : n < rs.length := (List.getElem?_eq_some_iff.mp hr2).1
      refine ⟨r, _, rfl, .inl (.inl (ev.keep hrp nb_tup)), rfl, .str p.1, _, rfl, .int p.2, _, rfl, rfl, rfl, .str p.1, rfl, .int p.2, rfl, 0, p.2, rfl, rfl, by show 2 ≤ sizeLine; decide, fun T nT => ⟨ts.map V.ref, ?_, ?_, ?_⟩⟩
      · rw [upd_ne (ne_of_none eL nT)]
        exact eL
      · rw [List.length_map]
        exact small1000 (by omega)
      · have LT : L ≠ T := ne_of_none eL nT
        refine ⟨(ev.upd (ev.free nT) _).upd nL _, ts ++ [T], by rw [upd_same, List.map_append]; rfl, by rw [List.length_append, lts]; rfl, ?_⟩
        rw [neg_at hp]
        refine Paired.snoc (Paired.mapP tr fun r p e => ?_) ?_
        · rw [upd_ne (ne_of e eL (by intro z; cases z)), upd_ne (ne_of_none e nT)]
          exact e
        · rw [upd_ne LT.symm, upd_same]
    · rintro H' ⟨ev, ts, eL, lts, tr⟩
      have el : (ps.map fun p => (p.1, 0 - p.2)).take (rs.map V.ref).length = ps.map fun p => (p.1, 0 - p.2) := List.take_of_length_le (by
        rw [List.length_map, List.length_map]
        exact Nat.le_of_eq (Paired.length pr).symm)
      rw [el] at tr
      refine ⟨L, _, rfl, SqL.of eL, fun l o2 nl _ od2 => ?_⟩
      have evl : Evo H (upd H' l (.frz o2 (.tup (ts.map V.ref)))) := ev.upd (ev.free nl) _
      refine ⟨a, l, ws, f, fun w => 0 - g w, rfl, evl.bag ha, ⟨_, ⟨o2, ts, upd_same, od2, Paired.mapP tr fun r p e => ?_⟩, N.neg, fun p hp => ?_⟩, hw, fun l2 H2 n2 ev2 hB => ?_⟩
      · rw [upd_ne (ne_of_none e nl)]
        exact e
      · obtain ⟨q, hq, rfl⟩ := List.mem_map.mp hp
        exact hk q hq
      · have ew : (fun w => f w + (0 - g w)) = fun w => f w - g w := funext fun w => by omega
        rw [ew] at hB
        exact q l2 H2 (evl.free n2) (evl.trans ev2) hB
/-! ### joined -/
theorem scJoined : FnScope ["manner", "was", "mine", "yours", "wrote"] ["manner", "was", "mine", "yours", "wrote"] (defScope sJoined) := ⟨rfl, rfl, rfl, by decide +kernel, rfl, by decide +kernel, by decide +kernel⟩
def spSum : Sp := fun vs H Q _ => ∃ (m : Addr) (x y z : Int), vs = [.ref m, .int x, .int y, .int z, .bl true] ∧ H m = some (.tup [.str "sum"]) ∧ Q (.int ((y + z - x) % 4294967296)) H
theorem ok_sum {f : Addr} {fd : FuncData} {t : Tok} (F : Fun K "joined" "joined" sJoined f fd) (mW : mg "WIDE" = some (.int 4294967296 t)) : FnOk P w K mg base CX0 4 f fd ["manner", "was", "mine", "yours", "wrote"] spSum := by
  refine F.ok scJoined (fun vs H Q E h => ?_) (fun cdv A outer s H vs Q E hr h => ?_)
  · obtain ⟨m, x, y, z, rfl, _⟩ := h
    rfl
  · obtain ⟨m, x, y, z, rfl, hm, q⟩ := h
    refine ⟨_, pss_cons (ps_if (pt_cmpR op_eq (pe_ix ix_tup (pv 0) pe_int (fun _ _ => rfl)) pe_str (nomark _))
      (pss_one (ps_ret (pe_op op_mod (pe_op op_sub (pe_op op_add (pv 2) (pv 3)) (pv 1)) (pe_glob (v := .int 4294967296) rfl mW ⟨_, rfl⟩)))) pss_nil) pss_never, ?_⟩
    refine ⟨.ref m, rfl, m, _, 0, .str "sum", rfl, rfl, .inl (.inl hm), atI_nat (j := 0) rfl, rfl, _, rfl, ite2 (fun _ => ?_) (fun h => (h (decide_eq_true rfl)).elim)⟩
    exact ⟨.int y, rfl, .int z, rfl, y, z, rfl, rfl, .int x, rfl, _, x, rfl, rfl, _, 4294967296, rfl, rfl, by show (0 : Int) < 4294967296; decide, q⟩
def spJBag : Sp := fun vs H Q _ => ∃ (m a b c : Addr) (ws : List Str) (f g h : Str → Int), vs = [.ref m, .ref a, .ref b, .ref c, .bl true] ∧ H m = some (.tup [.str "bag"]) ∧ Bag ws H a f ∧ Bag ws H b g ∧ Bag ws H c h ∧ ws.length < 64 ∧
  ∀ (l : Addr) (H' : Hp), H l = none → Evo H H' → Bag ws H' l (fun w => g w + (h w - f w)) → Q (.ref l) H'
theorem bag_ne_sum : ¬ V.str "bag" = V.str "sum" := by decide +kernel
theorem ok_jbag {f fA fL : Addr} {fd fdA fdL : FuncData} (F : Fun K "joined" "joined" sJoined f fd) (FA : Fun K "bags_added" "bags_added" sAdded fA fdA) (bA : Binds K fdA ["one", "other"] []) (gA : mg "bags_added" = some (.ref fA))
    (GA : FnOk P w K mg base CX0 2 fA fdA ["one", "other"] spAdded) (FL : Fun K "bags_less" "bags_less" sLess fL fdL) (bL : Binds K fdL ["one", "other"] []) (gL : mg "bags_less" = some (.ref fL))
    (GL : FnOk P w K mg base CX0 3 fL fdL ["one", "other"] spLess) : FnOk P w K mg base CX0 4 f fd ["manner", "was", "mine", "yours", "wrote"] spJBag := by
  refine F.ok scJoined (fun vs H Q E h => ?_) (fun cdv A outer s H vs Q E hr h => ?_)
  · obtain ⟨m, a, b, c, ws, f, g, h, rfl, _⟩ := h
    rfl
  · obtain ⟨m, a, b, c, ws, f, g, h, rfl, hm, ha, hb, hc, hw, q⟩ := h
    refine ⟨_, pss_cons (ps_if (pt_cmpR op_eq (pe_ix ix_tup (pv 0) pe_int (fun _ _ => rfl)) pe_str (nomark _)) pss_never pss_nil)
      (pss_cons (ps_if (pt_cmpR op_eq (pe_ix ix_tup (pv 0) pe_int (fun _ _ => rfl)) pe_str (nomark _))
        (pss_one (ps_ret (pe_call GA (hr.mono (by decide)) (by rfl) gA FA.kp bA .nil pass0 (pa_cons (pv 2) (pa_cons (pe_call GL hr (by rfl) gL FL.kp bL .nil pass0 (pa_cons (pv 3) (pa_cons (pv 1) pa_nil))) pa_nil))))) pss_nil) pss_never), ?_⟩
    refine ⟨.ref m, rfl, m, _, 0, .str "bag", rfl, rfl, .inl (.inl hm), atI_nat (j := 0) rfl, rfl, _, rfl, ite2 (fun h => (bag_ne_sum (of_decide_eq_true h)).elim) (fun _ => ?_)⟩
    refine ⟨.ref m, rfl, m, _, 0, .str "bag", rfl, rfl, .inl (.inl hm), atI_nat (j := 0) rfl, rfl, _, rfl, ite2 (fun _ => ?_) (fun h => (h (decide_eq_true rfl)).elim)⟩
    refine ⟨.ref b, rfl, .ref c, rfl, .ref a, rfl, c, a, ws, h, f, rfl, hc, ha, hw, fun l H1 nl ev hB => ?_⟩
    exact ⟨b, l, ws, g, fun w => h w - f w, rfl, ev.bag hb, hB, hw, fun l2 H2 n2 ev2 hB2 => q l2 H2 (ev.free n2) (ev.trans ev2) hB2⟩
/-! ### _law_is_bag -/
def spIsBag : Sp := fun vs H Q _ => ∃ (a d : Addr) (ws : List Str) (kvs : List (Key × V)) (f : Str → Int), vs = [.ref a, .ref d] ∧ Bag ws H a f ∧ H d = some (.dK kvs) ∧ DNum ws kvs f ∧ ws.length < 64 ∧ ∀ H' : Hp, Evo H H' → Q (.bl true) H'
theorem scIsBag : FnScope ["_law_found", "_law_due", "_law_pair_here", "_law_word"] ["_law_found", "_law_due"] (defScope sIsBag) := ⟨rfl, rfl, rfl, by decide +kernel, rfl, by decide +kernel, by decide +kernel⟩
theorem ok_isBag {f fW : Addr} {fd fdW : FuncData} (F : Fun K "_law_is_bag" "_law_is_bag" sIsBag f fd) (FW : Fun K "_law_whole" "_law_whole" sWhole fW fdW) (bW : Binds K fdW ["_law_found"] []) (gW : mg "_law_whole" = some (.ref fW))
    (GW : FnOk P w K mg base CX0 1 fW fdW ["_law_found"] spWhole) (mi : mg "isinstance" = none) (mt : mg "tuple" = none) (mS : mg "str" = none) (mn : mg "len" = none) (ms : mg "sorted" = none) (ml : mg "list" = none) :
    FnOk P w K mg base CX0 2 f fd ["_law_found", "_law_due"] spIsBag := by
  refine F.ok scIsBag (fun vs H Q E h => ?_) (fun cdv A outer s H vs Q E hr h => ?_)
  · obtain ⟨a, d, ws, kvs, f, rfl, _⟩ := h
    rfl
  · obtain ⟨a, d, ws, kvs, f, rfl, ha, hd, D, hw, q⟩ := h
    have hu := hu_of hr
    refine ⟨_, pss_cons (ps_if (pt_not (pt_val (pe_callB call_isi (by rfl) mi (by decide +kernel) (pa_cons (pv 0) (pa_cons (pe_bltn (v := .ty "tuple") (by rfl) mt (by decide +kernel) rfl) pa_nil))))) (pss_one (ps_ret pe_bl)) pss_nil)
      (pss_cons (ps_for PassesOwn.never rfl (pi_tup (pv 0)) (pg_name (i := 2) scIsBag.nd rfl (.inl rfl)) (pss_one (ps_if (PW.pt
          (pw_or (pt_not (pt_val (pe_callB call_isi (by rfl) mi (by decide +kernel) (pa_cons (pv 2) (pa_cons (pe_bltn (v := .ty "tuple") (by rfl) mt (by decide +kernel) rfl) pa_nil)))))
          (pw_or (pt_cmpR op_ne (pe_callB call_len_seq (by rfl) mn PySem.boot_len (pa_cons (pv 2) pa_nil)) pe_int (nomark _))
          (pw_or (pt_not (pt_val (pe_callB call_isi (by rfl) mi (by decide +kernel) (pa_cons (pe_ix ix_tup (pv 2) pe_int (fun _ _ => rfl)) (pa_cons (pe_bltn (v := .ty "str") (by rfl) mS (by decide +kernel) rfl) pa_nil)))))
          (pw_or1 (pt_not (pt_val (pe_call GW hr (by rfl) gW FW.kp bW .nil pass0 (pa_cons (pe_ix ix_tup (pv 2) pe_int (fun _ _ => rfl)) pa_nil)))))))))
        (pss_one (ps_ret pe_bl)) pss_nil)))
      (pss_one (ps_ret (pe_cmpR (op_eq_bag hr.units) (pv 0) (pe_callTy call_tuple_frz (by rfl) mt (by decide +kernel) (pa_cons
        (pe_lc (own := [("_law_word", 3)]) (g := gName 3) (by rfl) scIsBag.nd (pi_list (pe_callB cr_sortedS (by rfl) ms (by decide +kernel) (pa_cons (pe_callTy (call_list_dK rfl) (by rfl) ml (by decide +kernel) (pa_cons (pv 1) pa_nil)) pa_nil)))
          (blkOk_by (own := [("_law_word", 3)]) (N := ["_law_found", "_law_due", "_law_pair_here", "_law_word"]) (sc := defScope sIsBag) (by decide +kernel)) (fun _ _ _ _ _ => pg_name (i := 3) scIsBag.nd rfl (Or.inl rfl))
          (fun _ _ _ _ _ => pts_one (pt_cmpR op_ne (pe_dget hu (pv 1) (pv 3) (fun _ _ => rfl)) pe_int (nomark _))) (fun _ _ _ _ _ => pe_tup (pa_cons (pv 3) (pa_cons (pe_dget hu (pv 1) (pv 3) (fun _ _ => rfl)) pa_nil)))) pa_nil)) (nomark _))))), ?_⟩
    obtain ⟨ps, ⟨o, rs, e, od, pr⟩, N, hk⟩ := id ha
    refine ⟨.ref a, rfl, .ref a, .ty "tuple", _, _, true, rfl, .ty "tuple", .fTuple e, kit_ty (by decide +kernel), true, rfl, iteF ?_⟩
    refine ⟨.ref a, rfl, a, rfl, ⟨rs.map V.ref, .inl (.inr ⟨o, e⟩)⟩, for_tup (K := K) (a := a) (xs := rs.map V.ref) (fun _ σ' H' => H' = H ∧ ∃ x, σ' = [some (.ref a), some (.ref d), x, none]) ?_ ?_ ?_ ?_⟩
    · exact ⟨rfl, none, rfl⟩
    · rintro n σ' H' _ ⟨rfl, _⟩
      exact .inl (.inr ⟨o, e⟩)
    · rintro n x σ' H' hx ⟨rfl, x0, rfl⟩
      obtain ⟨r, p, hr2, hp, hrp, rfl⟩ : ∃ (r : Addr) (p : Str × Int), rs[n]? = some r ∧ ps[n]? = some p ∧ H' r = some (.tup [.str p.1, .int p.2]) ∧ x = V.ref r := by
        rw [List.getElem?_map] at hx
        cases e : rs[n]? with
        | none =>
          rw [e] at hx
          cases hx
        | some r =>
          rw [e] at hx
          obtain ⟨p, e2, e3⟩ := paired_at pr e
          exact ⟨r, p, rfl, e2, e3, (Option.some.inj hx).symm⟩
      refine ⟨.ref r, rfl, .ref r, .ty "tuple", _, _, true, rfl, .ty "tuple", .base (.tup hrp), kit_ty (by decide +kernel), true, rfl, iteF ?_⟩
      refine ⟨.ref r, rfl, r, _, rfl, .inr (.inl (.inl hrp)), rfl, _, rfl, iteNS rfl ?_⟩
      refine ⟨.ref r, rfl, r, _, 0, .str p.1, rfl, rfl, .inl (.inl hrp), atI_nat (j := 0) rfl, .str p.1, .ty "str", _, _, true, rfl, .ty "str", .base (.str p.1), kit_ty (by decide +kernel), true, rfl, iteF ?_⟩
      exact ⟨.ref r, rfl, r, _, 1, .int p.2, rfl, rfl, .inl (.inl hrp), atI_nat (j := 1) rfl, p.2, rfl, true, rfl, iteF ⟨rfl, _, rfl⟩⟩
    · rintro σ' H' ⟨rfl, x0, rfl⟩
      refine ⟨.ref a, rfl, ?_⟩
      refine bag_reading (by decide) (by show 3 < 4; decide) rfl hd D hw fun l H2 nl ev hB => ?_
      obtain ⟨qs, hA, M, _⟩ := hB
      rw [N.uniq lt_irr lt_tr M] at pr
      have hA0 : BagAt H' a qs := ⟨o, rs, e, od, pr⟩
      exact ⟨a, l, qs, rfl, rfl, ev.bagAt hA0, hA, q H2 ev⟩
/-! ### _law_numbers -/
def spNums : Sp := fun vs H Q _ => ∃ (a b : Addr) (ws : List Str) (f : Str → Int) (sg : Int), vs = [.ref a, .ref b, .int sg] ∧ Bag ws H a f ∧ H b = some (.tup []) ∧ ws.length < 64 ∧
  ∀ (d : Addr) (kvs : List (Key × V)), H d = none → DNum ws kvs f → Q (.ref d) (upd H d (.dK kvs))
theorem scNums : FnScope ["_law_one", "_law_other", "_law_sign", "_law_found", "_law_word", "_law_many"] ["_law_one", "_law_other", "_law_sign"] (defScope sNums) := ⟨rfl, rfl, rfl, by decide +kernel, rfl, by decide +kernel, by decide +kernel⟩
theorem ok_nums {f : Addr} {fd : FuncData} (F : Fun K "_law_numbers" "_law_numbers" sNums f fd) : FnOk P w K mg base CX0 1 f fd ["_law_one", "_law_other", "_law_sign"] spNums := by
  refine F.ok scNums (fun vs H Q E h => ?_) (fun cdv A outer s H vs Q E hr h => ?_)
  · obtain ⟨a, b, ws, f, sg, rfl, _⟩ := h
    rfl
  · obtain ⟨a, b, ws, f, sg, rfl, ha, hb, hw, q⟩ := h
    have hu := hu_of hr
    refine ⟨_, pss_cons (ps_set (i := 3) scNums.nd rfl (.inl rfl) pe_dnewK)
      (pss_cons (ps_for PassesOwn.never rfl (pi_tup (pv 0)) (pg_tup rfl (pgs_cons (pg_name (i := 4) scNums.nd rfl (.inl rfl)) (pgs_cons (pg_name (i := 5) scNums.nd rfl (.inl rfl)) pgs_nil)))
        (pss_one (ps_dput hu (pv 3) (pv 4) (pv 5) rfl)))
      (pss_cons (ps_for PassesOwn.never rfl (pi_tup (pv 1)) (pg_tup rfl (pgs_cons (pg_name (i := 4) scNums.nd rfl (.inl rfl)) (pgs_cons (pg_name (i := 5) scNums.nd rfl (.inl rfl)) pgs_nil)))
        pss_never)
      (pss_one (ps_ret (pv 3))))), ?_⟩
    obtain ⟨ps, ⟨o, rs, e, od, pr⟩, N, hk⟩ := id ha
    intro d nd
    have kb : ∀ kvs, (upd H d (.dK kvs)) b = some (.tup []) := fun kvs => by rw [upd_ne (ne_of_none hb nd)]; exact hb
    have ka : ∀ kvs, (upd H d (.dK kvs)) a = some (.frz o (.tup (rs.map V.ref))) := fun kvs => by rw [upd_ne (ne_of_none e nd)]; exact e
    refine ⟨.ref a, rfl, a, rfl, ⟨rs.map V.ref, .inl (.inr ⟨o, ka _⟩)⟩, for_tup (K := K) (a := a) (xs := rs.map V.ref) (fun n σ' H' => ∃ x y, σ' = [some (.ref a), some (.ref b), some (.int sg), some (.ref d), x, y] ∧
      H' = upd H d (.dK (mergeK [] ((ps.take n).map fun p => ((Sum.inr p.1 : Key), V.int p.2))))) ?_ ?_ ?_ ?_⟩
    · exact ⟨none, none, rfl, rfl⟩
    · rintro n σ' H' _ ⟨_, _, _, rfl⟩
      exact .inl (.inr ⟨o, ka _⟩)
    · rintro n x σ' H' hx ⟨x0, y0, rfl, rfl⟩
      obtain ⟨r, p, hr2, hp, hrp, rfl⟩ : ∃ (r : Addr) (p : Str × Int), rs[n]? = some r ∧ ps[n]? = some p ∧ H r = some (.tup [.str p.1, .int p.2]) ∧ x = V.ref r := by
        rw [List.getElem?_map] at hx
        cases e : rs[n]? with
        | none =>
          rw [e] at hx
          cases hx
        | some r =>
          rw [e] at hx
          obtain ⟨p, e2, e3⟩ := paired_at pr e
          exact ⟨r, p, rfl, e2, e3, (Option.some.inj hx).symm⟩
      have hlen : ps.length ≤ 64 := by
        have z := nodup_le (l := ps.map (·.1)) (m := ws) (N.nd lt_irr) fun x hx => by
          obtain ⟨q, hq, rfl⟩ := List.mem_map.mp hx
          exact hk q hq
        rw [List.length_map] at z
        omega
      refine ⟨r, _, rfl, .inl (.inl (by rw [upd_ne (ne_of_none hrp nd)]; exact hrp)), rfl, .str p.1, _, rfl, .int p.2, _, rfl, rfl, ?_⟩
      refine ⟨.int p.2, rfl, .ref d, rfl, .str p.1, rfl, d, _, rfl, DPut.k (k := Sum.inr p.1) upd_same ?_, some (.str p.1), some (.int p.2), rfl, ?_⟩
      · have z := length_mergeK ((ps.take n).map fun p => ((Sum.inr p.1 : Key), V.int p.2)) []
        rw [List.length_map, List.length_take, List.length_nil] at z
        exact small1000 (by omega)
      · rw [upd_upd, List.take_add_one, hp, List.map_append]
        unfold mergeK
        rw [List.foldl_append]
        rfl
    · rintro σ' H' ⟨x0, y0, rfl, rfl⟩
      have el : ps.take (rs.map V.ref).length = ps := List.take_of_length_le (by
        rw [List.length_map]
        exact Nat.le_of_eq (Paired.length pr).symm)
      rw [el]
      refine ⟨.ref b, rfl, b, rfl, ⟨[], .inl (.inl (kb _))⟩, for_tup (K := K) (a := b) (xs := []) (fun n σ' H' => σ' = [some (.ref a), some (.ref b), some (.int sg), some (.ref d), x0, y0] ∧ H' = upd H d (.dK (mergeK [] (ps.map fun p => ((Sum.inr p.1 : Key), V.int p.2))))) ⟨rfl, rfl⟩ ?_ ?_ ?_⟩
      · rintro n σ' H' _ ⟨_, rfl⟩
        exact .inl (.inl (kb _))
      · intro n x σ' H' hx
        simp at hx
      · rintro σ' H' ⟨rfl, rfl⟩
        exact ⟨.ref d, rfl, q d _ nd (DNum.ofNorm N hk)⟩
end
end K27

/-! The law's data: _law_pool, _law_bag, _law_pair. -/
namespace K27
open PySem PySem.Spec PyProof.Rows L2
theorem len_app (x y : Str) : (x ++ y).length = x.length + y.length := by
  show (x.cps ++ y.cps).size = x.cps.size + y.cps.size
  exact Array.size_append
theorem join_len (y : Str) : ∀ parts : List Str, (Str.join y parts).length ≤ (parts.map (·.length)).sum + parts.length * y.length
  | [] => Nat.zero_le _
  | [x] => by
    show x.length ≤ [x.length].sum + 1 * y.length
    rw [List.sum_cons, List.sum_nil]
    omega
  | x :: z :: r => by
    have ih := join_len y (z :: r)
    show (x ++ y ++ Str.join y (z :: r)).length ≤ (x.length :: (z :: r).map (·.length)).sum + ((z :: r).length + 1) * y.length
    rw [len_app, len_app, List.sum_cons, Nat.add_mul]
    omega
theorem sum_ones : ∀ {cs : List Str}, (∀ c ∈ cs, c.length = 1) → (cs.map (·.length)).sum = cs.length
  | [], _ => rfl
  | c :: r, h => by
    rw [List.map_cons, List.sum_cons, sum_ones fun x hx => h x (List.mem_cons_of_mem _ hx), h c List.mem_cons_self, List.length_cons]
    omega
def small : Str := "abcdefghijklmnopqrstuvwxyz"
theorem small_len : small.cps.toList.length = 26 := by decide +kernel
theorem small_size : small.length ≤ sizeLine := by decide +kernel
theorem small_at {r : Int} (h0 : 0 ≤ r) (h1 : r < 26) : ∃ c, atI small.cps.toList r = some c := by
  obtain ⟨n, rfl⟩ := Int.eq_ofNat_of_zero_le h0
  have hn : n < small.cps.toList.length := by
    rw [small_len]
    omega
  exact ⟨_, atI_nat (List.getElem?_eq_getElem hn)⟩
theorem four_at {r : Int} (h0 : 0 ≤ r) (h1 : r < 4) : ∃ v : Int, atI [V.int 1, V.int 3, V.int 5, V.int 7] r = some (.int v) ∧ 0 ≤ v ∧ v ≤ 7 := by
  obtain h | h | h | h : r = 0 ∨ r = 1 ∨ r = 2 ∨ r = 3 := by omega
  all_goals subst h
  · exact ⟨1, atI_nat (j := 0) rfl, by decide, by decide⟩
  · exact ⟨3, atI_nat (j := 1) rfl, by decide, by decide⟩
  · exact ⟨5, atI_nat (j := 2) rfl, by decide, by decide⟩
  · exact ⟨7, atI_nat (j := 3) rfl, by decide, by decide⟩
theorem two_at {a b r : Int} (h0 : 0 ≤ r) (h1 : r < 2) : ∃ v : Int, atI [V.int a, V.int b] r = some (.int v) ∧ (v = a ∨ v = b) := by
  obtain h | h : r = 0 ∨ r = 1 := by omega
  all_goals subst h
  · exact ⟨a, atI_nat (j := 0) rfl, Or.inl rfl⟩
  · exact ⟨b, atI_nat (j := 1) rfl, Or.inr rfl⟩
theorem strs_at {ws : List Str} {r : Int} (h0 : 0 ≤ r) (h1 : r < (ws.length : Int)) : ∃ w ∈ ws, atI (ws.map V.str) r = some (.str w) := by
  obtain ⟨n, rfl⟩ := Int.eq_ofNat_of_zero_le h0
  have hn : n < ws.length := by omega
  exact ⟨ws[n], List.getElem_mem hn, atI_nat (by rw [List.getElem?_map, List.getElem?_eq_getElem hn]; rfl)⟩
section
variable {P : Program} {w : World} {K : PySem.W.Frag} {mg : Str → Option Value} {base : Heap}
/-! ### _law_pool -/
def spPool : Sp := fun vs H Q _ => ∃ b : Addr, vs = [.ref b, .int 10] ∧ Box H b ∧ ∀ (p : Addr) (H' : Hp) (ws : List Str), H p = none → Evo H H' → ws.length = 10 → H' p = some (.lst (ws.map V.str)) → Q (.ref p) H'
theorem scPool : FnScope ["_law_box_here", "_law_many", "_law_small", "_law_common", "_law_k", "_law_at", "_law_first", "_law_step", "_law_longer", "_law_found", "_law_own", "_law_word"] ["_law_box_here", "_law_many"] (defScope sPool) := ⟨rfl, rfl, rfl, by decide +kernel, rfl, by decide +kernel, by decide +kernel⟩
theorem ok_pool {f fT : Addr} {fd fdT : FuncData} (F : Fun K "_law_pool" "_law_pool" sPool f fd) (FT : Fun K "_law_take" "_law_take" sTake fT fdT) (bT : Binds K fdT ["_law_box_here", "_law_many"] []) (gT : mg "_law_take" = some (.ref fT))
    (GT : FnOk P w K mg base CX0 1 fT fdT ["_law_box_here", "_law_many"] spTake) (mr : mg "range" = none) (ml : mg "len" = none) : FnOk P w K mg base CX0 2 f fd ["_law_box_here", "_law_many"] spPool := by
  refine F.ok scPool (fun vs H Q E h => ?_) (fun cdv A outer s H vs Q E hr h => ?_)
  · obtain ⟨b, rfl, _⟩ := h
    rfl
  · obtain ⟨b, rfl, hb, q⟩ := h
    refine ⟨_, pss_cons (ps_set (i := 2) scPool.nd rfl (.inr rfl) pe_str)
      (pss_cons (ps_set (i := 3) scPool.nd rfl (.inl rfl) (pe_join pe_str (pe_lc (own := [("_law_k", 4)]) (g := gName 4) (by rfl) scPool.nd (pi_range1 (by rfl) mr (pa_cons (pe_call GT hr (by rfl) gT FT.kp bT .nil pass0 (pa_cons (pv 0) (pa_cons pe_int pa_nil))) pa_nil))
        (blkOk_by (own := [("_law_k", 4)]) (N := ["_law_box_here", "_law_many", "_law_small", "_law_common", "_law_k", "_law_at", "_law_first", "_law_step", "_law_longer", "_law_found", "_law_own", "_law_word"]) (sc := defScope sPool) (by decide +kernel))
        (fun _ _ _ _ _ => pg_name (i := 4) scPool.nd rfl (Or.inl rfl)) (fun _ _ _ _ _ => pts_nil)
        (fun _ _ _ _ _ => pe_ix ix_str (pv 2) (pe_call GT hr (by rfl) gT FT.kp bT .nil pass0 (pa_cons (pv 0) (pa_cons pe_int pa_nil))) (fun _ _ => rfl)))))
      (pss_cons (ps_set (i := 5) scPool.nd rfl (.inl rfl) (pe_call GT hr (by rfl) gT FT.kp bT .nil pass0 (pa_cons (pv 0) (pa_cons (pe_op op_add (pe_callB call_len_str (by rfl) ml PySem.boot_len (pa_cons (pv 3) pa_nil)) pe_int) pa_nil))))
      (pss_cons (ps_set (i := 6) scPool.nd rfl (.inl rfl) (pe_call GT hr (by rfl) gT FT.kp bT .nil pass0 (pa_cons (pv 0) (pa_cons pe_int pa_nil))))
      (pss_cons (ps_set (i := 7) scPool.nd rfl (.inl rfl) (pe_ix ix_list (pe_lst (pa_cons pe_int (pa_cons pe_int (pa_cons pe_int (pa_cons pe_int pa_nil))))) (pe_call GT hr (by rfl) gT FT.kp bT .nil pass0 (pa_cons (pv 0) (pa_cons pe_int pa_nil))) (fun _ _ => rfl)))
      (pss_cons (ps_set (i := 8) scPool.nd rfl (.inl rfl) (pe_call GT hr (by rfl) gT FT.kp bT .nil pass0 (pa_cons (pv 0) (pa_cons pe_int pa_nil))))
      (pss_cons (ps_set (i := 9) scPool.nd rfl (.inl rfl) (pe_lst pa_nil))
      (pss_cons (ps_for PassesOwn.never rfl (pi_range1 (by rfl) mr (pa_cons (pv 1) pa_nil)) (pg_name (i := 4) scPool.nd rfl (.inl rfl))
        (pss_cons (ps_set (i := 10) scPool.nd rfl (.inl rfl) (pe_ix ix_str (pv 2) (pe_op op_mod (pe_op op_add (pv 6) (pe_op op_mul (pv 7) (pv 4))) pe_int) (fun _ _ => rfl)))
        (pss_cons (ps_set (i := 11) scPool.nd rfl (.inl rfl) (pe_op op_add_str (pe_op op_add_str (pe_slice sl_str (pv 3) po_none (po_some (pv 5))) (pv 10)) (pe_slice sl_str (pv 3) (po_some (pv 5)) po_none)))
        (pss_one (ps_expr (pe_bm PySem.F.plainAttrs_list PySem.F.slot_list_append PySem.F.type_list_append mt_append (pv 9) (pa_cons (pe_op op_add_str (pv 11) (pe_op op_mul_str pe_str (pe_op op_fdiv (pe_op op_mod (pe_op op_add (pv 4) (pv 8)) pe_int) pe_int))) pa_nil)))))))
      (pss_one (ps_ret (pv 9)))))))))), ?_⟩
    -- _law_common
    refine ⟨⟨_, rfl⟩, .ref b, rfl, b, 7, rfl, hb, by decide, by decide, fun r7 H1 r0 r1 ev1 _ => ?_⟩
    refine ⟨r7, rfl, by omega, by omega, fun L nL => lc_range (lo := 0) (n := r7.toNat) (fun i H' => Evo H1 H' ∧ ∃ cs : List Str, H' L = some (.lst (cs.map V.str)) ∧ cs.length = i ∧ ∀ c ∈ cs, c.length = 1) ?_ ?_ ?_⟩
    · exact ⟨Evo.new nL _, [], upd_same, rfl, (fun _ h => nomatch h)⟩
    · rintro i H' hi ⟨ev, cs, eL, lcs, hcs⟩
      refine ⟨rfl, .str small, rfl, .ref b, rfl, b, 26, rfl, ev.box (ev1.box hb), by decide, by decide, fun r H2 h0 h1 ev2 _ => ?_⟩
      obtain ⟨c, ec⟩ := small_at h0 h1
      refine ⟨small, r, c, rfl, rfl, small_size, ec, cs.map V.str, ev2.keep eL nb_strs, ?_, (ev.trans ev2).upd nL _, cs ++ [⟨#[c]⟩], ?_, ?_, ?_⟩
      · rw [List.length_map]
        exact small1000 (by omega)
      · rw [upd_same, List.map_append]
        rfl
      · rw [List.length_append, lcs]
        rfl
      · intro x hx
        rcases List.mem_append.mp hx with h | h
        · exact hcs x h
        · rw [List.mem_singleton.mp h]
          rfl
    · rintro H2 ⟨ev2, cs, eL, lcs, hcs⟩
      have evA : Evo H H2 := ev1.trans ev2
      have hs1 := sum_ones hcs
      have hcl : (Txt.join "" cs).length ≤ 6 := by
        rw [TL.join_eq]
        have z := join_len "" cs
        have e0 : (("" : Str)).length = 0 := by decide +kernel
        rw [hs1, e0] at z
        omega
      refine ⟨"", L, cs, rfl, rfl, .inl (SqL.of eL), ?_, ?_⟩
      · have e0 : (("" : Str)).length = 0 := by decide +kernel
        rw [hs1, e0]
        omega
      revert hcl
      generalize Txt.join "" cs = common
      intro hcl
      have hline : common.length ≤ sizeLine := Nat.le_trans hcl (by decide)
      -- _law_at, _law_first
      refine ⟨.ref b, rfl, .str common, rfl, common, rfl, hline, _, 1, rfl, rfl, b, _, rfl, evA.box hb, by omega, by omega, fun at' H3 a0 a1 ev3 _ => ?_⟩
      have evB : Evo H H3 := evA.trans ev3
      refine ⟨.ref b, rfl, b, 26, rfl, evB.box hb, by decide, by decide, fun first H4 f0 f1 ev4 _ => ?_⟩
      have evC : Evo H H4 := evB.trans ev4
      -- _law_step
      refine ⟨by show 4 ≤ sizeLine; decide, fun p np => ?_⟩
      have evD : Evo H (upd H4 p (.lst [.int 1, .int 3, .int 5, .int 7])) := evC.upd (evC.free np) _
      refine ⟨.ref b, rfl, b, 4, rfl, evD.box hb, by decide, by decide, fun rs H5 s0 s1 ev5 _ => ?_⟩
      have evE : Evo H H5 := evD.trans ev5
      obtain ⟨step, es, st0, st7⟩ := four_at s0 s1
      refine ⟨p, _, rs, .int step, rfl, rfl, SqL.of (ev5.keep upd_same fun ⟨_, _, e⟩ => by cases e), es, ?_⟩
      -- _law_longer
      refine ⟨.ref b, rfl, b, 3, rfl, evE.box hb, by decide, by decide, fun longer H6 g0 g1 ev6 _ => ?_⟩
      have evF : Evo H H6 := evE.trans ev6
      -- _law_found
      refine ⟨Nat.zero_le _, fun fa nf => ?_⟩
      refine ⟨.int 10, rfl, 10, rfl, by decide, by decide, for_range (lo := 0) (n := 10) (fun i σ' H' => ∃ x4 x10 x11, ∃ ws : List Str, σ' = [some (.ref b), some (.int 10), some (.str small), some (.str common), x4, some (.int at'), some (.int first), some (.int step), some (.int longer), some (.ref fa), x10, x11] ∧
        H' = upd H6 fa (.lst (ws.map V.str)) ∧ ws.length = i) ?_ ?_ ?_⟩
      · exact ⟨none, none, none, [], rfl, rfl, rfl⟩
      · rintro i σ' H' hi ⟨x4, x10, x11, ws, rfl, rfl, lw⟩
        obtain ⟨c, ec⟩ := small_at (r := (first + step * (0 + (i : Int))) % 26) (Int.emod_nonneg _ (by decide)) (Int.emod_lt_of_pos _ (by decide))
        refine ⟨.str small, rfl, .int first, rfl, .int step, rfl, .int _, rfl, step, _, rfl, rfl, .inl ⟨by omega, by omega⟩, first, _, rfl, rfl, _, 26, rfl, rfl, by show (0 : Int) < 26; decide, small, _, c, rfl, rfl, small_size, ec, ?_⟩
        have l1 : ((⟨#[c]⟩ : Str)).length = 1 := rfl
        have c1 := cutS_length common none (some at')
        have c2 := cutS_length common (some at') none
        refine ⟨.str common, rfl, .int at', rfl, at', rfl, common, rfl, hline, .str ⟨#[c]⟩, rfl, _, _, rfl, rfl, ?_, .str common, rfl, .int at', rfl, at', rfl, common, rfl, hline, _, _, rfl, rfl, ?_, ?_⟩
        · exact Nat.le_of_lt (small1000 (by omega))
        · rw [len_app]
          exact Nat.le_of_lt (small1000 (by omega))
        refine ⟨.ref fa, rfl, .inl ⟨rfl, _, SqL.of upd_same⟩, .str _, rfl, .int _, rfl, .int longer, rfl, _, longer, rfl, rfl, _, 3, rfl, rfl, by show (0 : Int) < 3; decide, _, 2, rfl, rfl, ⟨by decide, by decide⟩, "x", _, rfl, rfl, by decide +kernel, ?_, ?_, fun m hm => ?_⟩
        · omega
        · omega
        have lx : (("x" : Str)).length = 1 := by decide +kernel
        rw [lx] at hm
        refine ⟨_, m, rfl, rfl, ?_, fa, _, _, rfl, rfl, upd_same, ?_, _, _, _, ws ++ [cutS common none (some at') ++ ⟨#[c]⟩ ++ cutS common (some at') none ++ m], rfl, ?_, ?_⟩
        · rw [len_app, len_app]
          exact Nat.le_of_lt (small1000 (by omega))
        · rw [List.length_map]
          exact small1000 (by omega)
        · rw [upd_upd, List.map_append]
          rfl
        · rw [List.length_append, lw]
          rfl
      · rintro σ' H' ⟨x4, x10, x11, ws, rfl, rfl, lw⟩
        exact ⟨.ref fa, rfl, q fa _ ws (evF.free nf) (evF.upd (evF.free nf) _) lw upd_same⟩
end
end K27

/-! The law's data: _law_bag, _law_pair. -/
namespace K27
open PySem PySem.Spec PyProof.Rows L2
section
variable {P : Program} {w : World} {K : PySem.W.Frag} {mg : Str → Option Value} {base : Heap}
/-! ### _law_bag -/
def spLBag : Sp := fun vs H Q _ => ∃ (b pl : Addr) (most : Int) (ws : List Str), vs = [.ref b, .ref pl, .int most] ∧ Box H b ∧ H pl = some (.lst (ws.map V.str)) ∧ ws.length = 10 ∧ 0 ≤ most ∧ most ≤ 100 ∧
  ∀ (l : Addr) (H' : Hp) (f : Str → Int), H l = none → Evo H H' → Bag ws H' l f → Q (.ref l) H'
theorem scLBag : FnScope ["_law_box_here", "_law_pool_here", "_law_most", "_law_wide", "_law_numbers_here", "_law_k", "_law_word"] ["_law_box_here", "_law_pool_here", "_law_most"] (defScope sLBag) := ⟨rfl, rfl, rfl, by decide +kernel, rfl, by decide +kernel, by decide +kernel⟩
theorem ok_lbag {f fT : Addr} {fd fdT : FuncData} (F : Fun K "_law_bag" "_law_bag" sLBag f fd) (FT : Fun K "_law_take" "_law_take" sTake fT fdT) (bT : Binds K fdT ["_law_box_here", "_law_many"] []) (gT : mg "_law_take" = some (.ref fT))
    (GT : FnOk P w K mg base CX0 1 fT fdT ["_law_box_here", "_law_many"] spTake) (mr : mg "range" = none) (mn : mg "len" = none) (mt : mg "tuple" = none) (ms : mg "sorted" = none) (ml : mg "list" = none) :
    FnOk P w K mg base CX0 2 f fd ["_law_box_here", "_law_pool_here", "_law_most"] spLBag := by
  refine F.ok scLBag (fun vs H Q E h => ?_) (fun cdv A outer s H vs Q E hr h => ?_)
  · obtain ⟨b, pl, most, ws, rfl, _⟩ := h
    rfl
  · obtain ⟨b, pl, most, ws, rfl, hb, hpl, lw, m0, m1, q⟩ := h
    have hu := hu_of hr
    refine ⟨_, pss_cons (ps_set (i := 3) scLBag.nd rfl (.inl rfl) (pe_ix ix_list (pe_lst (pa_cons pe_int (pa_cons pe_int pa_nil))) (pe_call GT hr (by rfl) gT FT.kp bT .nil pass0 (pa_cons (pv 0) (pa_cons pe_int pa_nil))) (fun _ _ => rfl)))
      (pss_cons (ps_set (i := 4) scLBag.nd rfl (.inr rfl) pe_dnewK)
      (pss_cons (ps_for PassesOwn.never rfl (pi_range1 (by rfl) mr (pa_cons (pe_call GT hr (by rfl) gT FT.kp bT .nil pass0 (pa_cons (pv 0) (pa_cons (pe_op op_add (pv 2) pe_int) pa_nil))) pa_nil)) (pg_name (i := 5) scLBag.nd rfl (.inl rfl))
        (pss_one (ps_dput hu (pv 4) (pe_ix ix_list (pv 1) (pe_call GT hr (by rfl) gT FT.kp bT .nil pass0 (pa_cons (pv 0) (pa_cons (pe_callB call_len_seq (by rfl) mn PySem.boot_len (pa_cons (pv 1) pa_nil)) pa_nil))) (fun _ _ => rfl))
          (pe_op op_sub (pe_call GT hr (by rfl) gT FT.kp bT .nil pass0 (pa_cons (pv 0) (pa_cons (pe_op op_add (pe_op op_mul pe_int (pv 3)) pe_int) pa_nil))) (pv 3)) rfl)))
      (pss_one (ps_ret (pe_callTy call_tuple_frz (by rfl) mt (by decide +kernel) (pa_cons
        (pe_lc (own := [("_law_word", 6)]) (g := gName 6) (by rfl) scLBag.nd (pi_list (pe_callB cr_sortedS (by rfl) ms (by decide +kernel) (pa_cons (pe_callTy (call_list_dK rfl) (by rfl) ml (by decide +kernel) (pa_cons (pv 4) pa_nil)) pa_nil)))
          (blkOk_by (own := [("_law_word", 6)]) (N := ["_law_box_here", "_law_pool_here", "_law_most", "_law_wide", "_law_numbers_here", "_law_k", "_law_word"]) (sc := defScope sLBag) (by decide +kernel)) (fun _ _ _ _ _ => pg_name (i := 6) scLBag.nd rfl (Or.inl rfl))
          (fun _ _ _ _ _ => pts_one (pt_cmpR op_ne (pe_dget hu (pv 4) (pv 6) (fun _ _ => rfl)) pe_int (nomark _))) (fun _ _ _ _ _ => pe_tup (pa_cons (pv 6) (pa_cons (pe_dget hu (pv 4) (pv 6) (fun _ _ => rfl)) pa_nil)))) pa_nil)))))), ?_⟩
    -- _law_wide
    refine ⟨by show 2 ≤ sizeLine; decide, fun p np => ?_⟩
    have pb : p ≠ b := by
      obtain ⟨c, s0, e⟩ := hb
      exact (ne_of_none e np).symm
    have ev1 : Evo H (upd H p (.lst [.int 99, .int 2])) := Evo.new np _
    refine ⟨.ref b, rfl, b, 2, rfl, ev1.box hb, by decide, by decide, fun r H1 r0 r1 ev2 kp => ?_⟩
    obtain ⟨wide, ew, hwide⟩ := two_at (a := 99) (b := 2) r0 r1
    have w0 : 0 ≤ wide ∧ wide ≤ 99 := by
      rcases hwide with e | e
      · omega
      · omega
    refine ⟨p, _, r, .int wide, rfl, rfl, SqL.of (kp p _ upd_same pb), ew, ?_⟩
    have evA : Evo H H1 := ev1.trans ev2
    -- _law_numbers_here
    intro d nd
    have evB : Evo H (upd H1 d (.dK [])) := evA.upd (evA.free nd) _
    refine ⟨.ref b, rfl, .int most, rfl, most, 1, rfl, rfl, b, _, rfl, evB.box hb, by omega, by omega, fun n H2 n0 n1 ev3 _ => ?_⟩
    have evC : Evo H H2 := evB.trans ev3
    refine ⟨n, rfl, by omega, by omega, for_range (lo := 0) (n := n.toNat) (fun i σ' H' => Evo H H' ∧ ∃ (x5 : Option V) (kvs : List (Key × V)) (f : Str → Int), σ' = [some (.ref b), some (.ref pl), some (.int most), some (.int wide), some (.ref d), x5, none] ∧
      H' d = some (.dK kvs) ∧ DNum ws kvs f) ?_ ?_ ?_⟩
    · exact ⟨evC, none, [], _, rfl, ev3.keep upd_same nb_dK, DNum.nil⟩
    · rintro i σ' H' hi ⟨ev, x5, kvs, f, rfl, hd, DN⟩
      refine ⟨.ref b, rfl, .int wide, rfl, 2, wide, rfl, rfl, .inl ⟨by decide, by decide⟩, _, 1, rfl, rfl, b, _, rfl, ev.box hb, by omega, by omega, fun v H3 v0 v1 ev4 _ => ?_⟩
      have evD : Evo H H3 := ev.trans ev4
      have hd3 : H3 d = some (.dK kvs) := ev4.keep hd nb_dK
      have hp3 : H3 pl = some (.lst (ws.map V.str)) := evD.keep hpl nb_strs
      refine ⟨.int wide, rfl, v, wide, rfl, rfl, .ref d, rfl, .ref pl, rfl, .ref b, rfl, .ref pl, rfl, pl, _, rfl, .inl (SqL.of hp3), b, _, rfl, evD.box hb, ?_, ?_, fun j H4 j0 j1 ev5 _ => ?_⟩
      · rw [List.length_map, lw]
        decide
      · rw [List.length_map, lw]
        decide
      rw [List.length_map] at j1
      have hd4 : H4 d = some (.dK kvs) := ev5.keep hd3 nb_dK
      have hp4 : H4 pl = some (.lst (ws.map V.str)) := ev5.keep hp3 nb_strs
      obtain ⟨x, hx, ex⟩ := strs_at j0 j1
      refine ⟨pl, _, j, .str x, rfl, rfl, SqL.of hp4, ex, d, _, rfl, DPut.k (k := Sum.inr x) hd4 ?_, ?_⟩
      · have := DN.len
        exact small1000 (by omega)
      · exact ⟨(evD.trans ev5).upd (evA.free nd) _, _, _, _, rfl, upd_same, DN.put hx _⟩
    · rintro σ' H' ⟨ev, x5, kvs, f, rfl, hd, DN⟩
      exact bag_reading (ws := ws) (by decide) (by show 6 < 7; decide) rfl hd DN (by omega) fun l H5 nl ev6 hB => q l H5 f (ev.free nl) (ev.trans ev6) hB
/-! ### _law_pair -/
structure Pr where
  adr : Addr
  was : Int
  yours : Int
  hadA : Addr
  hasA : Addr
  had : Str → Int
  has : Str → Int
def PrAt (ws : List Str) (H : Hp) (p : Pr) : Prop := H p.adr = some (.tup [.int p.was, .int p.yours, .ref p.hadA, .ref p.hasA]) ∧ Bag ws H p.hadA p.had ∧ Bag ws H p.hasA p.has
theorem Evo.prAt {H H' : Hp} (x : Evo H H') {ws : List Str} {p : Pr} (h : PrAt ws H p) : PrAt ws H' p := ⟨x.keep h.1 nb_tup, x.bag h.2.1, x.bag h.2.2⟩
def spPair : Sp := fun vs H Q _ => ∃ (b pl : Addr) (ws : List Str), vs = [.ref b, .ref pl] ∧ Box H b ∧ H pl = some (.lst (ws.map V.str)) ∧ ws.length = 10 ∧ ∀ (p : Pr) (H' : Hp), H p.adr = none → Evo H H' → PrAt ws H' p → Q (.ref p.adr) H'
theorem scPair : FnScope ["_law_box_here", "_law_pool_here", "_law_was", "_law_yours"] ["_law_box_here", "_law_pool_here"] (defScope sPair) := ⟨rfl, rfl, rfl, by decide +kernel, rfl, by decide +kernel, by decide +kernel⟩
theorem ok_pair {f fT fB : Addr} {fd fdT fdB : FuncData} (F : Fun K "_law_pair" "_law_pair" sPair f fd) (FT : Fun K "_law_take" "_law_take" sTake fT fdT) (bT : Binds K fdT ["_law_box_here", "_law_many"] []) (gT : mg "_law_take" = some (.ref fT))
    (GT : FnOk P w K mg base CX0 1 fT fdT ["_law_box_here", "_law_many"] spTake) (FB : Fun K "_law_bag" "_law_bag" sLBag fB fdB) (bB : Binds K fdB ["_law_box_here", "_law_pool_here", "_law_most"] []) (gB : mg "_law_bag" = some (.ref fB))
    (GB : FnOk P w K mg base CX0 2 fB fdB ["_law_box_here", "_law_pool_here", "_law_most"] spLBag) : FnOk P w K mg base CX0 3 f fd ["_law_box_here", "_law_pool_here"] spPair := by
  refine F.ok scPair (fun vs H Q E h => ?_) (fun cdv A outer s H vs Q E hr h => ?_)
  · obtain ⟨b, pl, ws, rfl, _⟩ := h
    rfl
  · obtain ⟨b, pl, ws, rfl, hb, hpl, lw, q⟩ := h
    have hr1 : Room 1 _ := hr.mono (by decide)
    refine ⟨_, pss_cons (ps_set (i := 2) scPair.nd rfl (.inl rfl) (pe_call GT hr1 (by rfl) gT FT.kp bT .nil pass0 (pa_cons (pv 0) (pa_cons pe_int pa_nil))))
      (pss_cons (ps_set (i := 3) scPair.nd rfl (.inl rfl) (pe_ix ix_list (pe_lst (pa_cons (pe_call GT hr1 (by rfl) gT FT.kp bT .nil pass0 (pa_cons (pv 0) (pa_cons pe_int pa_nil)))
        (pa_cons (pe_op op_mod (pe_op op_add (pv 2) (pe_call GT hr1 (by rfl) gT FT.kp bT .nil pass0 (pa_cons (pv 0) (pa_cons pe_int pa_nil)))) pe_int) pa_nil)))
        (pe_call GT hr1 (by rfl) gT FT.kp bT .nil pass0 (pa_cons (pv 0) (pa_cons pe_int pa_nil))) (fun _ _ => rfl)))
      (pss_one (ps_ret (pe_tup (pa_cons (pv 2) (pa_cons (pv 3) (pa_cons (pe_call GB hr (by rfl) gB FB.kp bB .nil pass0 (pa_cons (pv 0) (pa_cons (pv 1) (pa_cons pe_int pa_nil))))
        (pa_cons (pe_call GB hr (by rfl) gB FB.kp bB .nil pass0 (pa_cons (pv 0) (pa_cons (pv 1) (pa_cons pe_int pa_nil)))) pa_nil)))))))), ?_⟩
    refine ⟨.ref b, rfl, b, _, rfl, hb, by decide, by decide, fun was H1 _ _ ev1 _ => ?_⟩
    refine ⟨.ref b, rfl, b, _, rfl, ev1.box hb, by decide, by decide, fun y1 H2 _ _ ev2 _ => ?_⟩
    have evA : Evo H H2 := ev1.trans ev2
    refine ⟨.int was, rfl, .ref b, rfl, b, _, rfl, evA.box hb, by decide, by decide, fun y2 H3 _ _ ev3 _ => ?_⟩
    have evB : Evo H H3 := evA.trans ev3
    refine ⟨was, y2, rfl, rfl, _, 4294967296, rfl, rfl, by show (0 : Int) < 4294967296; decide, by show 2 ≤ sizeLine; decide, fun p np => ?_⟩
    have evC : Evo H (upd H3 p (.lst [.int y1, .int ((was + y2) % 4294967296)])) := evB.upd (evB.free np) _
    have pb : p ≠ b := by
      obtain ⟨c, s0, e⟩ := evB.box hb
      exact (ne_of_none e np).symm
    refine ⟨.ref b, rfl, b, _, rfl, evC.box hb, by decide, by decide, fun r H4 r0 r1 ev4 kp => ?_⟩
    have evD : Evo H H4 := evC.trans ev4
    obtain ⟨yours, ey, _⟩ := two_at (a := y1) (b := (was + y2) % 4294967296) r0 r1
    refine ⟨p, _, r, .int yours, rfl, rfl, SqL.of (kp p _ upd_same pb), ey, ?_⟩
    refine ⟨.int was, rfl, .int yours, rfl, .ref b, rfl, .ref pl, rfl, b, pl, 4, ws, rfl, evD.box hb, evD.keep hpl nb_strs, lw, by decide, by decide, fun l1 H5 g1 n1 ev5 B1 => ?_⟩
    have evE : Evo H H5 := evD.trans ev5
    refine ⟨.ref b, rfl, .ref pl, rfl, b, pl, 4, ws, rfl, evE.box hb, evE.keep hpl nb_strs, lw, by decide, by decide, fun l2 H6 g2 n2 ev6 B2 => ?_⟩
    have evF : Evo H H6 := evE.trans ev6
    refine ⟨by show 4 ≤ sizeLine; decide, fun t nt => ?_⟩
    have evt : Evo H6 (upd H6 t (.tup [.int was, .int yours, .ref l1, .ref l2])) := Evo.new nt _
    exact q ⟨t, was, yours, l1, l2, g1, g2⟩ _ (evF.free nt) (evF.trans evt) ⟨upd_same, (ev6.trans evt).bag B1, evt.bag B2⟩
end
end K27

/-! The law. -/
namespace K27
open PySem PySem.Spec PyProof.Rows L2
abbrev refs (L : List Pr) : List V := (L.map Pr.adr).map V.ref
theorem refs_app (L M : List Pr) : refs (L ++ M) = refs L ++ refs M := by
  show ((L ++ M).map Pr.adr).map V.ref = (L.map Pr.adr).map V.ref ++ (M.map Pr.adr).map V.ref
  rw [List.map_append, List.map_append]
theorem refs_rev (L : List Pr) : refs L.reverse = (refs L).reverse := by
  show (L.reverse.map Pr.adr).map V.ref = ((L.map Pr.adr).map V.ref).reverse
  rw [List.map_reverse, List.map_reverse]
def msum (M : List Pr) : Int := (M.map fun p => p.yours - p.was).sum
def bsum (M : List Pr) (w : Str) : Int := (M.map fun p => p.has w - p.had w).sum
theorem refs_len (L : List Pr) : (refs L).length = L.length := by
  rw [List.length_map, List.length_map]
theorem refs_get {L : List Pr} {i : Nat} {x : V} (h : (refs L)[i]? = some x) : ∃ p, L[i]? = some p ∧ x = .ref p.adr := by
  rw [List.getElem?_map, List.getElem?_map] at h
  cases e : L[i]? with
  | none =>
    rw [e] at h
    cases h
  | some p =>
    rw [e] at h
    exact ⟨p, rfl, (Option.some.inj h).symm⟩
theorem span (x : Int) : 4 ≤ (if (if x < 18 then x else 18) > 4 then (if x < 18 then x else 18) else 4) ∧ (if (if x < 18 then x else 18) > 4 then (if x < 18 then x else 18) else 4) ≤ 18 := by
  by_cases h : x < 18
  · rw [if_pos h]
    by_cases h2 : x > 4
    · rw [if_pos h2]
      omega
    · rw [if_neg h2]
      omega
  · rw [if_neg h]
    decide
theorem cut_from {L : List Pr} {n : Nat} (h : n ≤ L.length) : cutV (refs L) (some (n : Int)) none = refs (L.drop n) := by
  unfold cutV
  rw [HT.sIx_nat, HT.sIx_none, refs_len, Nat.min_eq_left h]
  show List.take _ (List.drop n ((L.map Pr.adr).map V.ref)) = ((L.drop n).map Pr.adr).map V.ref
  rw [List.map_drop, List.map_drop]
  exact List.take_of_length_le (by rw [List.length_drop, refs_len]; exact Nat.le_refl _)
theorem cut_to {L : List Pr} {n : Nat} (h : n ≤ L.length) : cutV (refs L) none (some (n : Int)) = refs (L.take n) := by
  unfold cutV
  rw [HT.sIx_nat, HT.sIx_none, refs_len, Nat.min_eq_left h]
  show List.take (n - 0) (List.drop 0 ((L.map Pr.adr).map V.ref)) = ((L.take n).map Pr.adr).map V.ref
  rw [List.map_take, List.map_take, List.drop_zero, Nat.sub_zero]
theorem bsum_take {M : List Pr} {i : Nat} {p : Pr} (h : M[i]? = some p) (w : Str) : bsum (M.take (i + 1)) w = bsum (M.take i) w + (p.has w - p.had w) := sum_map_take _ h
theorem msum_take {M : List Pr} {i : Nat} {p : Pr} (h : M[i]? = some p) : msum (M.take (i + 1)) = msum (M.take i) + (p.yours - p.was) := sum_map_take _ h
abbrev NL : List Str := ["_law_script", "_law_box_here", "_law_pool_here", "_law_number", "_law_bag_here", "_law_k", "_law_pairs", "_law_pair_here", "_law_due", "_law_numbers_here", "_law_was", "_law_yours", "_law_had", "_law_has", "_law_word", "_law_many", "_law_at", "_law_order", "_law_mine", "_law_own"]
section
variable {P : Program} {w : World} {K : PySem.W.Frag} {mg : Str → Option Value} {base : Heap}
def spLaw (K : PySem.W.Frag) : Sp := fun vs H Q _ => ∃ (a : Addr) (ns : List Int), vs = [.ref a] ∧ (∀ H' : Hp, Evo H H' → SqL K H' a (ns.map V.int)) ∧ ∀ H' : Hp, Q (.bl true) H'
theorem scLaw : FnScope NL ["_law_script"] (defScope sLaw) := ⟨rfl, rfl, rfl, by decide +kernel, rfl, by decide +kernel, by decide +kernel⟩
/-- what the law's callees promise -/
structure Calls (P : Program) (w : World) (K : PySem.W.Frag) (mg : Str → Option Value) (base : Heap) : Prop where
  box : ∃ f fd, mg "_law_box" = some (.ref f) ∧ PySem.W.keepIn K (.ref f) = true ∧ Binds K fd ["_law_script", "_law_k"] [] ∧ FnOk P w K mg base CX0 1 f fd ["_law_script", "_law_k"] (spBox K)
  take : ∃ f fd, mg "_law_take" = some (.ref f) ∧ PySem.W.keepIn K (.ref f) = true ∧ Binds K fd ["_law_box_here", "_law_many"] [] ∧ FnOk P w K mg base CX0 1 f fd ["_law_box_here", "_law_many"] spTake
  pool : ∃ f fd, mg "_law_pool" = some (.ref f) ∧ PySem.W.keepIn K (.ref f) = true ∧ Binds K fd ["_law_box_here", "_law_many"] [] ∧ FnOk P w K mg base CX0 2 f fd ["_law_box_here", "_law_many"] spPool
  lbag : ∃ f fd, mg "_law_bag" = some (.ref f) ∧ PySem.W.keepIn K (.ref f) = true ∧ Binds K fd ["_law_box_here", "_law_pool_here", "_law_most"] [] ∧ FnOk P w K mg base CX0 2 f fd ["_law_box_here", "_law_pool_here", "_law_most"] spLBag
  pair : ∃ f fd, mg "_law_pair" = some (.ref f) ∧ PySem.W.keepIn K (.ref f) = true ∧ Binds K fd ["_law_box_here", "_law_pool_here"] [] ∧ FnOk P w K mg base CX0 3 f fd ["_law_box_here", "_law_pool_here"] spPair
  nums : ∃ f fd, mg "_law_numbers" = some (.ref f) ∧ PySem.W.keepIn K (.ref f) = true ∧ Binds K fd ["_law_one", "_law_other", "_law_sign"] [] ∧ FnOk P w K mg base CX0 1 f fd ["_law_one", "_law_other", "_law_sign"] spNums
  whole : ∃ f fd, mg "_law_whole" = some (.ref f) ∧ PySem.W.keepIn K (.ref f) = true ∧ Binds K fd ["_law_found"] [] ∧ FnOk P w K mg base CX0 1 f fd ["_law_found"] spWhole
  isbag : ∃ f fd, mg "_law_is_bag" = some (.ref f) ∧ PySem.W.keepIn K (.ref f) = true ∧ Binds K fd ["_law_found", "_law_due"] [] ∧ FnOk P w K mg base CX0 2 f fd ["_law_found", "_law_due"] spIsBag
  join : ∃ f fd, mg "joined" = some (.ref f) ∧ PySem.W.keepIn K (.ref f) = true ∧ Binds K fd ["manner", "was", "mine", "yours", "wrote"] [] ∧ FnOk P w K mg base CX0 4 f fd ["manner", "was", "mine", "yours", "wrote"] spSum ∧
    FnOk P w K mg base CX0 4 f fd ["manner", "was", "mine", "yours", "wrote"] spJBag
theorem ok_law {f : Addr} {fd : FuncData} (F : Fun K "law" "law" sLaw f fd) (C : Calls P w K mg base) (mr : mg "range" = none) (mx : mg "max" = none) (mm : mg "min" = none) (mn : mg "len" = none) (ms : mg "sum" = none) : FnOk P w K mg base CX0 5 f fd ["_law_script"] (spLaw K) := by
  refine F.ok scLaw (fun vs H Q E h => ?_) (fun cdv A outer s H vs Q E hr h => ?_)
  · obtain ⟨a, ns, rfl, _⟩ := h
    rfl
  · obtain ⟨a, ns, rfl, hS, q⟩ := h
    obtain ⟨fX, dX, gX, kX, bX, GX⟩ := C.box
    obtain ⟨fT, dT, gT, kT, bT, GT⟩ := C.take
    obtain ⟨fP, dP, gP, kP, bP, GP⟩ := C.pool
    obtain ⟨fB, dB, gB, kB, bB, GB⟩ := C.lbag
    obtain ⟨fR, dR, gR, kR, bR, GR⟩ := C.pair
    obtain ⟨fN, dN, gN, kN, bN, GN⟩ := C.nums
    obtain ⟨fW, dW, gW, kW, bW, GW⟩ := C.whole
    obtain ⟨fI, dI, gI, kI, bI, GI⟩ := C.isbag
    obtain ⟨fJ, dJ, gJ, kJ, bJ, GS, GJ⟩ := C.join
    have hu := hu_of hr
    have r1 : Room 1 _ := hr.mono (by decide)
    have r2 : Room 2 _ := hr.mono (by decide)
    have r3 : Room 3 _ := hr.mono (by decide)
    refine ⟨_, pss_cons (ps_set (i := 1) scLaw.nd rfl (.inl rfl) (pe_call GX r1 (by rfl) gX kX bX .nil pass0 (pa_cons (pv 0) (pa_cons pe_int pa_nil))))
      (pss_cons (ps_set (i := 2) scLaw.nd rfl (.inr rfl) (pe_call GP r2 (by rfl) gP kP bP .nil pass0 (pa_cons (pv 1) (pa_cons pe_int pa_nil))))
      (pss_cons (ps_set (i := 3) scLaw.nd rfl (.inl rfl) (pe_call GT r1 (by rfl) gT kT bT .nil pass0 (pa_cons (pv 1) (pa_cons pe_int pa_nil))))
      (pss_cons (ps_set (i := 4) scLaw.nd rfl (.inl rfl) (pe_call GB r2 (by rfl) gB kB bB .nil pass0 (pa_cons (pe_call GX r1 (by rfl) gX kX bX .nil pass0 (pa_cons (pv 0) (pa_cons pe_int pa_nil))) (pa_cons (pv 2) (pa_cons pe_int pa_nil)))))
      (pss_cons (ps_setLc (i := 6) (own := [("_law_k", 5)]) (g := gName 5) (by rfl) scLaw.nd rfl rfl (sw_true rfl rfl rfl (by decide +kernel))
        (pi_range2 (by rfl) mr (pa_cons pe_int (pa_cons (pe_callB (call_max2 rfl) (by rfl) mx (by decide +kernel) (pa_cons pe_int (pa_cons (pe_callB (call_min2 rfl) (by rfl) mm (by decide +kernel)
          (pa_cons pe_int (pa_cons (pe_callB call_len_seq (by rfl) mn PySem.boot_len (pa_cons (pv 0) pa_nil)) pa_nil))) pa_nil))) pa_nil)))
        (blkOk_by (own := [("_law_k", 5)]) (N := NL) (sc := defScope sLaw) (by decide +kernel)) (fun _ _ _ _ _ => pg_name (i := 5) scLaw.nd rfl (Or.inl rfl)) (fun _ _ _ _ _ => pts_nil)
        (fun _ _ _ _ _ => pe_call GR r3 (by rfl) gR kR bR .nil pass0 (pa_cons (pe_call GX r1 (by rfl) gX kX bX .nil pass0 (pa_cons (pv 0) (pa_cons (pv 5) pa_nil))) (pa_cons (pv 2) pa_nil))))
      (pss_cons (ps_set (i := 8) scLaw.nd rfl (.inl rfl) (pe_op op_add (pv 3) (pe_callB (cr_sum rfl) (by rfl) ms (by decide +kernel) (pa_cons
        (pe_lc (own := [("_law_pair_here", 7)]) (g := gName 7) (by rfl) scLaw.nd (pi_list (pv 6)) (blkOk_by (own := [("_law_pair_here", 7)]) (N := NL) (sc := defScope sLaw) (by decide +kernel)) (fun _ _ _ _ _ => pg_name (i := 7) scLaw.nd rfl (Or.inl rfl)) (fun _ _ _ _ _ => pts_nil)
          (fun _ _ _ _ _ => pe_op op_sub (pe_ix (r := rIxT K) ix_tup (pv 7) pe_int (fun _ _ => rfl)) (pe_ix (r := rIxT K) ix_tup (pv 7) pe_int (fun _ _ => rfl)))) pa_nil))))
      (pss_cons (ps_set (i := 9) scLaw.nd rfl (.inl rfl) (pe_call GN r1 (by rfl) gN kN bN .nil pass0 (pa_cons (pv 4) (pa_cons (pe_tup pa_nil) (pa_cons pe_int pa_nil)))))
      (pss_cons (ps_for PassesOwn.never rfl (pi_list (pv 6)) (pg_tup rfl (pgs_cons (pg_name (i := 10) scLaw.nd rfl (.inl rfl)) (pgs_cons (pg_name (i := 11) scLaw.nd rfl (.inl rfl)) (pgs_cons (pg_name (i := 12) scLaw.nd rfl (.inl rfl)) (pgs_cons (pg_name (i := 13) scLaw.nd rfl (.inl rfl)) pgs_nil)))))
        (pss_cons (ps_for PassesOwn.never rfl (pi_tup (pv 13)) (pg_tup rfl (pgs_cons (pg_name (i := 14) scLaw.nd rfl (.inl rfl)) (pgs_cons (pg_name (i := 15) scLaw.nd rfl (.inl rfl)) pgs_nil)))
          (pss_one (ps_dput hu (pv 9) (pv 14) (pe_op op_add (pe_dget2 hu (pv 9) (pv 14) pe_int ⟨rfl, rfl, rfl, rfl⟩) (pv 15)) rfl)))
        (pss_one (ps_for PassesOwn.never rfl (pi_tup (pv 12)) (pg_tup rfl (pgs_cons (pg_name (i := 14) scLaw.nd rfl (.inl rfl)) (pgs_cons (pg_name (i := 15) scLaw.nd rfl (.inl rfl)) pgs_nil)))
          (pss_one (ps_dput hu (pv 9) (pv 14) (pe_op op_sub (pe_dget2 hu (pv 9) (pv 14) pe_int ⟨rfl, rfl, rfl, rfl⟩) (pv 15)) rfl))))))
      (pss_cons (ps_set (i := 16) scLaw.nd rfl (.inl rfl) (pe_call GT r1 (by rfl) gT kT bT .nil pass0 (pa_cons (pv 1) (pa_cons (pe_callB call_len_seq (by rfl) mn PySem.boot_len (pa_cons (pv 6) pa_nil)) pa_nil))))
      (pss_cons (ps_for PassesOwn.never rfl (pi_list (pe_lst (pa_cons (pv 6) (pa_cons (pe_revL (pv 6)) (pa_cons (pe_op op_cat (pe_slice sl_list (pv 6) (po_some (pv 16)) po_none) (pe_slice sl_list (pv 6) po_none (po_some (pv 16)))) pa_nil))))) (pg_name (i := 17) scLaw.nd rfl (.inl rfl))
        (pss_cons (ps_set (i := 18) scLaw.nd rfl (.inl rfl) (pv 3))
        (pss_cons (ps_set (i := 19) scLaw.nd rfl (.inl rfl) (pv 4))
        (pss_cons (ps_for PassesOwn.never rfl (pi_list (pv 17)) (pg_tup rfl (pgs_cons (pg_name (i := 10) scLaw.nd rfl (.inl rfl)) (pgs_cons (pg_name (i := 11) scLaw.nd rfl (.inl rfl)) (pgs_cons (pg_name (i := 12) scLaw.nd rfl (.inl rfl)) (pgs_cons (pg_name (i := 13) scLaw.nd rfl (.inl rfl)) pgs_nil)))))
          (pss_cons (ps_set (i := 18) scLaw.nd rfl (.inl rfl) (pe_call GS hr (by rfl) gJ kJ bJ .nil pass0 (pa_cons (pe_tup (pa_cons pe_str pa_nil)) (pa_cons (pv 10) (pa_cons (pv 18) (pa_cons (pv 11) (pa_cons pe_bl pa_nil)))))))
          (pss_one (ps_set (i := 19) scLaw.nd rfl (.inl rfl) (pe_call GJ hr (by rfl) gJ kJ bJ .nil pass0 (pa_cons (pe_tup (pa_cons pe_str pa_nil)) (pa_cons (pv 12) (pa_cons (pv 19) (pa_cons (pv 13) (pa_cons pe_bl pa_nil))))))))))
        (pss_one (ps_if (PW.pt (pw_or (pt_not (pt_val (pe_call GW r1 (by rfl) gW kW bW .nil pass0 (pa_cons (pv 18) pa_nil))))
          (pw_or (pt_cmpR op_ne (pv 18) (pe_op op_mod (pv 8) pe_int) (nomark _))
          (pw_or1 (pt_not (pt_val (pe_call GI r2 (by rfl) gI kI bI .nil pass0 (pa_cons (pv 19) (pa_cons (pv 9) pa_nil)))))))))
          (pss_one (ps_ret pe_bl)) pss_nil))))))
      (pss_one (ps_ret pe_bl))))))))))), ?_⟩
    -- the box, the pool, the number, the bag
    refine ⟨.ref a, rfl, a, ns, 0, rfl, hS H (Evo.refl H), fun b H1 nb ev1 hb => ?_⟩
    refine ⟨.ref b, rfl, b, rfl, hb, fun pl H2 ws npl ev2 lw hpl => ?_⟩
    refine ⟨.ref b, rfl, b, _, rfl, ev2.box hb, by decide, by decide, fun num H3 u0 u1 ev3 _ => ?_⟩
    refine ⟨.ref a, rfl, a, ns, 1, rfl, hS _ (ev1.trans (ev2.trans ev3)), fun b1 H4 nb1 ev4 hb1 => ?_⟩
    refine ⟨.ref pl, rfl, b1, pl, 10, ws, rfl, hb1, (ev3.trans ev4).keep hpl nb_strs, lw, by decide, by decide, fun bg H5 f nbg ev5 hB => ?_⟩
    have e25 : Evo H2 H5 := ev3.trans (ev4.trans ev5)
    have e05 : Evo H H5 := ev1.trans (ev2.trans e25)
    have hb5 : Box H5 b := e25.box (ev2.box hb)
    have hp5 : H5 pl = some (.lst (ws.map V.str)) := e25.keep hpl nb_strs
    -- the pairs
    obtain ⟨m4, m18⟩ := span ((ns.map V.int).length : Int)
    refine ⟨.ref a, rfl, a, _, rfl, .inl (hS _ e05), 18, _, rfl, 4, _, rfl, 2, _, rfl, ?_, fun D nD => ?_⟩
    · exact ⟨by decide, by decide, by omega, by omega⟩
    revert m4 m18
    generalize (if (if ((ns.map V.int).length : Int) < 18 then ((ns.map V.int).length : Int) else 18) > 4 then (if ((ns.map V.int).length : Int) < 18 then ((ns.map V.int).length : Int) else 18) else 4) = hi
    intro m4 m18
    refine lc_range (lo := 2) (n := (hi - 2).toNat) (fun i H' => Evo H5 H' ∧ ∃ L : List Pr, H' D = some (.lst (refs L)) ∧ L.length = i ∧ ∀ p ∈ L, PrAt ws H' p) ⟨Evo.new nD _, [], upd_same, rfl, (fun _ h => nomatch h)⟩ ?_ ?_
    · rintro i H' hi' ⟨ev, L, eL, lL, hL⟩
      refine ⟨rfl, .ref a, rfl, .int _, rfl, a, ns, 2 + i, rfl, hS _ (e05.trans ev), fun bx H7 nbx ev7 hbx => ?_⟩
      refine ⟨.ref pl, rfl, bx, pl, ws, rfl, hbx, (ev.trans ev7).keep hp5 nb_strs, lw, fun p H8 np ev8 hP => ?_⟩
      have e78 : Evo H' H8 := ev7.trans ev8
      have eL8 : H8 D = some (.lst (refs L)) := e78.keep eL nb_refs
      have pD : D ≠ p.adr := ne_of eL8 hP.1 (by intro z; cases z)
      refine ⟨refs L, eL8, ?_, (ev.trans e78).upd nD _, L ++ [p], ?_, ?_, fun x hx => ?_⟩
      · rw [refs_len]
        exact small1000 (by omega)
      · rw [upd_same, refs_app]
        rfl
      · rw [List.length_append, lL]
        rfl
      · have keep8 : ∀ y : Pr, PrAt ws H8 y → PrAt ws (upd H8 D (.lst (refs L ++ [V.ref p.adr]))) y := fun y hy => by
          obtain ⟨y1, ⟨qs, ⟨o, rs, y2, od, y3⟩, y4, y5⟩, ⟨qs', ⟨o', rs', y2', od', y3'⟩, y4', y5'⟩⟩ := hy
          have ne : ∀ {c : Addr} {u : HO}, H8 c = some u → u ≠ .lst (refs L) → c ≠ D := fun h hne => ne_of h eL8 hne
          refine ⟨by rw [upd_ne (ne y1 (by intro z; cases z))]; exact y1, ⟨qs, ⟨o, rs, by rw [upd_ne (ne y2 (by intro z; cases z))]; exact y2, od, Paired.mapP y3 fun r p e => by rw [upd_ne (ne e (by intro z; cases z))]; exact e⟩, y4, y5⟩,
            ⟨qs', ⟨o', rs', by rw [upd_ne (ne y2' (by intro z; cases z))]; exact y2', od', Paired.mapP y3' fun r p e => by rw [upd_ne (ne e (by intro z; cases z))]; exact e⟩, y4', y5'⟩⟩
        rcases List.mem_append.mp hx with h | h
        · exact keep8 x (e78.prAt (hL x h))
        · rw [List.mem_singleton.mp h]
          exact keep8 p hP
    rintro H6 ⟨e56, L, eD, lL, hL⟩
    have e06 : Evo H H6 := e05.trans e56
    -- what is due
    refine ⟨.int num, rfl, .ref D, rfl, D, rfl, ⟨_, SqL.of eD⟩, fun S nS => lc_list (K := K) (a := D) (xs := refs L) (fun i H' => H' = upd H6 S (.lst (((L.take i).map fun p => p.yours - p.was).map V.int))) rfl ?_ ?_ ?_⟩
    · rintro i H' _ rfl
      exact SqL.of (by rw [upd_ne (ne_of_none eD nS)]; exact eD)
    · rintro i x H' hx rfl
      obtain ⟨p, hp, rfl⟩ := refs_get hx
      have hpa : (upd H6 S (.lst (((L.take i).map fun p => p.yours - p.was).map V.int))) p.adr = some (.tup [.int p.was, .int p.yours, .ref p.hadA, .ref p.hasA]) := by
        have z := (hL p (List.mem_of_getElem? hp)).1
        rw [upd_ne (ne_of_none z nS)]
        exact z
      have hil : i < L.length := (List.getElem?_eq_some_iff.mp hp).1
      refine ⟨rfl, .ref p.adr, rfl, p.adr, _, 1, .int p.yours, rfl, rfl, .inl (.inl hpa), atI_nat (j := 1) rfl, .ref p.adr, rfl, p.adr, _, 0, .int p.was, rfl, rfl, .inl (.inl hpa), atI_nat (j := 0) rfl, p.yours, p.was, rfl, rfl, _, upd_same, ?_, ?_⟩
      · rw [List.length_map, List.length_map, List.length_take]
        exact small1000 (by omega)
      · rw [upd_upd, List.take_add_one, hp, List.map_append, List.map_append]
        rfl
    rintro H7 rfl
    refine ⟨S, _, rfl, SqL.of upd_same, num, _, rfl, rfl, ?_⟩
    rw [refs_len, List.take_length]
    show tSeq _ _ _ _ _
    have e67 : Evo H6 (upd H6 S (.lst ((L.map fun p => p.yours - p.was).map V.int))) := Evo.new nS _
    revert e67
    generalize upd H6 S (.lst ((L.map fun p => p.yours - p.was).map V.int)) = H7
    intro e67
    -- the numbers
    refine ⟨.ref bg, rfl, Nat.zero_le _, fun t nt => ?_⟩
    have e7t : Evo H7 (upd H7 t (.tup [])) := Evo.new nt _
    have e5t : Evo H5 (upd H7 t (.tup [])) := e56.trans (e67.trans e7t)
    have eDt : (upd H7 t (.tup [])) D = some (.lst (refs L)) := (e67.trans e7t).keep eD nb_refs
    have hLt : ∀ p ∈ L, PrAt ws (upd H7 t (.tup [])) p := fun p hp => (e67.trans e7t).prAt (hL p hp)
    have hBt : Bag ws (upd H7 t (.tup [])) bg f := e5t.bag hB
    have hbt : Box (upd H7 t (.tup [])) b := e5t.box hb5
    have hts : (upd H7 t (.tup [])) t = some (.tup []) := upd_same
    revert eDt hLt hBt hbt hts
    generalize upd H7 t (.tup []) = H8
    intro eDt hLt hBt hbt hts
    refine ⟨bg, t, ws, f, 1, rfl, hBt, hts, by omega, fun d kvs nd DN => ?_⟩
    have hw : ws.length < 64 := by omega
    refine ⟨.ref D, rfl, D, rfl, ⟨_, SqL.of (by rw [upd_ne (ne_of_none eDt nd)]; exact eDt)⟩, for_list (K := K) (a := D) (xs := refs L) (fun i σ' H' => ∃ x10 x11 x12 x13 x14 x15, ∃ kvs : List (Key × V),
      σ' = [some (.ref a), some (.ref b), some (.ref pl), some (.int num), some (.ref bg), none, some (.ref D), none, some (.int (num + msum L)), some (.ref d), x10, x11, x12, x13, x14, x15, none, none, none, none] ∧
      H' = upd H8 d (.dK kvs) ∧ DNum ws kvs fun w => f w + bsum (L.take i) w) ?_ ?_ ?_ ?_⟩
    · exact ⟨none, none, none, none, none, none, kvs, rfl, rfl, DN.congr fun w => by show f w = f w + 0; omega⟩
    · rintro i σ' H' _ ⟨_, _, _, _, _, _, kvs', _, rfl, _⟩
      exact SqL.of (by rw [upd_ne (ne_of_none eDt nd)]; exact eDt)
    · rintro i x σ' H' hx ⟨x10, x11, x12, x13, x14, x15, kvs', rfl, rfl, DN'⟩
      obtain ⟨p, hp, rfl⟩ := refs_get hx
      have hP := hLt p (List.mem_of_getElem? hp)
      have ev : ∀ kvs'', Evo H8 (upd H8 d (.dK kvs'')) := fun kvs'' => Evo.new nd _
      refine ⟨p.adr, _, rfl, .inl (.inl ((ev _).keep hP.1 nb_tup)), rfl, .int p.was, _, rfl, .int p.yours, _, rfl, .ref p.hadA, _, rfl, .ref p.hasA, _, rfl, rfl, ?_⟩
      refine add_reading (ws := ws) (d := d) (b := p.hasA) (h := p.has) 1 (fun i j => by omega) (by decide) (by decide) (by decide) (by show 14 < 20; decide) (by show 15 < 20; decide) ⟨x14, x15, rfl⟩ rfl rfl upd_same DN' ((ev _).bag hP.2.2) hw fun y14 y15 kvs2 DN2 => ?_
      rw [upd_upd]
      refine add_reading (ws := ws) (d := d) (b := p.hadA) (h := p.had) (-1) (fun i j => by omega) (by decide) (by decide) (by decide) (by show 14 < 20; decide) (by show 15 < 20; decide) ⟨y14, y15, rfl⟩ rfl rfl upd_same DN2 ((ev _).bag hP.2.1) hw fun z14 z15 kvs3 DN3 => ?_
      rw [upd_upd]
      refine ⟨_, _, _, _, _, _, kvs3, rfl, rfl, DN3.congr fun w => ?_⟩
      rw [bsum_take hp]
      omega
    rintro σ' H' ⟨x10, x11, x12, x13, x14, x15, kvs', rfl, rfl, DN'⟩
    rw [refs_len, List.take_length] at DN'
    have e89 : Evo H8 (upd H8 d (.dK kvs')) := Evo.new nd _
    have hd9 : (upd H8 d (.dK kvs')) d = some (.dK kvs') := upd_same
    revert e89 hd9
    generalize upd H8 d (.dK kvs') = H9
    intro e89 hd9
    -- where the orders are cut
    have lL2 : 2 ≤ L.length := by omega
    have lL16 : L.length ≤ 16 := by omega
    refine ⟨.ref b, rfl, .ref D, rfl, D, _, rfl, .inl (SqL.of (e89.keep eDt nb_refs)), b, _, rfl, e89.box hbt, ?_, ?_, fun at' HA a0 a1 evA _ => ?_⟩
    · rw [refs_len]
      omega
    · rw [refs_len]
      omega
    rw [refs_len] at a1
    obtain ⟨n, rfl⟩ := Int.eq_ofNat_of_zero_le a0
    have hn : n ≤ L.length := by omega
    have e8A : Evo H8 HA := e89.trans evA
    have eDA : HA D = some (.lst (refs L)) := e8A.keep eDt nb_refs
    -- the three orders
    refine ⟨.ref D, rfl, .ref D, rfl, D, _, rfl, SqL.of eDA, fun R nR => ?_⟩
    have eDR : (upd HA R (.lst (refs L).reverse)) D = some (.lst (refs L)) := by rw [upd_ne (ne_of_none eDA nR)]; exact eDA
    refine ⟨.ref D, rfl, .int n, rfl, n, rfl, D, _, rfl, SqL.of eDR, fun S1 n1 => ?_⟩
    rw [cut_from hn]
    have eD1 : (upd (upd HA R (.lst (refs L).reverse)) S1 (.lst (refs (L.drop n)))) D = some (.lst (refs L)) := by rw [upd_ne (ne_of_none eDR n1)]; exact eDR
    refine ⟨.ref D, rfl, .int n, rfl, n, rfl, D, _, rfl, SqL.of eD1, fun S2 n2 => ?_⟩
    rw [cut_to hn]
    have e11 : (upd (upd HA R (.lst (refs L).reverse)) S1 (.lst (refs (L.drop n)))) S1 = some (.lst (refs (L.drop n))) := upd_same
    refine ⟨S1, S2, _, _, rfl, rfl, by rw [upd_ne (ne_of_none e11 n2)]; exact e11, upd_same, ?_, fun C' nC => ?_⟩
    · rw [refs_len, refs_len, List.length_drop, List.length_take]
      exact Nat.le_of_lt (small1000 (by omega))
    refine ⟨by show 3 ≤ sizeLine; decide, fun O nO => ?_⟩
    have evB : Evo HA (upd HA R (.lst (refs L).reverse)) := Evo.new nR _
    have evC : Evo (upd HA R (.lst (refs L).reverse)) (upd (upd (upd (upd (upd HA R (.lst (refs L).reverse)) S1 (.lst (refs (L.drop n)))) S2 (.lst (refs (L.take n)))) C' (.lst (refs (L.drop n) ++ refs (L.take n)))) O (.lst [.ref D, .ref R, .ref C'])) :=
      (Evo.new n1 _).trans ((Evo.new n2 _).trans ((Evo.new nC _).trans (Evo.new nO _)))
    have eR : (upd HA R (.lst (refs L).reverse)) R = some (.lst (refs L.reverse)) := by
      rw [upd_same, refs_rev]
    have hO3 : (upd (upd (upd (upd (upd HA R (.lst (refs L).reverse)) S1 (.lst (refs (L.drop n)))) S2 (.lst (refs (L.take n)))) C' (.lst (refs (L.drop n) ++ refs (L.take n)))) O (.lst [.ref D, .ref R, .ref C'])) O = some (.lst [.ref D, .ref R, .ref C']) := upd_same
    have hC3 : (upd (upd (upd (upd (upd HA R (.lst (refs L).reverse)) S1 (.lst (refs (L.drop n)))) S2 (.lst (refs (L.take n)))) C' (.lst (refs (L.drop n) ++ refs (L.take n)))) O (.lst [.ref D, .ref R, .ref C'])) C' = some (.lst (refs (L.drop n ++ L.take n))) := by
      have z : (upd (upd (upd (upd HA R (.lst (refs L).reverse)) S1 (.lst (refs (L.drop n)))) S2 (.lst (refs (L.take n)))) C' (.lst (refs (L.drop n) ++ refs (L.take n)))) C' = some (.lst (refs (L.drop n ++ L.take n))) := by
        rw [upd_same, refs_app]
      rw [upd_ne (ne_of_none z nO)]
      exact z
    revert evC hO3 hC3
    generalize upd (upd (upd (upd (upd HA R (.lst (refs L).reverse)) S1 (.lst (refs (L.drop n)))) S2 (.lst (refs (L.take n)))) C' (.lst (refs (L.drop n) ++ refs (L.take n)))) O (.lst [.ref D, .ref R, .ref C']) = HB
    intro evC hO3 hC3
    have eAB : Evo HA HB := evB.trans evC
    have e8B : Evo H8 HB := e8A.trans eAB
    have hos : ∀ (i : Nat) (x : V), ([V.ref D, V.ref R, V.ref C'] : List V)[i]? = some x → ∃ (o : Addr) (M : List Pr), x = .ref o ∧ HB o = some (.lst (refs M)) ∧ M.Perm L := by
      intro i x hx
      match i, hx with
      | 0, hx => exact ⟨D, L, (Option.some.inj hx).symm, eAB.keep eDA nb_refs, List.Perm.refl _⟩
      | 1, hx => exact ⟨R, L.reverse, (Option.some.inj hx).symm, evC.keep eR nb_refs, List.reverse_perm _⟩
      | 2, hx => exact ⟨C', L.drop n ++ L.take n, (Option.some.inj hx).symm, hC3, rot_perm L n⟩
    have nbO : ¬ IsBox (.lst [V.ref D, V.ref R, V.ref C']) := fun ⟨_, _, e⟩ => by cases e
    refine ⟨O, rfl, ⟨_, SqL.of hO3⟩, for_list (K := K) (a := O) (xs := [V.ref D, V.ref R, V.ref C']) (fun i σ' H' => Evo HB H' ∧ ∃ x10 x11 x12 x13 x14 x15 x17 x18 x19,
      σ' = [some (.ref a), some (.ref b), some (.ref pl), some (.int num), some (.ref bg), none, some (.ref D), none, some (.int (num + msum L)), some (.ref d), x10, x11, x12, x13, x14, x15, some (.int n), x17, x18, x19]) ?_ ?_ ?_ ?_⟩
    · exact ⟨Evo.refl _, x10, x11, x12, x13, x14, x15, none, none, none, rfl⟩
    · rintro i σ' H' _ ⟨ev, _⟩
      exact SqL.of (ev.keep hO3 nbO)
    · rintro i x σ' H' hx ⟨ev, x10, x11, x12, x13, x14, x15, x17, x18, x19, rfl⟩
      obtain ⟨o, M, rfl, hM, pM⟩ := hos i x hx
      have hM' : H' o = some (.lst (refs M)) := ev.keep hM nb_refs
      have e8' : Evo H8 H' := e8B.trans ev
      refine ⟨.int num, rfl, .ref bg, rfl, .ref o, rfl, o, rfl, ⟨_, SqL.of hM'⟩, for_list (K := K) (a := o) (xs := refs M) (fun j σ2 H2' => Evo H' H2' ∧ ∃ x10 x11 x12 x13, ∃ ow : Addr,
        σ2 = [some (.ref a), some (.ref b), some (.ref pl), some (.int num), some (.ref bg), none, some (.ref D), none, some (.int (num + msum L)), some (.ref d), x10, x11, x12, x13, x14, x15, some (.int n), some (.ref o), some (.int ((num + msum (M.take j)) % 4294967296)), some (.ref ow)] ∧
        Bag ws H2' ow fun w => f w + bsum (M.take j) w) ?_ ?_ ?_ ?_⟩
      · have e0 : (num + msum (M.take 0)) % 4294967296 = num := by
          show (num + 0) % 4294967296 = num
          omega
        refine ⟨Evo.refl _, x10, x11, x12, x13, bg, by rw [e0]; rfl, ?_⟩
        have eb : (fun w => f w + bsum (M.take 0) w) = f := funext fun w => by
          show f w + 0 = f w
          omega
        rw [eb]
        exact e8'.bag hBt
      · rintro j σ2 H2' _ ⟨ev2, _⟩
        exact SqL.of (ev2.keep hM' nb_refs)
      · rintro j x σ2 H2' hx2 ⟨ev2, y10, y11, y12, y13, ow, rfl, hBo⟩
        obtain ⟨p, hp, rfl⟩ := refs_get hx2
        have hpL : p ∈ L := pM.mem_iff.mp (List.mem_of_getElem? hp)
        have hP := (e8'.trans ev2).prAt (hLt p hpL)
        refine ⟨p.adr, _, rfl, .inl (.inl hP.1), rfl, .int p.was, _, rfl, .int p.yours, _, rfl, .ref p.hadA, _, rfl, .ref p.hasA, _, rfl, rfl, ?_⟩
        refine ⟨by show 1 ≤ sizeLine; decide, fun m nm => ?_⟩
        have em : Evo H2' (upd H2' m (.tup [.str "sum"])) := Evo.new nm _
        refine ⟨.int p.was, rfl, .int _, rfl, .int p.yours, rfl, m, p.was, _, p.yours, rfl, upd_same, ?_⟩
        refine ⟨by show 1 ≤ sizeLine; decide, fun m2 nm2 => ?_⟩
        have em2 : Evo H2' (upd (upd H2' m (.tup [.str "sum"])) m2 (.tup [.str "bag"])) := em.trans (Evo.new nm2 _)
        refine ⟨.ref p.hadA, rfl, .ref ow, rfl, .ref p.hasA, rfl, m2, p.hadA, ow, p.hasA, ws, p.had, _, p.has, rfl, upd_same, em2.bag hP.2.1, em2.bag hBo, em2.bag hP.2.2, hw, fun l H3' nl ev3' hB3 => ?_⟩
        refine ⟨ev2.trans (em2.trans ev3'), some (.int p.was), some (.int p.yours), some (.ref p.hadA), some (.ref p.hasA), l, ?_, ?_⟩
        · have ez : ((num + msum (M.take j)) % 4294967296 + p.yours - p.was) % 4294967296 = (num + msum (M.take (j + 1))) % 4294967296 := by
            rw [msum_take hp]
            omega
          rw [← ez]
          rfl
        · have eb : (fun w => f w + bsum (M.take (j + 1)) w) = fun w => f w + bsum (M.take j) w + (p.has w - p.had w) := funext fun w => by
            rw [bsum_take hp]
            omega
          rw [eb]
          exact hB3
      · rintro σ2 H2' ⟨ev2, y10, y11, y12, y13, ow, rfl, hBo⟩
        have et : M.take (refs M).length = M := by rw [refs_len, List.take_length]
        rw [et] at hBo
        have ems : msum M = msum L := sum_perm _ pM
        have ebs : (fun w => f w + bsum M w) = fun w => f w + bsum L w := funext fun w => by
          show f w + bsum M w = f w + bsum L w
          rw [show bsum M w = bsum L w from sum_perm _ pM]
        rw [ebs] at hBo
        refine ⟨.int _, rfl, _, rfl, true, rfl, iteF ?_⟩
        refine ⟨.int _, rfl, .int (num + msum L), rfl, _, 4294967296, rfl, rfl, by show (0 : Int) < 4294967296; decide, rfl, _, rfl, iteNS (by rw [et, ems]) ?_⟩
        refine ⟨.ref ow, rfl, .ref d, rfl, ow, d, ws, kvs', _, rfl, hBo, ?_, DN', hw, fun H4' ev4' => ?_⟩
        · exact (evA.trans (eAB.trans (ev.trans ev2))).keep hd9 nb_dK
        · exact ⟨true, rfl, iteF ⟨ev.trans (ev2.trans ev4'), _, _, _, _, _, _, _, _, _, rfl⟩⟩
    · rintro σ' H' ⟨_, _⟩
      exact q H'
end
end K27


namespace K27
open PySem PySem.Spec PyProof.Rows L2
/-! ### what the top has written; the law's own head -/
theorem all_mk {l : PySem.W.OpenLaw} {w : World} {K : PySem.W.Frag} {h : Heap} {mg : Str → Option Value} {fa f1 f2 f3 f4 f5 f6 f7 f8 f9 f10 f11 f12 f13 : Addr} (X : K.In h) (G : h.Ns mainGlobals mg) (hfa : mg "law" = some (.ref fa))
    {od1 an1 od2 an2 od3 an3 od4 an4 od5 an5 od6 an6 od7 an7 od8 an8 od9 an9 od10 an10 od11 an11 od12 an12 od13 an13 : Option Addr} {sl1 sl2 sl3 sl4 sl5 sl6 sl7 sl8 sl9 sl10 sl11 sl12 sl13 : Array (Option Value)} {oc1 kV1 dc1 pm1 cd1 ct1 oc2 kV2 dc2 pm2 cd2 ct2 oc3 kV3 dc3 pm3 cd3 ct3 oc4 kV4 dc4 pm4 cd4 ct4 oc5 kV5 dc5 pm5 cd5 ct5 oc6 kV6 dc6 pm6 cd6 ct6 oc7 kV7 dc7 pm7 cd7 ct7 oc8 kV8 dc8 pm8 cd8 ct8 oc9 kV9 dc9 pm9 cd9 ct9 oc10 kV10 dc10 pm10 cd10 ct10 oc11 kV11 dc11 pm11 cd11 ct11 oc12 kV12 dc12 pm12 cd12 ct12 oc13 kV13 dc13 pm13 cd13 ct13 : Value} {tW : Tok}
    (a1 : PySem.W.nsIn K mainGlobals "bag_of" = some (some (.ref f1))) (l1 : K.lookup f1 = some ⟨oc1, od1, .func (PySem.W.fnOf "bag_of" "bag_of" (defArgs sBagOf) (defBody sBagOf) (defScope sBagOf) .none kV1 dc1 pm1 an1 cd1 ct1), sl1⟩) (c1 : PySem.W.codeIn K cd1 "bag_of" = true) (k1 : PySem.W.keepIn K (.ref f1) = true)
    (a2 : PySem.W.nsIn K mainGlobals "bags_added" = some (some (.ref f2))) (l2 : K.lookup f2 = some ⟨oc2, od2, .func (PySem.W.fnOf "bags_added" "bags_added" (defArgs sAdded) (defBody sAdded) (defScope sAdded) .none kV2 dc2 pm2 an2 cd2 ct2), sl2⟩) (c2 : PySem.W.codeIn K cd2 "bags_added" = true) (k2 : PySem.W.keepIn K (.ref f2) = true)
    (a3 : PySem.W.nsIn K mainGlobals "bags_less" = some (some (.ref f3))) (l3 : K.lookup f3 = some ⟨oc3, od3, .func (PySem.W.fnOf "bags_less" "bags_less" (defArgs sLess) (defBody sLess) (defScope sLess) .none kV3 dc3 pm3 an3 cd3 ct3), sl3⟩) (c3 : PySem.W.codeIn K cd3 "bags_less" = true) (k3 : PySem.W.keepIn K (.ref f3) = true)
    (a4 : PySem.W.nsIn K mainGlobals "joined" = some (some (.ref f4))) (l4 : K.lookup f4 = some ⟨oc4, od4, .func (PySem.W.fnOf "joined" "joined" (defArgs sJoined) (defBody sJoined) (defScope sJoined) .none kV4 dc4 pm4 an4 cd4 ct4), sl4⟩) (c4 : PySem.W.codeIn K cd4 "joined" = true) (k4 : PySem.W.keepIn K (.ref f4) = true)
    (a5 : PySem.W.nsIn K mainGlobals "_law_box" = some (some (.ref f5))) (l5 : K.lookup f5 = some ⟨oc5, od5, .func (PySem.W.fnOf "_law_box" "_law_box" (defArgs sBox) (defBody sBox) (defScope sBox) .none kV5 dc5 pm5 an5 cd5 ct5), sl5⟩) (c5 : PySem.W.codeIn K cd5 "_law_box" = true) (k5 : PySem.W.keepIn K (.ref f5) = true)
    (a6 : PySem.W.nsIn K mainGlobals "_law_take" = some (some (.ref f6))) (l6 : K.lookup f6 = some ⟨oc6, od6, .func (PySem.W.fnOf "_law_take" "_law_take" (defArgs sTake) (defBody sTake) (defScope sTake) .none kV6 dc6 pm6 an6 cd6 ct6), sl6⟩) (c6 : PySem.W.codeIn K cd6 "_law_take" = true) (k6 : PySem.W.keepIn K (.ref f6) = true)
    (a7 : PySem.W.nsIn K mainGlobals "_law_pool" = some (some (.ref f7))) (l7 : K.lookup f7 = some ⟨oc7, od7, .func (PySem.W.fnOf "_law_pool" "_law_pool" (defArgs sPool) (defBody sPool) (defScope sPool) .none kV7 dc7 pm7 an7 cd7 ct7), sl7⟩) (c7 : PySem.W.codeIn K cd7 "_law_pool" = true) (k7 : PySem.W.keepIn K (.ref f7) = true)
    (a8 : PySem.W.nsIn K mainGlobals "_law_whole" = some (some (.ref f8))) (l8 : K.lookup f8 = some ⟨oc8, od8, .func (PySem.W.fnOf "_law_whole" "_law_whole" (defArgs sWhole) (defBody sWhole) (defScope sWhole) .none kV8 dc8 pm8 an8 cd8 ct8), sl8⟩) (c8 : PySem.W.codeIn K cd8 "_law_whole" = true) (k8 : PySem.W.keepIn K (.ref f8) = true)
    (a9 : PySem.W.nsIn K mainGlobals "_law_bag" = some (some (.ref f9))) (l9 : K.lookup f9 = some ⟨oc9, od9, .func (PySem.W.fnOf "_law_bag" "_law_bag" (defArgs sLBag) (defBody sLBag) (defScope sLBag) .none kV9 dc9 pm9 an9 cd9 ct9), sl9⟩) (c9 : PySem.W.codeIn K cd9 "_law_bag" = true) (k9 : PySem.W.keepIn K (.ref f9) = true)
    (a10 : PySem.W.nsIn K mainGlobals "_law_is_bag" = some (some (.ref f10))) (l10 : K.lookup f10 = some ⟨oc10, od10, .func (PySem.W.fnOf "_law_is_bag" "_law_is_bag" (defArgs sIsBag) (defBody sIsBag) (defScope sIsBag) .none kV10 dc10 pm10 an10 cd10 ct10), sl10⟩) (c10 : PySem.W.codeIn K cd10 "_law_is_bag" = true) (k10 : PySem.W.keepIn K (.ref f10) = true)
    (a11 : PySem.W.nsIn K mainGlobals "_law_numbers" = some (some (.ref f11))) (l11 : K.lookup f11 = some ⟨oc11, od11, .func (PySem.W.fnOf "_law_numbers" "_law_numbers" (defArgs sNums) (defBody sNums) (defScope sNums) .none kV11 dc11 pm11 an11 cd11 ct11), sl11⟩) (c11 : PySem.W.codeIn K cd11 "_law_numbers" = true) (k11 : PySem.W.keepIn K (.ref f11) = true)
    (a12 : PySem.W.nsIn K mainGlobals "_law_pair" = some (some (.ref f12))) (l12 : K.lookup f12 = some ⟨oc12, od12, .func (PySem.W.fnOf "_law_pair" "_law_pair" (defArgs sPair) (defBody sPair) (defScope sPair) .none kV12 dc12 pm12 an12 cd12 ct12), sl12⟩) (c12 : PySem.W.codeIn K cd12 "_law_pair" = true) (k12 : PySem.W.keepIn K (.ref f12) = true)
    (a13 : PySem.W.nsIn K mainGlobals "law" = some (some (.ref f13))) (l13 : K.lookup f13 = some ⟨oc13, od13, .func (PySem.W.fnOf "law" "law" (defArgs sLaw) (defBody sLaw) (defScope sLaw) .none kV13 dc13 pm13 an13 cd13 ct13), sl13⟩) (c13 : PySem.W.codeIn K cd13 "law" = true) (k13 : PySem.W.keepIn K (.ref f13) = true)
    (aW : PySem.W.nsIn K mainGlobals "WIDE" = some (some (.int 4294967296 tW)))
    (z1 : PySem.W.nsIn K mainGlobals "tuple" = some none) (z2 : PySem.W.nsIn K mainGlobals "sorted" = some none) (z3 : PySem.W.nsIn K mainGlobals "list" = some none) (z4 : PySem.W.nsIn K mainGlobals "dict" = some none) (z5 : PySem.W.nsIn K mainGlobals "isinstance" = some none) (z6 : PySem.W.nsIn K mainGlobals "int" = some none) (z7 : PySem.W.nsIn K mainGlobals "bool" = some none) (z8 : PySem.W.nsIn K mainGlobals "str" = some none) (z9 : PySem.W.nsIn K mainGlobals "len" = some none) (z10 : PySem.W.nsIn K mainGlobals "range" = some none) (z11 : PySem.W.nsIn K mainGlobals "max" = some none) (z12 : PySem.W.nsIn K mainGlobals "min" = some none) (z13 : PySem.W.nsIn K mainGlobals "sum" = some none) :
    ∃ fd : FuncData, (∀ (s : Shared) (v : Value), BindsTo s fd ⟨[v], []⟩ [("_law_script", v)]) ∧ ∀ base : Heap, K.In base → base.Ns mainGlobals mg → FnOk l.prog w K mg base CX0 5 fa fd ["_law_script"] (spLaw K) := by
  have e := hfa.symm.trans (PySem.W.mg_of X G a13)
  cases e
  have F1 := fun_mk (st := sBagOf) l1 c1 k1
  have b1 := F1.binds (ps := ["numbers"]) fun _ _ _ _ _ _ us hl => match us, hl with | [_], _ => rfl
  have g1 := PySem.W.mg_of X G a1
  have F2 := fun_mk (st := sAdded) l2 c2 k2
  have b2 := F2.binds (ps := ["one", "other"]) fun _ _ _ _ _ _ us hl => match us, hl with | [_, _], _ => rfl
  have g2 := PySem.W.mg_of X G a2
  have F3 := fun_mk (st := sLess) l3 c3 k3
  have b3 := F3.binds (ps := ["one", "other"]) fun _ _ _ _ _ _ us hl => match us, hl with | [_, _], _ => rfl
  have g3 := PySem.W.mg_of X G a3
  have F4 := fun_mk (st := sJoined) l4 c4 k4
  have b4 := F4.binds (ps := ["manner", "was", "mine", "yours", "wrote"]) fun _ _ _ _ _ _ us hl => match us, hl with | [_, _, _, _, _], _ => rfl
  have g4 := PySem.W.mg_of X G a4
  have F5 := fun_mk (st := sBox) l5 c5 k5
  have b5 := F5.binds (ps := ["_law_script", "_law_k"]) fun _ _ _ _ _ _ us hl => match us, hl with | [_, _], _ => rfl
  have g5 := PySem.W.mg_of X G a5
  have F6 := fun_mk (st := sTake) l6 c6 k6
  have b6 := F6.binds (ps := ["_law_box_here", "_law_many"]) fun _ _ _ _ _ _ us hl => match us, hl with | [_, _], _ => rfl
  have g6 := PySem.W.mg_of X G a6
  have F7 := fun_mk (st := sPool) l7 c7 k7
  have b7 := F7.binds (ps := ["_law_box_here", "_law_many"]) fun _ _ _ _ _ _ us hl => match us, hl with | [_, _], _ => rfl
  have g7 := PySem.W.mg_of X G a7
  have F8 := fun_mk (st := sWhole) l8 c8 k8
  have b8 := F8.binds (ps := ["_law_found"]) fun _ _ _ _ _ _ us hl => match us, hl with | [_], _ => rfl
  have g8 := PySem.W.mg_of X G a8
  have F9 := fun_mk (st := sLBag) l9 c9 k9
  have b9 := F9.binds (ps := ["_law_box_here", "_law_pool_here", "_law_most"]) fun _ _ _ _ _ _ us hl => match us, hl with | [_, _, _], _ => rfl
  have g9 := PySem.W.mg_of X G a9
  have F10 := fun_mk (st := sIsBag) l10 c10 k10
  have b10 := F10.binds (ps := ["_law_found", "_law_due"]) fun _ _ _ _ _ _ us hl => match us, hl with | [_, _], _ => rfl
  have g10 := PySem.W.mg_of X G a10
  have F11 := fun_mk (st := sNums) l11 c11 k11
  have b11 := F11.binds (ps := ["_law_one", "_law_other", "_law_sign"]) fun _ _ _ _ _ _ us hl => match us, hl with | [_, _, _], _ => rfl
  have g11 := PySem.W.mg_of X G a11
  have F12 := fun_mk (st := sPair) l12 c12 k12
  have b12 := F12.binds (ps := ["_law_box_here", "_law_pool_here"]) fun _ _ _ _ _ _ us hl => match us, hl with | [_, _], _ => rfl
  have g12 := PySem.W.mg_of X G a12
  have F13 := fun_mk (st := sLaw) l13 c13 k13
  have m1 := PySem.W.mg_none_of X G z1
  have m2 := PySem.W.mg_none_of X G z2
  have m3 := PySem.W.mg_none_of X G z3
  have m4 := PySem.W.mg_none_of X G z4
  have m5 := PySem.W.mg_none_of X G z5
  have m6 := PySem.W.mg_none_of X G z6
  have m7 := PySem.W.mg_none_of X G z7
  have m8 := PySem.W.mg_none_of X G z8
  have m9 := PySem.W.mg_none_of X G z9
  have m10 := PySem.W.mg_none_of X G z10
  have m11 := PySem.W.mg_none_of X G z11
  have m12 := PySem.W.mg_none_of X G z12
  have m13 := PySem.W.mg_none_of X G z13
  have mW := PySem.W.mg_of X G aW
  refine ⟨PySem.W.fnOf "law" "law" (defArgs sLaw) (defBody sLaw) (defScope sLaw) .none kV13 dc13 pm13 an13 cd13 ct13, fun s v => .of_eq rfl, fun base _ _ => ?_⟩
  have G1 : FnOk l.prog w K mg base CX0 1 f1 _ _ spBagOf := ok_bagOf F1 m1 m2 m3
  have G2 : FnOk l.prog w K mg base CX0 2 f2 _ _ spAdded := ok_added F2 F1 b1 g1 G1 m4
  have G3 : FnOk l.prog w K mg base CX0 3 f3 _ _ spLess := ok_less F3 F2 b2 g2 G2 m1
  have G4 : FnOk l.prog w K mg base CX0 4 f4 _ _ spSum := ok_sum F4 mW
  have G4b : FnOk l.prog w K mg base CX0 4 f4 _ _ spJBag := ok_jbag F4 F2 b2 g2 G2 F3 b3 g3 G3
  have G5 : FnOk l.prog w K mg base CX0 1 f5 _ _ (spBox K) := ok_box F5 m9 m6
  have G6 : FnOk l.prog w K mg base CX0 1 f6 _ _ spTake := ok_take F6
  have G7 : FnOk l.prog w K mg base CX0 2 f7 _ _ spPool := ok_pool F7 F6 b6 g6 G6 m10 m9
  have G8 : FnOk l.prog w K mg base CX0 1 f8 _ _ spWhole := ok_whole F8 m5 m6 m7
  have G9 : FnOk l.prog w K mg base CX0 2 f9 _ _ spLBag := ok_lbag F9 F6 b6 g6 G6 m10 m9 m1 m2 m3
  have G10 : FnOk l.prog w K mg base CX0 2 f10 _ _ spIsBag := ok_isBag F10 F8 b8 g8 G8 m5 m1 m8 m9 m2 m3
  have G11 : FnOk l.prog w K mg base CX0 1 f11 _ _ spNums := ok_nums F11
  have G12 : FnOk l.prog w K mg base CX0 3 f12 _ _ spPair := ok_pair F12 F6 b6 g6 G6 F9 b9 g9 G9
  exact ok_law F13 ⟨⟨_, _, g5, k5, b5, G5⟩, ⟨_, _, g6, k6, b6, G6⟩, ⟨_, _, g7, k7, b7, G7⟩, ⟨_, _, g9, k9, b9, G9⟩, ⟨_, _, g12, k12, b12, G12⟩, ⟨_, _, g11, k11, b11, G11⟩, ⟨_, _, g8, k8, b8, G8⟩, ⟨_, _, g10, k10, b10, G10⟩, ⟨_, _, g4, k4, b4, G4, G4b⟩⟩ m10 m11 m12 m9 m13
/-- the script is locked: no box -/
theorem scr_stays {K : PySem.W.Frag} {H : Hp} {a : Addr} {xs : List V} (hO : Only H) (h : SqL K H a xs) : ∀ H' : Hp, Evo H H' → SqL K H' a xs := fun H' ev => by
  rcases h with (h | ⟨o, h⟩) | h
  · rcases hO a with e | ⟨o, ys, e⟩
    · rw [h] at e
      cases e
    · rw [h] at e
      cases e
  · exact .inl (.inr ⟨o, ev.keep h nb_frz⟩)
  · exact .inr h
end K27
open PySem PySem.W PyProof.Rows
set_option maxRecDepth 100000 in
set_option maxHeartbeats 0 in
theorem PySem.Challenge.cw_copiedhouse_k27_whole_sums_and_bags_in_a_holds : PySem.Challenge.rw_copiedhouse_k27_whole_sums_and_bags_in_a.Holds := by
  w_on; o_law; k_head; (case hw => w_witness2)
  k_fill
  refine L2.walk_of (l := PySem.Challenge.rw_copiedhouse_k27_whole_sums_and_bags_in_a) (n := 63) (k := 5) (x := "_law_script") (CX := fun _ => L2.CX0) (sp := fun w => K27.spLaw _) rfl (by decide) rfl ⟨rfl, by decide, by decide⟩ (fun w h Y => PySem.W.kIn_of Y) ?F (fun _ H a ns hl hO hS => ⟨a, ns, rfl, K27.scr_stays hO hS, fun _ => rfl⟩) (fun _ _ _ _ _ h => h)
  case F =>
    intro w mg fa h KX G hmg
    refine' K27.all_mk KX G hmg ?a1 ?l1 ?c1 ?k1 ?a2 ?l2 ?c2 ?k2 ?a3 ?l3 ?c3 ?k3 ?a4 ?l4 ?c4 ?k4 ?a5 ?l5 ?c5 ?k5 ?a6 ?l6 ?c6 ?k6 ?a7 ?l7 ?c7 ?k7 ?a8 ?l8 ?c8 ?k8 ?a9 ?l9 ?c9 ?k9 ?a10 ?l10 ?c10 ?k10 ?a11 ?l11 ?c11 ?k11 ?a12 ?l12 ?c12 ?k12 ?a13 ?l13 ?c13 ?k13 ?aW ?z1 ?z2 ?z3 ?z4 ?z5 ?z6 ?z7 ?z8 ?z9 ?z10 ?z11 ?z12 ?z13
    (case a1 => k_is); (case l1 => k_is); (case c1 => k_is); (case k1 => k_is); (case a2 => k_is); (case l2 => k_is); (case c2 => k_is); (case k2 => k_is)
    (case a3 => k_is); (case l3 => k_is); (case c3 => k_is); (case k3 => k_is); (case a4 => k_is); (case l4 => k_is); (case c4 => k_is); (case k4 => k_is)
    (case a5 => k_is); (case l5 => k_is); (case c5 => k_is); (case k5 => k_is); (case a6 => k_is); (case l6 => k_is); (case c6 => k_is); (case k6 => k_is)
    (case a7 => k_is); (case l7 => k_is); (case c7 => k_is); (case k7 => k_is); (case a8 => k_is); (case l8 => k_is); (case c8 => k_is); (case k8 => k_is)
    (case a9 => k_is); (case l9 => k_is); (case c9 => k_is); (case k9 => k_is); (case a10 => k_is); (case l10 => k_is); (case c10 => k_is); (case k10 => k_is)
    (case a11 => k_is); (case l11 => k_is); (case c11 => k_is); (case k11 => k_is); (case a12 => k_is); (case l12 => k_is); (case c12 => k_is); (case k12 => k_is)
    (case a13 => k_is); (case l13 => k_is); (case c13 => k_is); (case k13 => k_is); (case aW => k_is); (case z1 => k_is); (case z2 => k_is); (case z3 => k_is)
    (case z4 => k_is); (case z5 => k_is); (case z6 => k_is); (case z7 => k_is); (case z8 => k_is); (case z9 => k_is); (case z10 => k_is); (case z11 => k_is)
    (case z12 => k_is); (case z13 => k_is)
