import PyProof.Rows.All
import Wide.All
import OpenK.AllK
import Wide.FinOn
import HandS.ForMost
import HandS.Star
import HandS.Property
import HandS.DictComp
import HandS.Style
import HandS.Deep
import HandS.IsInst
import HandS.ClsMeth
import HandS.Defaults
import KE.KDictKeyed
import KE.SortData
import HandS.Codes
import PySem.Challenge.RW_quietdoors_k76_whole_meeting_both_ways
set_option Elab.async false
set_option linter.all false
set_option maxRecDepth 100000
set_option maxHeartbeats 4000000
/-! Rules that the layer lacks: dicts with nested keys, sorted of pairs (text, int), in of a tuple, an own + and len, a static method, a class called with a star. -/
namespace QD
open PySem PySem.Spec PyProof.Rows L2

/-- a nested key (i, (p, n)) -/
abbrev NKy := Int × Str × Int
def nkOf (k : NKy) : NestedKey := .tup [.num k.1, .tup [.text k.2.1, .num k.2.2]]
theorem nkOf_inj {a b : NKy} (h : nkOf a = nkOf b) : a = b := by
  obtain ⟨a1, a2, a3⟩ := a
  obtain ⟨b1, b2, b3⟩ := b
  simp only [nkOf, NestedKey.tup.injEq, List.cons.injEq, NestedKey.num.injEq, NestedKey.text.injEq, and_true] at h
  obtain ⟨rfl, rfl, rfl⟩ := h
  rfl
/-- at b stands the tuple (i, t), at t the tuple (p, n) -/
def NIs (K : PySem.W.Frag) (H : Hp) (b : Addr) (k : NKy) : Prop := ∃ t, SqT K H b [.int k.1, .ref t] ∧ SqT K H t [.str k.2.1, .int k.2.2]
theorem nis_is {X : Cx} {pins : List (Addr × Obj)} {σ : L2.St} {H : Hp} {s : Shared} {b : Addr} {k : NKy} (I : Inv X pins σ H s) (h : NIs X.K H b k) : (nestedKind X.prog X.w).is s.heap (nkOf k) b := by
  obtain ⟨t, h1, h2⟩ := h
  obtain ⟨its, r, ⟨o, ho, hc, n, hd⟩, _⟩ := I.tuple h1
  obtain ⟨its2, r2, ⟨o2, ho2, hc2, n2, hd2⟩, _⟩ := I.tuple h2
  obtain ⟨u1, u2, rfl, ⟨t1, rfl⟩, q⟩ := vals2 r
  obtain rfl : u2 = Value.ref t := q
  obtain ⟨u3, u4, rfl, ⟨t3, rfl⟩, ⟨t4, rfl⟩⟩ := vals2 r2
  exact ⟨.tup ho hc hd (.cons (.int _ _) (.cons (.tup ho2 hc2 hd2 (.cons (.text _ _) (.cons (.int _ _) .nil))) .nil)), by simp [nkOf, NestedKey.depth, NestedKey.depthAll]⟩

def NRel (p : NKy × Addr × V) (q : NestedKey × Addr × Value) : Prop := q.1 = nkOf p.1 ∧ q.2.1 = p.2.1 ∧ RelV p.2.2 q.2.2
/-- the dict at d holds the entries kvs (key, its tuple's place, value) -/
def NDict (P : Program) (w : World) (d : Addr) (kvs : List (NKy × Addr × V)) (h : Heap) : Prop :=
  kvs.length ≤ sizeLine ∧ (d == sysModules) = false ∧ ∃ xs : List (NestedKey × Addr × Value), Paired NRel kvs xs ∧
    ∃ o es ep, h.get? d = some o ∧ o.ExactDict ∧ o.data = .dict es ep ∧ es.toList = xs.map (entryOfKey (nestedKind P w)) ∧ (xs.map (·.1)).Nodup
abbrev ND (P : Program) (w : World) (d : Addr) (kvs : List (NKy × Addr × V)) : HO := .ext (NDict P w d kvs)
theorem nd_ok {P : Program} {w : World} {d : Addr} {kvs : List (NKy × Addr × V)} {h : Heap} {H : Hp} (x : NDict P w d kvs h) : ObjOk P w H h d (ND P w d kvs) := by
  refine ⟨x, ?_, fun h1 h2 y k => ?_⟩
  · obtain ⟨_, _, _, _, o, _, _, e, _⟩ := x
    exact ⟨o, e⟩
  · obtain ⟨a, b, xs, r, o, es, ep, e, z⟩ := y
    exact ⟨a, b, xs, r, o, es, ep, k o e, z⟩
def valN (kvs : List (NKy × Addr × V)) (k : NKy) : Option V := (kvs.find? fun p => decide (p.1 = k)).map (·.2.2)
theorem valN_cons (p : NKy × Addr × V) (r : List (NKy × Addr × V)) (k : NKy) : valN (p :: r) k = if p.1 = k then some p.2.2 else valN r k := by
  unfold valN
  rw [List.find?_cons]
  by_cases h : p.1 = k
  · rw [if_pos h, decide_eq_true h] <;> rfl
  · rw [if_neg h, decide_eq_false h] <;> rfl
theorem atKey_cons {κ : Type} [DecidableEq κ] (p : κ × Addr × Value) (r : List (κ × Addr × Value)) (k : κ) : atKey (p :: r) k = if p.1 = k then some p.2 else atKey r k := by
  unfold atKey
  rw [List.find?_cons]
  by_cases h : p.1 = k
  · rw [if_pos h, decide_eq_true h] <;> rfl
  · rw [if_neg h, decide_eq_false h] <;> rfl
theorem nd_none {kvs : List (NKy × Addr × V)} {xs : List (NestedKey × Addr × Value)} (r : Paired NRel kvs xs) {k : NKy} (h : valN kvs k = none) : atKey xs (nkOf k) = none := by
  induction r with
  | nil => rfl
  | @cons p q ps qs h1 t ih =>
    rw [valN_cons] at h
    rw [atKey_cons]
    by_cases e : p.1 = k
    · rw [if_pos e] at h; cases h
    · rw [if_neg e] at h
      rw [if_neg (fun z => e (nkOf_inj (h1.1.symm.trans z)))]
      exact ih h
theorem nd_some {kvs : List (NKy × Addr × V)} {xs : List (NestedKey × Addr × Value)} (r : Paired NRel kvs xs) {k : NKy} {v : V} (h : valN kvs k = some v) : ∃ q, atKey xs (nkOf k) = some q ∧ RelV v q.2 := by
  induction r with
  | nil => cases h
  | @cons p q ps qs h1 t ih =>
    rw [valN_cons] at h
    rw [atKey_cons]
    by_cases e : p.1 = k
    · rw [if_pos e] at h
      cases h
      rw [if_pos (by rw [h1.1, e])]
      exact ⟨_, rfl, h1.2.2⟩
    · rw [if_neg e] at h
      rw [if_neg (fun z => e (nkOf_inj (h1.1.symm.trans z)))]
      exact ih h
section
variable {X : Cx} {pins : List (Addr × Obj)} {σ : L2.St} {H : Hp} {s : Shared} {d b : Addr} {k : NKy} {kvs : List (NKy × Addr × V)} {A : Around} {E : Value → Shared → Prop}
theorem nd_dict (I : Inv X pins σ H s) (e : H d = some (ND X.prog X.w d kvs)) (hk : ∀ p ∈ kvs, NIs X.K H p.2.1 p.1) :
    ∃ xs, Paired NRel kvs xs ∧ s.heap.DictOfH (nestedKind X.prog X.w) d xs ∧ kvs.length ≤ sizeLine ∧ (d == sysModules) = false := by
  obtain ⟨⟨z, y, xs, r, o, es, ep, h1, h2, h3, h4, h5⟩, _, _⟩ := (show ObjOk X.prog X.w H s.heap d (ND X.prog X.w d kvs) from I.hok d _ e)
  refine ⟨xs, r, ⟨o, es, ep, h1, h2, h3, h4, fun x hx => ?_, h5⟩, z, y⟩
  have all : ∀ {l : List (NKy × Addr × V)} {m : List (NestedKey × Addr × Value)}, Paired NRel l m → (∀ p ∈ l, NIs X.K H p.2.1 p.1) → ∀ x ∈ m, (nestedKind X.prog X.w).is s.heap x.1 x.2.1 := by
    intro l m q
    induction q with
    | nil => intro _ x hx; exact nomatch hx
    | @cons p q ps qs hq t ih =>
      intro hl x hx
      rcases List.mem_cons.mp hx with e | hx
      · subst e
        rw [hq.1, hq.2.1]
        exact nis_is I (hl p List.mem_cons_self)
      · exact ih (fun p hp => hl p (List.mem_cons_of_mem _ hp)) x hx
  exact all r hk x hx
theorem room_n (hu : A.units + 9 < cLine) : (nestedKind X.prog X.w).room A.in1 := by
  show A.units + 1 + 8 < cLine
  omega
theorem n_getItem {v : V} {Q : Value → Shared → Prop} (hu : A.units + 9 < cLine) (I : Inv X pins σ H s) (e : H d = some (ND X.prog X.w d kvs)) (hk : ∀ p ∈ kvs, NIs X.K H p.2.1 p.1) (hb : NIs X.K H b k) (l : valN kvs k = some v)
    (h : ∀ w' s', Inv X pins σ H s' → RelV v w' → Q w' s') : wpAny (model X.prog X.w) A (getItem (.ref d) (.ref b)) Q E s := by
  obtain ⟨xs, r, dd, z, y⟩ := nd_dict I e hk
  obtain ⟨q, hq, rq⟩ := nd_some r l
  exact wpAny_getItem_heap (room_n (X := X) hu) (nis_is I hb) dd hq (h _ _ (I.tok _) rq)
theorem n_notIn {Q : Value → Shared → Prop} (hu : A.units + 9 < cLine) (I : Inv X pins σ H s) (e : H d = some (ND X.prog X.w d kvs)) (hk : ∀ p ∈ kvs, NIs X.K H p.2.1 p.1) (hb : NIs X.K H b k)
    (h : ∀ s', Inv X pins σ H s' → Q (.bool (!(valN kvs k).isSome)) s') : wpAny (model X.prog X.w) A (compareOp .NotIn (.ref b) (.ref d)) Q E s := by
  obtain ⟨xs, r, dd, z, y⟩ := nd_dict I e hk
  refine wpAny_notIn_heap (room_n (X := X) hu) (nis_is I hb) y dd ?_
  have q : (atKey xs (nkOf k)).isSome = (valN kvs k).isSome := by
    cases hv : valN kvs k with
    | none => rw [nd_none r hv] <;> rfl
    | some v =>
      obtain ⟨q, hq, _⟩ := nd_some r hv
      rw [hq] <;> rfl
  rw [q]
  exact h _ (I.tok _)
theorem n_setItem {v : V} {u : Value} {Q : Unit → Shared → Prop} (hu : A.units + 9 < cLine) (I : Inv X pins σ H s) (e : H d = some (ND X.prog X.w d kvs)) (hk : ∀ p ∈ kvs, NIs X.K H p.2.1 p.1) (hb : NIs X.K H b k) (l : valN kvs k = none) (hz : kvs.length < sizeLine)
    (rv : RelV v u) (h : ∀ s', Inv X pins σ (upd H d (ND X.prog X.w d (kvs ++ [(k, b, v)]))) s' → Q () s') : wpAny (model X.prog X.w) A (setItem (.ref d) (.ref b) u) Q E s := by
  obtain ⟨xs, r, dd, z, y⟩ := nd_dict I e hk
  have hz2 : xs.length ≤ sizeLine := by rw [← Paired.length r]; exact z
  refine wpAny_setItem_heap (hsz := hz2) (room_n (X := X) hu) (nis_is I hb) dd fun h' dd' hs => h _ ?_
  obtain ⟨q, es, ep, hq, h2, h3, h4, _, h5⟩ := dd'
  rw [storedH_new (nd_none r l)] at h4 h5
  refine d_write I (by rw [e]; exact True.intro) hs ⟨q, hq⟩ (nd_ok ⟨?_, y, _, Paired.snoc r ⟨rfl, rfl, rv⟩, q, es, ep, hq, h2, h3, h4, h5⟩)
  rw [List.length_append, List.length_singleton]
  omega
theorem nd_typeIs (I : Inv X pins σ H s) (e : H d = some (ND X.prog X.w d kvs)) : s.TypeIs (.ref d) "dict" := by
  obtain ⟨⟨z, y, xs, r, o, es, ep, h1, h2, _⟩, _, _⟩ := (show ObjOk X.prog X.w H s.heap d (ND X.prog X.w d kvs) from I.hok d _ e)
  exact ⟨o, h1, h2.1⟩
end
section
variable {X : Cx} {o i value : Expr} {ty td tv : TE} {pos pos' : Pos}
theorem pe_dnewN : PE X (.Dict [] [] pos) (fun _ H Q => ∀ p, H p = none → Q (.ref p) (upd H p (ND X.prog X.w p []))) := ⟨fun pins s σ H Q I h =>
  wpAny_Dict_empty ⟨.ref s.heap.objs.size, _, I.laid (a := s.heap.objs.size) (o := ND X.prog X.w s.heap.objs.size []) (t' := s.toks) (fun _ _ q => Heap.get?_push_of_some _ q) (Nat.le_refl _)
    (nd_ok ⟨Nat.zero_le _, beq_eq_false_iff_ne.mpr (Ne.symm (Nat.ne_of_lt I.big)), [], .nil, _, #[], 0, Heap.get?_push_size _ rfl, ⟨rfl, rfl, rfl⟩, rfl, rfl, List.nodup_nil⟩), rfl, h _ (I.hok.fresh (Nat.le_refl _))⟩⟩
theorem pc_nnotin (hu : X.A.units + 9 < cLine) (hi : PE X i ty) (ho : PE X o td) : PC X .NotIn i o (fun σ H Q => ty σ H fun y H1 => td σ H1 fun x H2 => ∃ d kvs b k, x = .ref d ∧ H2 d = some (ND X.prog X.w d kvs) ∧ (∀ p ∈ kvs, NIs X.K H2 p.2.1 p.1) ∧ y = .ref b ∧ NIs X.K H2 b k ∧ Q (.bl (!(valN kvs k).isSome)) H2) := by
  refine ⟨fun pins s σ H Q I h => ?_⟩
  refine thn (hi.run pins s σ H _ I h) fun iv s1 ⟨y, H1, I1, ry, q1⟩ => thn (ho.run pins s1 σ H1 _ I1 q1) fun u s2 ⟨x, H2, I2, rx, d, kvs, b, k, ex, e, hk, ey, hb, q2⟩ => ?_
  subst ex ey
  obtain rfl : u = Value.ref d := rx
  obtain rfl : iv = Value.ref b := ry
  exact n_notIn hu I2 e hk hb fun s3 I3 => ⟨.bl _, H2, I3, rfl, q2⟩
theorem pe_nget (hu : X.A.units + 9 < cLine) (ho : PE X o td) (hi : PE X i ty) (hs : NoSl i) : PE X (.Subscript o i pos) (fun σ H Q => td σ H fun x H1 => ty σ H1 fun y H2 => ∃ d kvs b k v, x = .ref d ∧ H2 d = some (ND X.prog X.w d kvs) ∧ (∀ p ∈ kvs, NIs X.K H2 p.2.1 p.1) ∧ y = .ref b ∧ NIs X.K H2 b k ∧ valN kvs k = some v ∧ Q v H2) := by
  refine ⟨fun pins s σ H Q I h => ?_⟩
  refine subD_of PySem.F.slot_dict_getitem.lookup hs (thn (ho.run pins s σ H _ I h) fun u s1 ⟨x, H1, I1, rx, q1⟩ => thn (hi.run pins s1 σ H1 _ I1 q1) fun iv s2 ⟨y, H2, I2, ry, d, kvs, b, k, v, ex, e, hk, ey, hb, l, q2⟩ => ?_)
  subst ex ey
  obtain rfl : u = Value.ref d := rx
  obtain rfl : iv = Value.ref b := ry
  exact ⟨nd_typeIs I2 e, n_getItem hu I2 e hk hb l fun w' s3 I3 rw' => ⟨v, H2, I3, rw', q2⟩⟩
theorem ps_nput (hu : X.A.units + 9 < cLine) (ho : PE X o td) (hi : PE X i ty) (hv : PE X value tv) (hs : swapsWith value (some (.Subscript o i pos')) pos.line X.env = pure false) :
    PS X (.Assign [.Subscript o i pos'] value pos) (fun D σ H => tv σ H fun v H1 => td σ H1 fun x H2 => ty σ H2 fun y H3 => ∃ d kvs b k, x = .ref d ∧ H3 d = some (ND X.prog X.w d kvs) ∧ (∀ p ∈ kvs, NIs X.K H3 p.2.1 p.1) ∧ y = .ref b ∧ NIs X.K H3 b k ∧ valN kvs k = none ∧ kvs.length < sizeLine ∧ D.nx σ (upd H3 d (ND X.prog X.w d (kvs ++ [(k, b, v)])))) := by
  refine ⟨fun pins s σ H D I h => ?_⟩
  refine wpAny_Assign_Subscript (thn (hv.run pins s σ H _ I h) fun r s1 ⟨v, H1, I1, rv, q1⟩ => thn (ho.run pins s1 σ H1 _ I1 q1) fun u s2 ⟨x, H2, I2, rx, q2⟩ => thn (hi.run pins s2 σ H2 _ I2 q2) fun iv s3 ⟨y, H3, I3, ry, d, kvs, b, k, ex, e, hk, ey, hb, l, hz, q3⟩ => ?_) hs
  subst ex ey
  obtain rfl : u = Value.ref d := rx
  obtain rfl : iv = Value.ref b := ry
  exact n_setItem hu I3 e hk hb l hz rv fun s4 I4 => ⟨σ, _, I4, q3⟩
end

/-! ### sorted of pairs (p, n), one p -/
theorem each_refs : ∀ {bs : List (Addr × Nat)} {its : List Value}, Vals (bs.map fun b => V.ref b.1) its → PySem.W.EachIs (fun v (b : Addr × Nat) => v = Value.ref b.1) its bs
  | [], _, r => by cases r; exact .nil
  | b :: bs, _, r => by
    rw [List.map_cons] at r
    cases r with
    | cons r1 r2 => exact .cons r1 (each_refs r2)
theorem refs_each : ∀ {bs : List (Addr × Nat)} {its : List Value}, PySem.W.EachIs (fun v (b : Addr × Nat) => v = Value.ref b.1) its bs → Vals (bs.map fun b => V.ref b.1) its
  | _, _, .nil => .nil
  | _, _, .cons h t => .cons h (refs_each t)
theorem each_imp {R S : Value → (Addr × Nat) → Prop} : ∀ {bs : List (Addr × Nat)} {its : List Value}, PySem.W.EachIs R its bs → (∀ v b, b ∈ bs → R v b → S v b) → PySem.W.EachIs S its bs
  | _, _, .nil, _ => .nil
  | _, _, .cons h t, f => .cons (f _ _ List.mem_cons_self h) (each_imp t fun v b hb => f v b (List.mem_cons_of_mem _ hb))
theorem le_pair (p : Str) : PySem.W.dataLe false (fun b : Addr × Nat => PyData.tuple [.str p, .int (b.2 : Int)]) = fun x y => decide (x.2 ≤ y.2) := by
  funext x y
  show (!PySem.W.dataLt (.tuple [.str p, .int (y.2 : Int)]) (.tuple [.str p, .int (x.2 : Int)])) = _
  rw [PySem.W.dataLt_pair (by simp [PySem.W.alike]) (by simp [PySem.W.alike]), PySem.W.dataLt_int]
  simp only [PyData.eqv, beq_self_eq_true, if_true, beq_iff_eq]
  by_cases h : (y.2 : Int) = (x.2 : Int)
  · rw [if_pos h]
    have h2 : x.2 ≤ y.2 := by omega
    simp [h2]
  · rw [if_neg h]
    by_cases h2 : x.2 ≤ y.2
    · have h3 : ¬ ((y.2 : Int) < (x.2 : Int)) := by omega
      simp [h2, h3]
    · have h3 : ((y.2 : Int) < (x.2 : Int)) := by omega
      simp [h2, h3]
def leN : Addr × Nat → Addr × Nat → Bool := fun x y => decide (x.2 ≤ y.2)
def rSortAd (K : PySem.W.Frag) : List V → Hp → VK → Prop := fun vs H Q => ∃ (a : Addr) (bs : List (Addr × Nat)) (p : Str), vs = [V.ref a] ∧ SqL K H a (bs.map fun b => V.ref b.1) ∧ (∀ b ∈ bs, SqT K H b.1 [.str p, .int (b.2 : Int)]) ∧
  ∀ q, H q = none → Q (.ref q) (upd H q (.lst ((bs.mergeSort leN).map fun b => V.ref b.1)))
theorem cr_sortAd {X : Cx} (hu : X.A.units + 64 < cLine) : CallR X (.builtin "sorted") (rSortAd X.K) := by
  intro pins s σ H vs us Q I r h
  obtain ⟨a, bs, p, rfl, hs, hb, q⟩ := h
  obtain ⟨its, rv, pl, hl⟩ := I.list hs
  rw [List.length_map] at hl
  rw [Vals.ref1 r]
  have e := each_refs rv
  refine PySem.W.sorted_data (R := fun v (b : Addr × Nat) => v = Value.ref b.1) (enc := fun b => PyData.tuple [.str p, .int (b.2 : Int)]) (bs := bs) pl.isList e
    (each_imp e fun v b hb' ev => ?_) (PySem.W.AllAlike.of fun _ _ => by simp [PySem.W.alike, PySem.W.alikeAll]) (PySem.W.Sortable.tuples fun b => ⟨_, _, rfl⟩) hl (fun b _ => ?_) fun out ho eo => ?_
  · subst ev
    exact Dp.reads I _ (V.ref b.1) _ (.tup (hb b hb') (.cons (.str _) (.cons (.int _) .nil))) rfl
  · simp only [PyData.depth, PyData.depthAll]
    have : max 0 (max 0 0) + 1 = 1 := rfl
    omega
  · rw [le_pair] at eo
    obtain ⟨ep, he'⟩ := PyProof.Rows.sortedAll_at s.heap its out.toArray
    have hlen : ((bs.mergeSort leN).map fun b => V.ref b.1).length ≤ sizeLine := by rw [List.length_map, List.length_mergeSort]; exact hl
    refine ⟨.ref _, upd H (s.heap.objs.size + 1) (.lst ((bs.mergeSort leN).map fun b => V.ref b.1)), I.laid (t' := s.toks) (fun _ _ => PyProof.Rows.sortedAll_old) (Nat.le_succ _) ⟨hlen, out, ep, refs_each eo, ?_⟩, rfl, q _ (I.hok.fresh (Nat.le_succ _))⟩
    exact he'
/-! ### x not in a tuple of data -/
def rNotInT (K : PySem.W.Frag) : R2 := fun x y H Q => ∃ d ds, Dp K H x d ∧ Dp K H y (.tuple ds) ∧ SeqAt.shaped d = true ∧ SeqAt.shaped (.tuple ds) = true ∧ Q (.bl (!ds.any fun z => PyData.eqv z d)) H
theorem op_notInT {X : Cx} (hu : X.A.units + 65 < cLine) : OpR X (compareOp .NotIn) (rNotInT X.K) := by
  intro pins s σ H x y v u Q I rx ry h
  obtain ⟨d, ds, hd, he, sd, se, q⟩ := h
  obtain ⟨as, r1⟩ := Dp.reads I d x v hd rx
  obtain ⟨bs, r2⟩ := Dp.reads I (.tuple ds) y u he ry
  exact SeqAt.notIn_tuple_reads r2 r1 (SeqAt.canLay_of_shaped se) (SeqAt.canLay_of_shaped sd) (room_in_shaped sd hu) ⟨.bl _, H, I, rfl, q⟩

/-! ### an own + and an own len -/
theorem inst_at {X : Cx} {pins : List (Addr × Obj)} {σ : L2.St} {H : Hp} {s : Shared} {a C dx : Addr} {fs : List (Str × V)} (I : Inv X pins σ H s) (e : H a = some (.ins C dx fs)) : ∃ od, PySem.W.InstAt s.heap a (PySem.W.instObj C dx) C (some od) := by
  obtain ⟨mA, O, _⟩ := ins_get I.hok e
  obtain ⟨od, J, _⟩ := O.look
  exact ⟨od, J⟩
theorem relV_cmp {v : V} {u : Value} {Q : Value → Shared → Prop} {s : Shared} (r : RelV v u) (q : Q u s) : PySem.W.CmpBack Q u s := by
  cases v with
  | non => cases (show u = Value.none from r); exact q
  | bl b => cases (show u = Value.bool b from r); exact q
  | int i => obtain ⟨t, e⟩ := (show ∃ t, u = Value.int i t from r); cases e; exact q
  | str x => obtain ⟨t, e⟩ := (show ∃ t, u = Value.str x t from r); cases e; exact q
  | byt b => obtain ⟨t, e⟩ := (show ∃ t, u = Value.bytes b t from r); cases e; exact q
  | flt b => obtain ⟨t, e⟩ := (show ∃ t, u = Value.float b t from r); cases e; exact q
  | ref a => cases (show u = Value.ref a from r); exact q
  | ty n => cases (show u = Value.type n from r); exact q
def rAddOwn (C : Addr) (sp : Sp) : R2 := fun x y H Q => ∃ p q dx dy fs gs, x = .ref p ∧ y = .ref q ∧ H p = some (.ins C dx fs) ∧ H q = some (.ins C dy gs) ∧ sp [.ref p, .ref q] H Q E0
theorem op_addOwn {X : Cx} {k : Nat} {C f : Addr} {fd : FuncData} {sp : Sp} (F : FnOk X.prog X.w X.K X.mg X.base CX0 k f fd ["self", "other"] sp) (hr : Room k X.A) (hb : Binds X.K fd ["self", "other"] []) (hc : PySem.W.selfFirst X.K C = true)
    (hs : PySem.W.findIn X.K (.ref C) "__add__" = some (some (.ref f))) (hf : PySem.W.isFn X.K (.ref f) = true) : OpR X (binaryOp .Add) (rAddOwn C sp) := by
  intro pins s σ H x y v u Q I rx ry h
  obtain ⟨p, q, dx, dy, fs, gs, rfl, rfl, ep, eq, h⟩ := h
  obtain rfl : v = Value.ref p := rx
  obtain rfl : u = Value.ref q := ry
  obtain ⟨m, hfr⟩ := I.fr
  obtain ⟨od, J⟩ := inst_at I ep
  obtain ⟨od2, J2⟩ := inst_at I eq
  refine PySem.W.binop_K hfr I.mod.kin J J2.type hc hs hf (thn (run_fn (us := [.ref p, .ref q]) (vs := [.ref p, .ref q]) F hr hb .nil pass0 I (.cons rfl (.cons rfl .nil)) h) fun r s' ⟨v, H', I', rv, qv⟩ => ?_)
  exact relV_cmp rv ⟨v, H', I', rv, qv⟩
def rLenOwn (C : Addr) (sp : Sp) : List V → Hp → VK → Prop := fun xs H Q => ∃ a dx fs, xs = [.ref a] ∧ H a = some (.ins C dx fs) ∧ sp [.ref a] H (fun v H' => ∃ n : Nat, v = .int (n : Int) ∧ n < 2 ^ 63 ∧ Q (.int (n : Int)) H') E0
theorem cr_lenOwn {X : Cx} {k : Nat} {C f : Addr} {fd : FuncData} {sp : Sp} (F : FnOk X.prog X.w X.K X.mg X.base CX0 k f fd ["self"] sp) (hr : Room (k + 1) X.A) (hb : Binds X.K fd ["self"] [])
    (hs : PySem.W.findIn X.K (.ref C) "__len__" = some (some (.ref f))) (hf : PySem.W.isFn X.K (.ref f) = true) : CallR X (.builtin "len") (rLenOwn C sp) := by
  intro pins s σ H xs us Q I r h
  obtain ⟨a, dx, fs, rfl, ea, h⟩ := h
  rw [Vals.ref1 r]
  obtain ⟨m, hfr⟩ := I.fr
  obtain ⟨od, J⟩ := inst_at I ea
  refine PySem.W.len_K hfr I.mod.kin J hs hf (wpAny_call ?_)
  have hl : ([Value.ref a] ++ ([] : List Value)).length = ["self"].length := rfl
  refine codeAny_mono (F.run X.A.in1 X.stack s H ⟨[.ref a], []⟩ [.ref a] [.ref a] _ E0 hr.in1 I.env0.in1 (hb s [.ref a] I.kIn hl) (.cons rfl .nil) h) fun r s' hq => ?_
  cases r with
  | error e => exact False.elim hq
  | ok fl =>
    cases fl with
    | ret u =>
      obtain ⟨v, H', I3, rv, n, ev, hn, q3⟩ := I.after hq
      subst ev
      obtain ⟨t, rfl⟩ := rv
      exact ⟨⟨Int.natCast_nonneg _, by omega⟩, .int n, H', I3.tok _, ⟨_, rfl⟩, q3⟩
    | next => exact False.elim hq
    | brk => exact False.elim hq
    | cont => exact False.elim hq

/-! ### C.m() of a staticmethod; C(*y) -/
structure SMet (K : PySem.W.Frag) (C : Addr) (mc : Value) (m : Str) (g : Addr) : Prop where
  rd : PySem.W.readsIn K C mc = true
  ga : PySem.W.specialIn K (.ref C) "__getattribute__" = some (some (.builtin "type.__getattribute__"))
  at_ : ∃ p : Addr, PySem.W.findCls K (.ref C) mc m = some (.get (.builtin "staticmethod.__get__") (.ref p) .none (.ref C)) ∧ ∃ rest, PySem.W.recIn K p "staticmethod" = some (.ref g :: rest)
  kp : PySem.W.keepIn K (.ref g) = true
def tSMeth (C : Addr) (sp : Sp) (ta : TE) : TE := fun σ H Q => ta σ H fun x H1 => x = .ref C ∧ sp [] H1 Q E0
theorem pe_smeth0 {X : Cx} {k : Nat} {C g : Addr} {mc : Value} {fd : FuncData} {sp : Sp} {o : Expr} {m : Str} {pos apos : Pos} {ta : TE} {pl : Sem Bool} (he : PE X o ta) (c : SMet X.K C mc m g) (F : FnOk X.prog X.w X.K X.mg X.base CX0 k g fd [] sp) (hr : Room k X.A) (hb : Binds X.K fd [] [])
    (ht : eval (.Call (.Attribute o m apos) [] [] pos) X.env = (do
      let ov ← eval o X.env
      standAt apos.atName
      let (f, first) ← holding [ov] (getMethod ov m pl)
      callWith pos f first (backTo pos (starEach [] X.env)) (backToKw pos (keywordEach [] X.env))) := by rfl) :
    PE X (.Call (.Attribute o m apos) [] [] pos) (tSMeth C sp ta) := by
  refine ⟨fun pins s σ H Q I h => ?_⟩
  refine PySem.W.methodCall_KW (pl := pl) (thn (he.run pins s σ H _ I h) fun u s1 ⟨x, H1, I1, rx, ex, q⟩ => ?_) ht
  subst ex
  obtain rfl : u = Value.ref C := rx
  obtain ⟨p, h1, rest, h2⟩ := c.at_
  refine PySem.W.method_cls I1.kIn c.ga (PySem.W.cls_bind I1.kIn c.rd h1 (wpAny_call (PySem.W.sm_get (s := { s1 with toks := s1.toks + 1 }) I1.kIn h2 (PySem.W.handed_on rfl ?_))))
  have I2 := I1.tok (s1.toks + 1)
  exact PySem.W.callWith_K0 (first := []) I2.kIn c.kp (run_fn (us := []) (vs := []) F hr hb .nil pass0 I2 .nil q)
theorem pe_makeStar {X : Cx} {k : Nat} {f C : Addr} {sp : Sp} {x : Str} {e : Expr} {te : TE} {p pos sp_ : Pos} (M : Mk X.K C f) (F : FnR X.prog X.w X.K X.mg X.base CX0 k f sp) (hr : Room (k + 1) X.A) (hg : Gl X x) (hm : X.mg x = some (.ref C)) (he : PE X e te) (hdb : (x == ("__debug__" : Str)) = false := by decide)
    (hst : starEach [.Starred e sp_] X.env = [(true, eval e X.env)] := by rfl) :
    PE X (.Call (.Name x p) [.Starred e sp_] [] pos) (fun σ H Q => te σ H fun y H1 => ∃ a xs, y = V.ref a ∧ (SqT X.K H1 a xs ∨ SqL X.K H1 a xs) ∧ ∀ x dx, H1 x = Option.none → H1 dx = Option.none → dx ≠ x →
      sp (V.ref x :: xs) (upd (upd H1 dx (.own x)) x (.ins C dx [])) (fun v H2 => v = .non ∧ Q (.ref x) H2) E0) := by
  refine ⟨fun pins s σ H Q I h => ?_⟩
  refine wpAny_Call_Name_kw (ld_glob I hg hm ?_ hdb)
  refine PySem.W.callWith_S (h₀ := X.base) I.ok.mod.kin M.kp (thn (he.run pins s σ H _ I h) fun v s1 ⟨y, H1, I1, ry, a, xs, ey, hxs, q⟩ => ?_) hst
  subst ey
  obtain rfl : v = Value.ref a := ry
  exact StX.star_any I1 hxs fun us s2 I2 rv => ⟨I2.kIn, StX.run_makeR M F hr pass0 I2 rv q⟩
end QD
namespace QM
/-- a door: gives each?, lets (0 any, 1 house, 2 door) -/
structure Dr where
  each : Bool
  lets : Nat
/-- an address: place (0 house, 1 x, 2 y), number -/
abbrev Ad := Nat × Nat
def adEq (a b : Ad) : Bool := Nat.beq a.1 b.1 && Nat.beq a.2 b.2
/-- an entry of a passage: the inner number, the key's address, what was sent to -/
structure En where
  inner : Nat
  key : Ad
  to : List Ad
structure Pm where
  d : Dr
  es : List En
def hasAd (a : Ad) : List Ad → Bool
  | [] => false
  | b :: r => adEq b a || hasAd a r
def hasPl (p : Nat) : List Ad → Bool
  | [] => false
  | b :: r => Nat.beq b.1 p || hasPl p r
def enIx (i : Nat) (k : Ad) : List En → Nat → Option Nat
  | [], _ => none
  | e :: r, n => if Nat.beq e.inner i && adEq e.key k then some n else enIx i k r (n + 1)
def atE : List En → Nat → Option En
  | [], _ => none
  | e :: _, 0 => some e
  | _ :: r, n + 1 => atE r n
def setTo : List En → Nat → List Ad → List En
  | [], _, _ => []
  | e :: r, 0, t => ⟨e.inner, e.key, t⟩ :: r
  | e :: r, n + 1, t => e :: setTo r n t
def keyOf (d : Dr) (a : Ad) : Ad := if d.each then a else (0, 0)
/-- note that something was sent through entry n -/
def noteE (es : List En) (n : Nat) (a : Ad) : Option (List En) :=
  match atE es n with
  | none => none
  | some e => if hasAd a e.to then some es else if Nat.ble e.to.length 1000 then some (setTo es n (e.to ++ [a])) else none
def sentP (p : Pm) (i : Nat) (a : Ad) : Option (Pm × Nat) :=
  match enIx i (keyOf p.d a) p.es 0 with
  | some n => (noteE p.es n a).map fun es => (⟨p.d, es⟩, n)
  | none => if Nat.ble p.es.length 1000 then (noteE (p.es ++ [⟨i, keyOf p.d a, []⟩]) p.es.length a).map fun es => (⟨p.d, es⟩, p.es.length) else none
def cameP (p : Pm) (n : Nat) (a : Ad) : Option Nat :=
  match atE p.es n with
  | none => none
  | some e => if Nat.beq p.d.lets 1 && !hasPl a.1 e.to then none else if Nat.beq p.d.lets 2 && !hasAd a e.to then none else some e.inner
def sentL : List Pm → Nat → Ad → Option (List Pm × Nat)
  | [], i, _ => some ([], i)
  | p :: r, i, a => match sentP p i a with
    | none => none
    | some (p', n) => match sentL r n a with
      | none => none
      | some (r', k) => some (p' :: r', k)
/-- the passages from the last on -/
def inL : List Pm → Nat → Ad → Bool
  | [], _, _ => true
  | p :: r, n, a => match cameP p n a with
    | none => false
    | some i => inL r i a
structure Sd where
  ps : List Pm
  ad : List Nat
  hd : Bool
def hasN (n : Nat) : List Nat → Bool
  | [] => false
  | m :: r => Nat.beq m n || hasN n r
def ins (n : Nat) : List Nat → List Nat
  | [] => [n]
  | m :: r => if Nat.ble n m then n :: m :: r else m :: ins n r
def sortN : List Nat → List Nat
  | [] => []
  | n :: r => ins n (sortN r)
structure Mt where
  x : Sd
  y : Sd
  n : Nat
  st : Bool
def mkSd (ds : List Dr) : Sd := ⟨ds.map fun d => ⟨d, []⟩, [], false⟩
def sentS (s : Sd) (a : Ad) : Option (Sd × Nat) := match sentL s.ps 0 a with
  | none => none
  | some (ps, n) => some (⟨ps, s.ad, s.hd⟩, n)
def learnS (s : Sd) (n : Nat) : Option (Sd × Bool) := if hasN n s.ad then some (s, false) else if Nat.ble s.ad.length 1000 then some (⟨s.ps, s.ad ++ [n], s.hd⟩, true) else none
def start (x y : List Dr) : Option Mt := match sentS (mkSd x) (0, 0) with
  | none => none
  | some (sx, nx) => match sentS (mkSd y) (0, 0) with
    | none => none
    | some (sy, ny) => match learnS sx ny with
      | none => none
      | some (sx', _) => match learnS sy nx with
        | none => none
        | some (sy', _) => some ⟨sx', sy', 0, false⟩
/-- letters of one end: sent to each -/
def lettersS (p : Nat) : Sd → List Nat → Option (Sd × List (Nat × Nat))
  | s, [] => some (s, [])
  | s, n :: r => match sentS s (p, n) with
    | none => none
    | some (s', k) => match lettersS p s' r with
      | none => none
      | some (s'', l) => some (s'', (k, n) :: l)
/-- letters come: to one side (the others' place p) -/
def comeS (p : Nat) : Sd → List (Nat × Nat) → Option (Sd × Bool × List (Nat × Nat))
  | s, [] => some (s, false, [])
  | s, (k, n) :: r =>
    if inL s.ps.reverse n (p, k) then
      match learnS ⟨s.ps, s.ad, true⟩ k with
      | none => none
      | some (s', b) => match comeS p s' r with
        | none => none
        | some (s'', b', f) => some (s'', b || b', (k, n) :: f)
    else comeS p s r
/-- over -/
def over (m : Mt) : Bool := m.st || (m.x.hd && m.y.hd)
/-- a round: what x's letters did (to y), what y's did -/
def roundM (m : Mt) : Option (Mt × List (Nat × Nat) × List (Nat × Nat)) := match lettersS 2 m.x (sortN m.x.ad) with
  | none => none
  | some (x1, lx) => match lettersS 1 m.y (sortN m.y.ad) with
    | none => none
    | some (y1, ly) => match comeS 1 y1 lx with
      | none => none
      | some (y2, b, fx) => match comeS 2 x1 ly with
        | none => none
        | some (x2, b', fy) => if Nat.ble m.n 1000 then some (⟨x2, y2, m.n + 1, !(b || b')⟩, fx, fy) else none
def playF : Nat → Mt → Option Mt
  | 0, m => if over m then some m else none
  | f + 1, m => if over m then some m else match roundM m with
    | none => none
    | some (m', _, _) => playF f m'
def play (x y : List Dr) : Option Mt := match start x y with
  | none => none
  | some m => playF 9 m
def both (m : Mt) : Bool := m.x.hd && m.y.hd
def allL : (Nat × Nat → Bool) → List (Nat × Nat) → Bool
  | _, [] => true
  | f, a :: r => f a && allL f r
/-- the law's own look at the letters: x's letters (k, n): y knows k, y heard -/
def goodL (s : Sd) : List (Nat × Nat) → Bool
  | [] => true
  | (k, _) :: r => hasN k s.ad && s.hd && goodL s r
def rightF : Nat → Mt → Option Mt
  | 0, m => if over m then some m else none
  | f + 1, m => if over m then some m else match roundM m with
    | none => none
    | some (m', fx, fy) => if goodL m'.y fx && goodL m'.x fy && Nat.ble m'.n 8 then rightF f m' else none
def right (x y : List Dr) : Option Mt := match start x y with
  | none => none
  | some m => rightF 9 m
def beqB (a b : Bool) : Bool := if a then b else !b
/-- same meets, same rounds -/
def same (a b : Mt) : Bool := beqB (both a) (both b) && (!(both a) || Nat.beq a.n b.n)
def free : Dr := ⟨false, 0⟩
def ok (x y : List Dr) : Bool :=
  match play x y with
  | none => false
  | some m => match play y x with
    | none => false
    | some m1 => match right x y with
      | none => false
      | some m2 => match play (free :: x) y with
        | none => false
        | some m3 => match play x (free :: y) with
          | none => false
          | some m4 => match play x [free] with
            | none => false
            | some m5 => match play [free] (free :: y) with
              | none => false
              | some m6 => same m m1 && beqB (both m) (both m2) && same m m3 && beqB (both m) (both m4) && both m5 && both m6
def six : List Dr := [⟨false, 0⟩, ⟨false, 1⟩, ⟨false, 2⟩, ⟨true, 0⟩, ⟨true, 1⟩, ⟨true, 2⟩]
def ends : List (List Dr) := six.map (fun d => [d]) ++ six.flatMap fun d => six.map fun e => [d, e]



end QM
namespace QM
theorem all_ok : (ends.all fun x => ends.all fun y => ok x y) = true := by decide +kernel
end QM
set_option Elab.async false
set_option linter.all false
set_option maxRecDepth 100000
set_option maxHeartbeats 4000000
namespace QD
open PySem PySem.Spec PyProof.Rows L2

/-- the places of the classes -/
structure CL where
  D : Addr
  E : Addr
  P : Addr
  S : Addr
  M : Addr
/-- what never changes once it stands -/
def Imm (c : CL) : HO → Prop
  | .tup _ => True
  | .own _ => True
  | .frz _ _ => True
  | .ins C _ _ => C ≠ c.S ∧ C ≠ c.M
  | _ => False
/-- from H to H' only what stands at F has changed (F' then stands in its place) -/
structure Chg (c : CL) (F : List Addr) (H : Hp) (F' : List Addr) (H' : Hp) : Prop where
  keep : ∀ q o, H q = some o → (q ∉ F ∨ Imm c o) → H' q = some o
  new : ∀ q, q ∈ F' → q ∈ F ∨ H q = none
section
variable {c : CL} {F F1 F2 G A B : List Addr} {H H1 H2 : Hp} {q l : Addr} {o u u' : HO}
theorem Chg.refl : Chg c F H F H := ⟨fun _ _ e _ => e, fun _ h => .inl h⟩
theorem Chg.trans (a : Chg c F H F1 H1) (b : Chg c F1 H1 F2 H2) : Chg c F H F2 H2 := by
  refine ⟨fun q o e h => ?_, fun q hq => ?_⟩
  · have e1 := a.keep q o e h
    refine b.keep q o e1 ?_
    rcases h with h | h
    · refine .inl fun z => ?_
      rcases a.new q z with y | y
      · exact h y
      · rw [e] at y; cases y
    · exact .inr h
  · rcases b.new q hq with z | z
    · exact a.new q z
    · by_cases hF : q ∈ F
      · exact .inl hF
      · refine .inr ?_
        cases e : H q with
        | none => rfl
        | some o =>
          rw [a.keep q o e (.inl hF)] at z
          cases z
theorem Chg.write (hl : l ∈ F) (hu : H l = some u) (n : ¬ Imm c u) : Chg c F H F (upd H l u') := by
  refine ⟨fun q o e h => ?_, fun _ h => .inl h⟩
  have hq : q ≠ l := fun z => by
    subst z
    rcases h with h | h
    · exact h hl
    · rw [hu] at e; cases e; exact n h
  rw [upd_ne hq]
  exact e
theorem Chg.alloc (hn : H l = none) : Chg c F H F (upd H l u') :=
  ⟨fun q o e _ => by rw [upd_ne (ne_of_none e hn)]; exact e, fun _ h => .inl h⟩
theorem Chg.less (a : Chg c F H F1 H1) (h : ∀ q, q ∈ F2 → q ∈ F1 ∨ H q = none) : Chg c F H F2 H1 :=
  ⟨a.keep, fun q hq => (h q hq).elim (fun z => a.new q z) .inr⟩
theorem Chg.more (a : Chg c F H F1 H1) (h : ∀ q, q ∈ F → q ∈ G) (h2 : ∀ q, q ∈ F2 → q ∈ F1 ∨ q ∈ G ∨ H q = none) : Chg c G H F2 H1 :=
  ⟨fun q o e z => a.keep q o e (z.elim (fun y => .inl fun x => y (h q x)) .inr), fun q hq => (h2 q hq).elim (fun z => (a.new q z).elim (fun y => .inl (h q y)) .inr) id⟩
theorem Chg.same (a : Chg c [] H F1 H1) : Same H H1 := fun q o e => a.keep q o e (.inl (by simp))
theorem Chg.of_same (s : Same H H1) : Chg c F H F H1 := ⟨fun q o e _ => s q o e, fun _ h => .inl h⟩
theorem Chg.seqT {K : PySem.W.Frag} {a : Addr} {xs : List V} (ch : Chg c F H F1 H1) (h : SqT K H a xs) : SqT K H1 a xs := by
  rcases h with (h | ⟨o, h⟩) | h
  · exact .inl (.inl (ch.keep _ _ h (.inr True.intro)))
  · exact .inl (.inr ⟨o, ch.keep _ _ h (.inr True.intro)⟩)
  · exact .inr h
end

/-! ### addresses -/
def plS : Nat → Str
  | 0 => "house"
  | 1 => "x"
  | _ => "y"
theorem n_hx : ¬ (("house" : Str) = "x") := by decide +kernel
theorem n_hy : ¬ (("house" : Str) = "y") := by decide +kernel
theorem n_xy : ¬ (("x" : Str) = "y") := by decide +kernel
theorem plS_inj : ∀ {a b : Nat}, a ≤ 2 → b ≤ 2 → plS a = plS b → a = b
  | 0, 0, _, _, _ => rfl
  | 1, 1, _, _, _ => rfl
  | 2, 2, _, _, _ => rfl
  | 0, 1, _, _, h => absurd h n_hx
  | 0, 2, _, _, h => absurd h n_hy
  | 1, 0, _, _, h => absurd h.symm n_hx
  | 2, 0, _, _, h => absurd h.symm n_hy
  | 1, 2, _, _, h => absurd h n_xy
  | 2, 1, _, _, h => absurd h.symm n_xy
  | n + 3, _, h, _, _ => absurd h (by omega)
  | _, n + 3, _, h, _ => absurd h (by omega)
theorem adEq_iff {a b : QM.Ad} : QM.adEq a b = true ↔ a = b := by
  obtain ⟨a1, a2⟩ := a
  obtain ⟨b1, b2⟩ := b
  unfold QM.adEq
  rw [Bool.and_eq_true]
  constructor
  · rintro ⟨h1, h2⟩
    have e1 : a1 = b1 := Nat.eq_of_beq_eq_true h1
    have e2 : a2 = b2 := Nat.eq_of_beq_eq_true h2
    rw [e1, e2]
  · intro h
    injection h with h1 h2
    subst h1 h2
    exact ⟨Nat.beq_refl _, Nat.beq_refl _⟩
theorem plS_ok : ∀ n, PyData.strOk (plS n) = true
  | 0 => by decide +kernel
  | 1 => by decide +kernel
  | _ + 2 => (by decide +kernel : PyData.strOk ("y" : Str) = true)
def AdT (K : PySem.W.Frag) (H : Hp) (p : Addr) (a : QM.Ad) : Prop := a.1 ≤ 2 ∧ SqT K H p [.str (plS a.1), .int (a.2 : Int)]
def AdAt (K : PySem.W.Frag) (H : Hp) (v : V) (a : QM.Ad) : Prop := ∃ p, v = .ref p ∧ AdT K H p a
def adD (a : QM.Ad) : PyData := .tuple [.str (plS a.1), .int (a.2 : Int)]
theorem AdAt.dp {K : PySem.W.Frag} {H : Hp} {v : V} {a : QM.Ad} (h : AdAt K H v a) : Dp K H v (adD a) := by
  obtain ⟨p, rfl, _, h⟩ := h
  exact .tup h (.cons (.str _) (.cons (.int _) .nil))
theorem adD_eqv {a b : QM.Ad} (ha : a.1 ≤ 2) (hb : b.1 ≤ 2) : PyData.eqv (adD a) (adD b) = QM.adEq a b := by
  have e : PyData.eqv (adD a) (adD b) = ((plS a.1 == plS b.1) && (((a.2 : Int) == (b.2 : Int)) && true)) := by simp only [adD, PyData.eqv, PyData.eqvAll]
  rw [e, Bool.and_true]
  by_cases h : a = b
  · subst h
    rw [adEq_iff.mpr rfl]
    simp
  · have hf : QM.adEq a b = false := by
      cases q : QM.adEq a b with
      | false => rfl
      | true => exact absurd (adEq_iff.mp q) h
    rw [hf, Bool.and_eq_false_iff]
    by_cases h1 : a.1 = b.1
    · refine .inr (beq_eq_false_iff_ne.mpr fun z => h ?_)
      exact Prod.ext h1 (by omega)
    · exact .inl (beq_eq_false_iff_ne.mpr fun z => h1 (plS_inj ha hb z))
theorem adD_shaped (a : QM.Ad) : SeqAt.shaped (adD a) = true := by
  show ((adD a).canLay0 && decide ((adD a).depth ≤ 64)) = true
  rw [Bool.and_eq_true]
  refine ⟨by simp [adD, PyData.canLay0, PyData.canLayAll0, plS_ok], decide_eq_true ?_⟩
  simp [adD, PyData.depth, PyData.depthAll]
theorem adDs_lay : ∀ l : List QM.Ad, PyData.canLayAll0 (l.map adD) = true
  | [] => by simp [PyData.canLayAll0]
  | a :: l => by
    have h := adDs_lay l
    simp only [List.map_cons, PyData.canLayAll0, h, Bool.and_true]
    simp [adD, PyData.canLay0, PyData.canLayAll0, plS_ok]
theorem adDs_depth : ∀ l : List QM.Ad, PyData.depthAll (l.map adD) ≤ 1
  | [] => by simp [PyData.depthAll]
  | a :: l => by
    have h := adDs_depth l
    have h2 : (adD a).depth = 1 := by simp [adD, PyData.depth, PyData.depthAll]
    simp only [List.map_cons, PyData.depthAll]
    omega
theorem adDs_shapedL (l : List QM.Ad) : SeqAt.shaped (.list (l.map adD)) = true := by
  show (PyData.canLay0 (.list (l.map adD)) && decide (PyData.depth (.list (l.map adD)) ≤ 64)) = true
  rw [Bool.and_eq_true]
  have := adDs_depth l
  refine ⟨by simp only [PyData.canLay0]; exact adDs_lay l, decide_eq_true ?_⟩
  simp only [PyData.depth]
  omega
theorem adDs_shapedT (l : List QM.Ad) : SeqAt.shaped (.tuple (l.map adD)) = true := by
  show (PyData.canLay0 (.tuple (l.map adD)) && decide (PyData.depth (.tuple (l.map adD)) ≤ 64)) = true
  rw [Bool.and_eq_true]
  have := adDs_depth l
  refine ⟨by simp only [PyData.canLay0]; exact adDs_lay l, decide_eq_true ?_⟩
  simp only [PyData.depth]
  omega
/-- values that are addresses -/
abbrev Ads (K : PySem.W.Frag) (H : Hp) (vs : List V) (as : List QM.Ad) : Prop := Paired (fun v a => AdAt K H v a) vs as
theorem Ads.dps {K : PySem.W.Frag} {H : Hp} {vs : List V} {as : List QM.Ad} (h : Ads K H vs as) : DpAll K H vs (as.map adD) := by
  induction h with
  | nil => exact .nil
  | cons h _ ih => exact .cons h.dp ih
theorem AdAt.le {K : PySem.W.Frag} {H : Hp} {v : V} {a : QM.Ad} (h : AdAt K H v a) : a.1 ≤ 2 := let ⟨_, _, h, _⟩ := h; h
theorem Ads.has {K : PySem.W.Frag} {H : Hp} {vs : List V} {as : List QM.Ad} (h : Ads K H vs as) {a : QM.Ad} (ha : a.1 ≤ 2) : ((as.map adD).any fun z => PyData.eqv z (adD a)) = QM.hasAd a as := by
  induction h with
  | nil => rfl
  | cons h _ ih =>
    rw [List.map_cons, List.any_cons, ih, adD_eqv h.le ha]
    rfl
section
variable {c : CL} {K : PySem.W.Frag} {F F1 : List Addr} {H H1 : Hp} {v : V} {a : QM.Ad} {vs : List V} {as : List QM.Ad} {b : Addr} {k : NKy}
theorem AdT.chg {p : Addr} (h : AdT K H p a) (ch : Chg c F H F1 H1) : AdT K H1 p a := ⟨h.1, ch.seqT h.2⟩
theorem AdAt.chg (h : AdAt K H v a) (ch : Chg c F H F1 H1) : AdAt K H1 v a := let ⟨p, e, x⟩ := h; ⟨p, e, x.chg ch⟩
theorem Ads.chg (h : Ads K H vs as) (ch : Chg c F H F1 H1) : Ads K H1 vs as := Paired.mapP h fun _ _ z => z.chg ch
theorem NIs.chg (h : NIs K H b k) (ch : Chg c F H F1 H1) : NIs K H1 b k := let ⟨t, h1, h2⟩ := h; ⟨t, ch.seqT h1, ch.seqT h2⟩
end

/-! ### fields -/
def gS (d : QM.Dr) : Str := if d.each then "each" else "one"
def lS (d : QM.Dr) : Str := match d.lets with | 1 => "house" | 2 => "door" | _ => "any"
def fD (d : QM.Dr) : List (Str × V) := [("kept_gives", .str (gS d)), ("kept_lets", .str (lS d))]
def fE (t : Addr) : List (Str × V) := [("kept_doors", .ref t)]
def fP (dv : V) (l d s : Addr) : List (Str × V) := [("door", dv), ("inner_of", .ref l), ("by_key", .ref d), ("sent_to", .ref s)]
def fS (pl : V) (lp la : Addr) (hd : V) : List (Str × V) := [("place", pl), ("passages", .ref lp), ("addresses", .ref la), ("has_heard", hd)]
def fM (dS lR : Addr) (st : V) : List (Str × V) := [("sides", .ref dS), ("own_rounds", .ref lR), ("is_stuck", st)]
theorem fD_gives (d : QM.Dr) : (fD d).lookup ("kept_gives" : Str) = some (V.str (gS d)) := by kernel_rfl
theorem fD_lets (d : QM.Dr) : (fD d).lookup ("kept_lets" : Str) = some (V.str (lS d)) := by kernel_rfl
theorem fE_doors (t : Addr) : (fE t).lookup ("kept_doors" : Str) = some (V.ref t) := by kernel_rfl
theorem fP_door {dv : V} {l d s : Addr} : (fP dv l d s).lookup ("door" : Str) = some dv := by kernel_rfl
theorem fP_inner {dv : V} {l d s : Addr} : (fP dv l d s).lookup ("inner_of" : Str) = some (V.ref l) := by kernel_rfl
theorem fP_key {dv : V} {l d s : Addr} : (fP dv l d s).lookup ("by_key" : Str) = some (V.ref d) := by kernel_rfl
theorem fP_sent {dv : V} {l d s : Addr} : (fP dv l d s).lookup ("sent_to" : Str) = some (V.ref s) := by kernel_rfl
theorem fP_noS {dv : V} {l d s : Addr} : (fP dv l d s).lookup ("sent" : Str) = none := by kernel_rfl
theorem fP_noC {dv : V} {l d s : Addr} : (fP dv l d s).lookup ("came" : Str) = none := by kernel_rfl
theorem fS_place {pl hd : V} {lp la : Addr} : (fS pl lp la hd).lookup ("place" : Str) = some pl := by kernel_rfl
theorem fS_pas {pl hd : V} {lp la : Addr} : (fS pl lp la hd).lookup ("passages" : Str) = some (V.ref lp) := by kernel_rfl
theorem fS_ads {pl hd : V} {lp la : Addr} : (fS pl lp la hd).lookup ("addresses" : Str) = some (V.ref la) := by kernel_rfl
theorem fS_hd {pl hd : V} {lp la : Addr} : (fS pl lp la hd).lookup ("has_heard" : Str) = some hd := by kernel_rfl
theorem fS_put {pl hd hd' : V} {lp la : Addr} : putF ("has_heard" : Str) hd' (fS pl lp la hd) = fS pl lp la hd' := by kernel_rfl
theorem fS_noS {pl hd : V} {lp la : Addr} : (fS pl lp la hd).lookup ("sent" : Str) = none := by kernel_rfl
theorem fS_noI {pl hd : V} {lp la : Addr} : (fS pl lp la hd).lookup ("lets_in" : Str) = none := by kernel_rfl
theorem fS_noL {pl hd : V} {lp la : Addr} : (fS pl lp la hd).lookup ("learns" : Str) = none := by kernel_rfl
theorem fM_sides {st : V} {dS lR : Addr} : (fM dS lR st).lookup ("sides" : Str) = some (V.ref dS) := by kernel_rfl
theorem fM_rounds {st : V} {dS lR : Addr} : (fM dS lR st).lookup ("own_rounds" : Str) = some (V.ref lR) := by kernel_rfl
theorem fM_stuck {st : V} {dS lR : Addr} : (fM dS lR st).lookup ("is_stuck" : Str) = some st := by kernel_rfl
theorem fM_put {st st' : V} {dS lR : Addr} : putF ("is_stuck" : Str) st' (fM dS lR st) = fM dS lR st' := by kernel_rfl
theorem fM_noSide {st : V} {dS lR : Addr} : (fM dS lR st).lookup ("side" : Str) = none := by kernel_rfl
theorem fM_noKnown {st : V} {dS lR : Addr} : (fM dS lR st).lookup ("known" : Str) = none := by kernel_rfl
theorem fM_noHeard {st : V} {dS lR : Addr} : (fM dS lR st).lookup ("heard" : Str) = none := by kernel_rfl
theorem fM_noOver {st : V} {dS lR : Addr} : (fM dS lR st).lookup ("is_over" : Str) = none := by kernel_rfl
theorem fM_noRound {st : V} {dS lR : Addr} : (fM dS lR st).lookup ("round" : Str) = none := by kernel_rfl
theorem fD_mk {g l : V} : putF ("kept_lets" : Str) l (putF ("kept_gives" : Str) g []) = ([("kept_gives", g), ("kept_lets", l)] : List (Str × V)) := by kernel_rfl
theorem fP_mk {dv : V} {l d s : Addr} : putF ("sent_to" : Str) (.ref s) (putF ("by_key" : Str) (.ref d) (putF ("inner_of" : Str) (.ref l) (putF ("door" : Str) dv []))) = fP dv l d s := by kernel_rfl
theorem fS_mk {pl hd : V} {lp la : Addr} : putF ("has_heard" : Str) hd (putF ("addresses" : Str) (.ref la) (putF ("passages" : Str) (.ref lp) (putF ("place" : Str) pl []))) = fS pl lp la hd := by kernel_rfl
theorem fM_mk {st : V} {dS lR : Addr} : putF ("is_stuck" : Str) st (putF ("own_rounds" : Str) (.ref lR) (putF ("sides" : Str) (.ref dS) [])) = fM dS lR st := by kernel_rfl
end QD
set_option Elab.async false
set_option linter.all false
set_option maxRecDepth 100000
set_option maxHeartbeats 4000000
namespace QD
open PySem PySem.Spec PyProof.Rows L2

/-! ### doors and ends -/
theorem nI_l {c : CL} {xs : List V} : ¬ Imm c (.lst xs) := fun z => z
theorem nI_e {c : CL} {φ : Heap → Prop} : ¬ Imm c (.ext φ) := fun z => z
def DoorAt (c : CL) (H : Hp) (v : V) (d : QM.Dr) : Prop := ∃ p dx, v = .ref p ∧ H p = some (.ins c.D dx (fD d))
def EndAt (c : CL) (H : Hp) (v : V) (ds : List QM.Dr) : Prop := ∃ p dx t vs, v = .ref p ∧ H p = some (.ins c.E dx (fE t)) ∧ H t = some (.tup vs) ∧ Paired (DoorAt c H) vs ds ∧ ds.length ≤ 3
/-- the classes are apart -/
structure CL.Ok (c : CL) : Prop where
  DS : c.D ≠ c.S
  DM : c.D ≠ c.M
  ES : c.E ≠ c.S
  EM : c.E ≠ c.M
  PS : c.P ≠ c.S
  PM : c.P ≠ c.M
  DE : c.D ≠ c.E
section
variable {c : CL} {F F1 : List Addr} {H H1 : Hp} {v : V} {d : QM.Dr} {ds : List QM.Dr} {vs : List V}
theorem DoorAt.chg (ok : c.Ok) (h : DoorAt c H v d) (ch : Chg c F H F1 H1) : DoorAt c H1 v d := by
  obtain ⟨p, dx, e, h⟩ := h
  exact ⟨p, dx, e, ch.keep _ _ h (.inr ⟨ok.DS, ok.DM⟩)⟩
theorem doors_chg (ok : c.Ok) (h : Paired (DoorAt c H) vs ds) (ch : Chg c F H F1 H1) : Paired (DoorAt c H1) vs ds := Paired.mapP h fun _ _ z => z.chg ok ch
theorem EndAt.chg (ok : c.Ok) (h : EndAt c H v ds) (ch : Chg c F H F1 H1) : EndAt c H1 v ds := by
  obtain ⟨p, dx, t, vs, e, h1, h2, h3, h4⟩ := h
  exact ⟨p, dx, t, vs, e, ch.keep _ _ h1 (.inr ⟨ok.ES, ok.EM⟩), ch.keep _ _ h2 (.inr True.intro), doors_chg ok h3 ch, h4⟩
end

/-! ### a passage -/
def nky (i : Nat) (a : QM.Ad) : NKy := ((i : Int), plS a.1, (a.2 : Int))
def kvOf : List Addr → List QM.En → Nat → List (NKy × Addr × V)
  | k :: ks, e :: es, n => (nky e.inner e.key, k, .int (n : Int)) :: kvOf ks es (n + 1)
  | _, _, _ => []
def KeysAt (K : PySem.W.Frag) (H : Hp) (ks : List Addr) (es : List QM.En) : Prop := Paired (fun k (e : QM.En) => NIs K H k (nky e.inner e.key) ∧ e.key.1 ≤ 2) ks es
def TosAt (K : PySem.W.Frag) (H : Hp) (ls : List Addr) (es : List QM.En) : Prop := Paired (fun a (e : QM.En) => ∃ vs, H a = some (.lst vs) ∧ Ads K H vs e.to ∧ e.to.length ≤ 1001) ls es
structure PassX (c : CL) (P : Program) (w : World) (K : PySem.W.Frag) (H : Hp) (v : V) (pm : QM.Pm) (p dx l d s : Addr) (dv : V) (ks ls : List Addr) : Prop where
  ev : v = .ref p
  ins : H p = some (.ins c.P dx (fP dv l d s))
  door : DoorAt c H dv pm.d
  li : H l = some (.lst (pm.es.map fun e => V.int (e.inner : Int)))
  di : H d = some (ND P w d (kvOf ks pm.es 0))
  keys : KeysAt K H ks pm.es
  se : H s = some (.lst (ls.map V.ref))
  tos : TosAt K H ls pm.es
  nd : (l :: d :: s :: ls).Nodup
def PassAt (c : CL) (P : Program) (w : World) (K : PySem.W.Frag) (H : Hp) (v : V) (pm : QM.Pm) (F : List Addr) : Prop := ∃ p dx l d s dv ks ls, PassX c P w K H v pm p dx l d s dv ks ls ∧ F = l :: d :: s :: ls

theorem kvOf_keys {K : PySem.W.Frag} {H : Hp} : ∀ {ks : List Addr} {es : List QM.En} {n : Nat}, KeysAt K H ks es → ∀ p ∈ kvOf ks es n, NIs K H p.2.1 p.1
  | _, _, _, .nil => fun p hp => nomatch hp
  | _, _, n, .cons h t => fun p hp => by
    rcases List.mem_cons.mp hp with e | hp
    · subst e; exact h.1
    · exact kvOf_keys (n := n + 1) t p hp
theorem kvOf_length {K : PySem.W.Frag} {H : Hp} : ∀ {ks : List Addr} {es : List QM.En} {n : Nat}, KeysAt K H ks es → (kvOf ks es n).length = es.length
  | _, _, _, .nil => rfl
  | _, _, n, .cons h t => by
    show (kvOf _ _ (n + 1)).length + 1 = _ + 1
    rw [kvOf_length (n := n + 1) t]
theorem nky_iff {i j : Nat} {a b : QM.Ad} (ha : a.1 ≤ 2) (hb : b.1 ≤ 2) : nky i a = nky j b ↔ (Nat.beq i j && QM.adEq a b) = true := by
  rw [Bool.and_eq_true]
  constructor
  · intro h
    simp only [nky, Prod.mk.injEq] at h
    obtain ⟨h1, h2, h3⟩ := h
    have e1 : i = j := by omega
    subst e1
    exact ⟨Nat.beq_refl _, adEq_iff.mpr (Prod.ext (plS_inj ha hb h2) (by omega))⟩
  · rintro ⟨h1, h2⟩
    rw [Nat.eq_of_beq_eq_true h1, adEq_iff.mp h2]
theorem kvOf_val {K : PySem.W.Frag} {H : Hp} {i : Nat} {a : QM.Ad} (ha : a.1 ≤ 2) : ∀ {ks : List Addr} {es : List QM.En} {n : Nat}, KeysAt K H ks es → valN (kvOf ks es n) (nky i a) = (QM.enIx i a es n).map fun (j : Nat) => V.int (j : Int)
  | _, _, _, .nil => rfl
  | _, _, n, .cons (a := k) (b := e) h t => by
    show valN ((nky e.inner e.key, k, V.int (n : Int)) :: kvOf _ _ (n + 1)) (nky i a) = (QM.enIx i a (e :: _) n).map _
    rw [valN_cons]
    unfold QM.enIx
    by_cases q : nky e.inner e.key = nky i a
    · rw [if_pos q, if_pos ((nky_iff h.2 ha).mp q)] <;> rfl
    · rw [if_neg q, if_neg (fun z => q ((nky_iff h.2 ha).mpr z))]
      exact kvOf_val ha (n := n + 1) t
theorem kvOf_snoc {K : PySem.W.Frag} {H : Hp} {k : Addr} {e : QM.En} : ∀ {ks : List Addr} {es : List QM.En} {n : Nat}, KeysAt K H ks es → kvOf (ks ++ [k]) (es ++ [e]) n = kvOf ks es n ++ [(nky e.inner e.key, k, V.int ((n + es.length : Nat) : Int))]
  | _, _, _, .nil => rfl
  | _, _, n, .cons (l₁ := ks) (l₂ := es) (b := e0) h t => by
    show _ :: kvOf (ks ++ [k]) (es ++ [e]) (n + 1) = _ :: (kvOf ks es (n + 1) ++ _)
    rw [kvOf_snoc (n := n + 1) t, List.length_cons, show n + 1 + es.length = n + (es.length + 1) from by omega]

theorem TosAt.chg {c : CL} {K : PySem.W.Frag} {H H1 : Hp} {G G1 : List Addr} (ch : Chg c G H G1 H1) : ∀ {ls : List Addr} {es : List QM.En}, TosAt K H ls es → (∀ q ∈ ls, q ∉ G) → TosAt K H1 ls es
  | _, _, .nil, _ => .nil
  | _, _, .cons ⟨vs, h1, h2, h3⟩ t, hd => .cons ⟨vs, ch.keep _ _ h1 (.inl (hd _ List.mem_cons_self)), h2.chg ch, h3⟩ (TosAt.chg ch t fun q hq => hd q (List.mem_cons_of_mem _ hq))
theorem TosAt.at_ {K : PySem.W.Frag} {H : Hp} : ∀ {ls : List Addr} {es : List QM.En} {n : Nat} {e : QM.En}, TosAt K H ls es → QM.atE es n = some e → ∃ a vs, ls[n]? = some a ∧ H a = some (.lst vs) ∧ Ads K H vs e.to ∧ e.to.length ≤ 1001
  | _, _, _, _, .nil, h => nomatch h
  | _, _, 0, _, .cons ⟨vs, h1, h2, h3⟩ t, h => by
    cases h
    exact ⟨_, vs, rfl, h1, h2, h3⟩
  | _, _, n + 1, _, .cons _ t, h => by
    obtain ⟨a, vs, h1, h2⟩ := TosAt.at_ (n := n) t h
    exact ⟨a, vs, by simpa using h1, h2⟩
theorem TosAt.set {c : CL} {K : PySem.W.Frag} {H : Hp} {a : Addr} {vs : List V} {t : List QM.Ad} : ∀ {ls : List Addr} {es : List QM.En} {n : Nat}, TosAt K H ls es → ls.Nodup → ls[n]? = some a → (H a).any (fun o => match o with | .lst _ => true | _ => false) = true → Ads K H vs t → t.length ≤ 1001 → TosAt K (upd H a (.lst vs)) ls (QM.setTo es n t)
  | _, _, _, .nil, _, h, _, _, _ => nomatch h
  | _, _, 0, .cons (a := b) (b := e) h tl, nd, h0, hl, hv, hz => by
    have eb : b = a := by simpa using h0
    subst eb
    have ch : Chg c [b] H [b] (upd H b (.lst vs)) := by
      cases q : H b with
      | none => rw [q] at hl; cases hl
      | some o =>
        refine Chg.write (by simp) q ?_
        rw [q] at hl
        cases o <;> first | exact (fun z => z) | cases hl
    refine .cons ⟨vs, upd_same, hv.chg ch, hz⟩ (TosAt.chg ch tl fun q hq z => ?_)
    have e1 : q = b := by simpa using z
    subst e1
    exact (List.nodup_cons.mp nd).1 hq
  | _, _, n + 1, .cons (a := b) (b := e) (l₁ := lr) ⟨ws, h1, h2, h3⟩ tl, nd, h0, hl, hv, hz => by
    have h0' : lr[n]? = some a := by simpa using h0
    have hb : b ≠ a := fun z => by
      subst z
      exact (List.nodup_cons.mp nd).1 (List.mem_of_getElem? h0')
    have ch : Chg c [a] H [a] (upd H a (.lst vs)) := by
      cases q : H a with
      | none => rw [q] at hl; cases hl
      | some o =>
        refine Chg.write (by simp) q ?_
        rw [q] at hl
        cases o <;> first | exact (fun z => z) | cases hl
    exact .cons ⟨ws, by rw [upd_ne hb]; exact h1, h2.chg ch, h3⟩ (TosAt.set (c := c) tl (List.nodup_cons.mp nd).2 h0' hl hv hz)
theorem setTo_inner : ∀ (es : List QM.En) (n : Nat) (t : List QM.Ad), (QM.setTo es n t).map (fun e => V.int (e.inner : Int)) = es.map fun e => V.int (e.inner : Int)
  | [], _, _ => rfl
  | e :: r, 0, t => rfl
  | e :: r, n + 1, t => by
    show V.int (e.inner : Int) :: (QM.setTo r n t).map _ = _
    rw [setTo_inner r n t] <;> rfl
theorem setTo_kv : ∀ (ks : List Addr) (es : List QM.En) (n m : Nat) (t : List QM.Ad), kvOf ks (QM.setTo es n t) m = kvOf ks es m
  | [], [], _, _, _ => rfl
  | [], e :: r, 0, _, _ => rfl
  | [], e :: r, n + 1, _, _ => rfl
  | k :: ks, [], _, _, _ => rfl
  | k :: ks, e :: r, 0, m, t => rfl
  | k :: ks, e :: r, n + 1, m, t => by
    show _ :: kvOf ks (QM.setTo r n t) (m + 1) = _ :: kvOf ks r (m + 1)
    rw [setTo_kv ks r n (m + 1) t] <;> rfl
theorem setTo_keys {K : PySem.W.Frag} {H : Hp} {t : List QM.Ad} : ∀ {ks : List Addr} {es : List QM.En} {n : Nat}, KeysAt K H ks es → KeysAt K H ks (QM.setTo es n t)
  | _, _, _, .nil => .nil
  | _, _, 0, .cons h tl => .cons h tl
  | _, _, n + 1, .cons h tl => .cons h (setTo_keys tl)
theorem KeysAt.chg {c : CL} {K : PySem.W.Frag} {H H1 : Hp} {G G1 : List Addr} {ks : List Addr} {es : List QM.En} (h : KeysAt K H ks es) (ch : Chg c G H G1 H1) : KeysAt K H1 ks es := Paired.mapP h fun _ _ z => ⟨z.1.chg ch, z.2⟩
section
variable {c : CL} {P : Program} {w : World} {K : PySem.W.Frag} {H H1 : Hp} {v dv : V} {pm : QM.Pm} {p dx l d s : Addr} {ks ls F G G1 : List Addr}
theorem PassX.chg (ok : c.Ok) (x : PassX c P w K H v pm p dx l d s dv ks ls) (ch : Chg c G H G1 H1) (hd : ∀ q ∈ l :: d :: s :: ls, q ∉ G) : PassX c P w K H1 v pm p dx l d s dv ks ls where
  ev := x.ev
  ins := ch.keep _ _ x.ins (.inr ⟨ok.PS, ok.PM⟩)
  door := x.door.chg ok ch
  li := ch.keep _ _ x.li (.inl (hd _ (by simp)))
  di := ch.keep _ _ x.di (.inl (hd _ (by simp)))
  keys := x.keys.chg ch
  se := ch.keep _ _ x.se (.inl (hd _ (by simp)))
  tos := TosAt.chg ch x.tos fun q hq => hd q (by simp [hq])
  nd := x.nd
theorem PassAt.chg (ok : c.Ok) (x : PassAt c P w K H v pm F) (ch : Chg c G H G1 H1) (hd : ∀ q ∈ F, q ∉ G) : PassAt c P w K H1 v pm F := by
  obtain ⟨p, dx, l, d, s, dv, ks, ls, x, rfl⟩ := x
  exact ⟨p, dx, l, d, s, dv, ks, ls, x.chg ok ch hd, rfl⟩
theorem TosAt.there : ∀ {ls : List Addr} {es : List QM.En}, TosAt K H ls es → ∀ q ∈ ls, H q ≠ none
  | _, _, .nil, q, h => nomatch h
  | _, _, .cons ⟨vs, h1, _⟩ t, q, h => by
    rcases List.mem_cons.mp h with e | h
    · subst e; rw [h1]; exact fun z => nomatch z
    · exact TosAt.there t q h
theorem PassX.there (x : PassX c P w K H v pm p dx l d s dv ks ls) : ∀ q ∈ l :: d :: s :: ls, H q ≠ none := fun q hq => by
  rcases List.mem_cons.mp hq with e | hq
  · subst e; rw [x.li]; exact fun z => nomatch z
  rcases List.mem_cons.mp hq with e | hq
  · subst e; rw [x.di]; exact fun z => nomatch z
  rcases List.mem_cons.mp hq with e | hq
  · subst e; rw [x.se]; exact fun z => nomatch z
  · exact x.tos.there q hq
theorem PassAt.there (x : PassAt c P w K H v pm F) : ∀ q ∈ F, H q ≠ none := by
  obtain ⟨p, dx, l, d, s, dv, ks, ls, x, rfl⟩ := x
  exact x.there
theorem PassAt.nd (x : PassAt c P w K H v pm F) : F.Nodup := by
  obtain ⟨p, dx, l, d, s, dv, ks, ls, x, rfl⟩ := x
  exact x.nd
/-- the heap behind a new entry -/
def addH (P : Program) (w : World) (H : Hp) (es : List QM.En) (i : Nat) (k : QM.Ad) (kp q l d s : Addr) (ks ls : List Addr) : Hp :=
  upd (upd (upd (upd H d (ND P w d (kvOf ks es 0 ++ [(nky i k, kp, V.int (es.length : Int))]))) l (.lst ((es.map fun e => V.int (e.inner : Int)) ++ [V.int (i : Int)]))) q (.lst [])) s (.lst (ls.map V.ref ++ [V.ref q]))
theorem PassX.add (ok : c.Ok) (x : PassX c P w K H v pm p dx l d s dv ks ls) {i : Nat} {k : QM.Ad} {kp q : Addr} (hk : NIs K H kp (nky i k)) (h2 : k.1 ≤ 2) (hq : H q = none) :
    PassX c P w K (addH P w H pm.es i k kp q l d s ks ls) v ⟨pm.d, pm.es ++ [⟨i, k, []⟩]⟩ p dx l d s dv (ks ++ [kp]) (ls ++ [q]) ∧
      Chg c (l :: d :: s :: ls) H (l :: d :: s :: (ls ++ [q])) (addH P w H pm.es i k kp q l d s ks ls) := by
  have nd := x.nd
  simp only [List.nodup_cons, List.mem_cons, not_or] at nd
  obtain ⟨⟨ld, lss, lls⟩, ⟨ds, dls⟩, sls, nls⟩ := nd
  have sq : s ≠ q := ne_of_none x.se hq
  have lq : l ≠ q := ne_of_none x.li hq
  have dq : d ≠ q := ne_of_none x.di hq
  have qls : q ∉ ls := fun z => x.tos.there q z hq
  have c1 : Chg c [l, d, s] H [l, d, s] (upd H d (ND P w d (kvOf ks pm.es 0 ++ [(nky i k, kp, V.int (pm.es.length : Int))]))) := Chg.write (by simp) x.di nI_e
  have c2 := c1.trans (Chg.write (l := l) (u' := .lst ((pm.es.map fun e => V.int (e.inner : Int)) ++ [V.int (i : Int)])) (by simp) (by rw [upd_ne ld]; exact x.li) nI_l)
  have c3 := c2.trans (Chg.alloc (l := q) (u' := .lst []) (by rw [upd_ne lq.symm, upd_ne dq.symm]; exact hq))
  have c4 : Chg c [l, d, s] H [l, d, s] (addH P w H pm.es i k kp q l d s ks ls) := c3.trans (Chg.write (l := s) (u' := .lst (ls.map V.ref ++ [V.ref q])) (by simp) (by rw [upd_ne sq, upd_ne (Ne.symm lss), upd_ne (Ne.symm ds)]; exact x.se) nI_l)
  refine ⟨⟨x.ev, c4.keep _ _ x.ins (.inr ⟨ok.PS, ok.PM⟩), x.door.chg ok c4, ?_, ?_, Paired.snoc (x.keys.chg c4) ⟨hk.chg c4, h2⟩, ?_, ?_, ?_⟩, c4.more (fun q hq => ?_) (fun z hz => ?_)⟩
  · rw [List.map_append]
    show upd _ s _ l = _
    rw [upd_ne lss, upd_ne lq, upd_same] <;> rfl
  · show upd _ s _ d = _
    rw [upd_ne ds, upd_ne dq, upd_ne (Ne.symm ld), upd_same, kvOf_snoc x.keys, Nat.zero_add] <;> rfl
  · show upd _ s _ s = _
    rw [upd_same, List.map_append] <;> rfl
  · refine Paired.snoc (TosAt.chg c4 x.tos fun z hz => ?_) ⟨[], ?_, .nil, Nat.zero_le _⟩
    · intro y
      simp only [List.mem_cons, List.not_mem_nil, or_false] at y
      rcases y with y | y | y
      · subst y; exact lls hz
      · subst y; exact dls hz
      · subst y; exact sls hz
    · show upd _ s _ q = _
      rw [upd_ne sq.symm, upd_same]
  · simp only [List.nodup_cons, List.mem_cons, List.mem_append, List.not_mem_nil, or_false, not_or, List.nodup_append]
    refine ⟨⟨ld, lss, lls, lq⟩, ⟨ds, dls, dq⟩, ⟨sls, sq⟩, nls, ⟨fun z => z, List.nodup_nil⟩, ?_⟩
    intro a ha b hb e
    subst e hb
    exact qls ha
  · simp only [List.mem_cons, List.not_mem_nil, or_false] at hq
    simp only [List.mem_cons]
    rcases hq with y | y | y
    · exact .inl y
    · exact .inr (.inl y)
    · exact .inr (.inr (.inl y))
  · simp only [List.mem_cons, List.mem_append, List.not_mem_nil, or_false] at hz
    rcases hz with y | y | y | y | y
    · exact .inl (by simp [y])
    · exact .inl (by simp [y])
    · exact .inl (by simp [y])
    · exact .inr (.inl (by simp [y]))
    · exact .inr (.inr (by rw [y]; exact hq))
/-- an address is noted at an entry -/
theorem PassX.note (ok : c.Ok) (x : PassX c P w K H v pm p dx l d s dv ks ls) {n : Nat} {a : Addr} {vs : List V} {t : List QM.Ad} {av : V} {ad : QM.Ad} (h1 : ls[n]? = some a) (h2 : H a = some (.lst vs)) (hv : Ads K H vs t) (hav : AdAt K H av ad) (hz : t.length ≤ 1000) :
    PassX c P w K (upd H a (.lst (vs ++ [av]))) v ⟨pm.d, QM.setTo pm.es n (t ++ [ad])⟩ p dx l d s dv ks ls ∧ Chg c (l :: d :: s :: ls) H (l :: d :: s :: ls) (upd H a (.lst (vs ++ [av]))) := by
  have nd := x.nd
  simp only [List.nodup_cons, List.mem_cons, not_or] at nd
  obtain ⟨⟨ld, lss, lls⟩, ⟨ds, dls⟩, sls, nls⟩ := nd
  have hm : a ∈ ls := List.mem_of_getElem? h1
  have ch : Chg c [a] H [a] (upd H a (.lst (vs ++ [av]))) := Chg.write (by simp) h2 nI_l
  have la : l ≠ a := fun z => lls (z ▸ hm)
  have da : d ≠ a := fun z => dls (z ▸ hm)
  have sa : s ≠ a := fun z => sls (z ▸ hm)
  refine ⟨⟨x.ev, ch.keep _ _ x.ins (.inr ⟨ok.PS, ok.PM⟩), x.door.chg ok ch, ?_, ?_, setTo_keys (x.keys.chg ch), by rw [upd_ne sa]; exact x.se, ?_, x.nd⟩, ch.more (fun q hq => ?_) (fun z hz => .inr (.inl hz))⟩
  · show upd H a _ l = some (.lst ((QM.setTo pm.es n (t ++ [ad])).map _))
    rw [upd_ne la, setTo_inner]
    exact x.li
  · show upd H a _ d = some (ND P w d (kvOf ks (QM.setTo pm.es n (t ++ [ad])) 0))
    rw [upd_ne da, setTo_kv]
    exact x.di
  · exact TosAt.set (c := c) x.tos nls h1 (by rw [h2] <;> rfl) (Paired.snoc hv hav) (by rw [List.length_append, List.length_singleton]; omega)
  · have e : q = a := by simpa using hq
    subst e
    simp [hm]
end
end QD
set_option Elab.async false
set_option linter.all false
set_option maxRecDepth 100000
set_option maxHeartbeats 4000000
namespace QD
open PySem PySem.Spec PyProof.Rows L2

/-! ### the text by places -/
def top (i : Nat) : Stmt := PySem.Challenge.pw_quietdoors_k76_whole_meeting_both_ways.main.body.getD i (.Pass ⟨0, 0, 0, 0⟩)
abbrev sIsFilter : Stmt := top 9
abbrev sDoorI : Stmt := inClass (top 13) 0
abbrev sGives : Stmt := inClass (top 13) 1
abbrev sLets : Stmt := inClass (top 13) 2
abbrev sSix : Stmt := inClass (top 13) 4
abbrev sEndI : Stmt := inClass (top 14) 0
abbrev sDoors : Stmt := inClass (top 14) 1
abbrev sAdd : Stmt := inClass (top 14) 7
abbrev sPasI : Stmt := inClass (top 18) 0
abbrev sPasS : Stmt := inClass (top 18) 1
abbrev sPasC : Stmt := inClass (top 18) 2
abbrev sSideI : Stmt := inClass (top 19) 0
abbrev sSideS : Stmt := inClass (top 19) 1
abbrev sSideL : Stmt := inClass (top 19) 2
abbrev sSideN : Stmt := inClass (top 19) 3
abbrev sMeetI : Stmt := inClass (top 20) 0
abbrev sMeetS : Stmt := inClass (top 20) 1
abbrev sMeetK : Stmt := inClass (top 20) 2
abbrev sMeetH : Stmt := inClass (top 20) 3
abbrev sMeetO : Stmt := inClass (top 20) 4
abbrev sMeetN : Stmt := inClass (top 20) 5
abbrev sMeetR : Stmt := inClass (top 20) 6
abbrev sPlayed : Stmt := top 21
abbrev sMeets : Stmt := top 22
abbrev sRounds : Stmt := top 23
abbrev sBegin : Stmt := top 25
abbrev sMixed : Stmt := top 26
abbrev sDraw : Stmt := top 27
abbrev sMkEnd : Stmt := top 28
abbrev sEnd : Stmt := top 29
abbrev sRight : Stmt := top 30
abbrev sLaw : Stmt := top 31

/-- what isinstance asks of a class -/
structure IsC (K : PySem.W.Frag) (C : Addr) : Prop where
  ha : PySem.W.findIn K (.ref C) "__class__" = some (some (.builtin "object.__class__"))
  hn : PySem.W.specialIn K (.builtin "object.__class__") "__get__" = some (some (.builtin "getset_descriptor.__get__"))
  tk : PySem.W.takesIn K (.builtin "object.__class__") = some true
  hm : PySem.W.mroIn K C (.type "object") = some true
  kit : PySem.W.kitOne K (.ref C) (.ref C) = some true
/-- what the top has left: classes, constants, names that are still built in -/
structure Txt (K : PySem.W.Frag) (mg : Str → Option Value) (c : CL) : Prop where
  ok : c.Ok
  clD : Cls K c.D
  clE : Cls K c.E
  clP : Cls K c.P
  clS : Cls K c.S
  clM : Cls K c.M
  nD1 : NoAttr K c.D "kept_gives"
  nD2 : NoAttr K c.D "kept_lets"
  nE1 : NoAttr K c.E "kept_doors"
  nP1 : NoAttr K c.P "door"
  nP2 : NoAttr K c.P "inner_of"
  nP3 : NoAttr K c.P "by_key"
  nP4 : NoAttr K c.P "sent_to"
  nS1 : NoAttr K c.S "place"
  nS2 : NoAttr K c.S "passages"
  nS3 : NoAttr K c.S "addresses"
  nS4 : NoAttr K c.S "has_heard"
  nM1 : NoAttr K c.M "sides"
  nM2 : NoAttr K c.M "own_rounds"
  nM3 : NoAttr K c.M "is_stuck"
  isE : IsC K c.E
  isD : IsC K c.D
  mgD : mg "Door" = some (.ref c.D)
  mgE : mg "End" = some (.ref c.E)
  mgP : mg "Passage" = some (.ref c.P)
  mgS : mg "Side" = some (.ref c.S)
  mgM : mg "Meeting" = some (.ref c.M)
  len : mg "len" = none
  isi : mg "isinstance" = none
  str : mg "str" = none
  int : mg "int" = none
  abs : mg "abs" = none
  range : mg "range" = none
  all : mg "all" = none
  tuple : mg "tuple" = none
  sorted : mg "sorted" = none
  house : ∃ a, mg "HOUSE" = some (.ref a) ∧ ∀ H, SqT K H a [.str "house", .int 0]
  places : ∃ a, mg "PLACES" = some (.ref a) ∧ ∀ H, SqT K H a [.str "x", .str "y"]
  maps : ∃ a, mg "MAPS" = some (.ref a) ∧ ∀ H, SqT K H a [.str "one", .str "each"]
  filters : ∃ a, mg "FILTERS" = some (.ref a) ∧ ∀ H, SqT K H a [.str "any", .str "house", .str "door"]
  most : ∃ t, mg "MOST_DOORS" = some (.int 3 t)

theorem gS_each (d : QM.Dr) : decide (V.str (gS d) = V.str "each") = d.each := by
  unfold gS
  cases d.each with
  | true => exact decide_eq_true rfl
  | false =>
    refine decide_eq_false fun z => ?_
    have z2 : ("one" : Str) = "each" := by injection z
    exact absurd z2 (by decide +kernel)
theorem hu9 {A : Around} {k : Nat} (hr : Room k A) : A.units + 9 < cLine := by have := hr.un; omega
theorem hu65 {A : Around} {k : Nat} (hr : Room k A) : A.units + 65 < cLine := by have := hr.un; omega

section
variable {P : Program} {w : World} {K : PySem.W.Frag} {mg : Str → Option Value} {base : Heap} {c : CL}
/-! ### the getters -/
theorem scG : FnScope ["self"] ["self"] (defScope sGives) := ⟨rfl, rfl, rfl, by decide +kernel, rfl, by decide +kernel, by decide +kernel⟩
theorem ok_gives {f : Addr} {fd : FuncData} (F : Fun K "gives" "Door.gives" sGives f fd) (T : Txt K mg c) : FnOk P w K mg base CX0 1 f fd ["self"] (getSp c.D "kept_gives") := by
  refine F.ok scG (fun vs H Q E h => ?_) (fun cdv A outer s H vs Q E hr h => ?_)
  · obtain ⟨a, dx, fs, v, rfl, _⟩ := h
    rfl
  · obtain ⟨a, dx, fs, v, rfl, ea, l, q⟩ := h
    exact ⟨_, pss_one (ps_ret (pe_fld (pv 0) rfl)), _, rfl, a, c.D, dx, fs, v, rfl, ea, T.clD, T.nD1, l, q⟩
theorem scLt : FnScope ["self"] ["self"] (defScope sLets) := ⟨rfl, rfl, rfl, by decide +kernel, rfl, by decide +kernel, by decide +kernel⟩
theorem ok_lets {f : Addr} {fd : FuncData} (F : Fun K "lets" "Door.lets" sLets f fd) (T : Txt K mg c) : FnOk P w K mg base CX0 1 f fd ["self"] (getSp c.D "kept_lets") := by
  refine F.ok scLt (fun vs H Q E h => ?_) (fun cdv A outer s H vs Q E hr h => ?_)
  · obtain ⟨a, dx, fs, v, rfl, _⟩ := h
    rfl
  · obtain ⟨a, dx, fs, v, rfl, ea, l, q⟩ := h
    exact ⟨_, pss_one (ps_ret (pe_fld (pv 0) rfl)), _, rfl, a, c.D, dx, fs, v, rfl, ea, T.clD, T.nD2, l, q⟩
theorem scDs : FnScope ["self"] ["self"] (defScope sDoors) := ⟨rfl, rfl, rfl, by decide +kernel, rfl, by decide +kernel, by decide +kernel⟩
theorem ok_doors {f : Addr} {fd : FuncData} (F : Fun K "doors" "End.doors" sDoors f fd) (T : Txt K mg c) : FnOk P w K mg base CX0 1 f fd ["self"] (getSp c.E "kept_doors") := by
  refine F.ok scDs (fun vs H Q E h => ?_) (fun cdv A outer s H vs Q E hr h => ?_)
  · obtain ⟨a, dx, fs, v, rfl, _⟩ := h
    rfl
  · obtain ⟨a, dx, fs, v, rfl, ea, l, q⟩ := h
    exact ⟨_, pss_one (ps_ret (pe_fld (pv 0) rfl)), _, rfl, a, c.E, dx, fs, v, rfl, ea, T.clE, T.nE1, l, q⟩

/-! ### Passage.__init__ -/
def spPasI (c : CL) (P : Program) (w : World) (K : PySem.W.Frag) : Sp := fun vs H Q _ => ∃ (p dx : Addr) (dv : V) (d : QM.Dr), vs = [.ref p, dv] ∧ H p = some (.ins c.P dx []) ∧ DoorAt c H dv d ∧
  ∀ H' F, PassAt c P w K H' (.ref p) ⟨d, []⟩ F → (∀ q ∈ F, H q = none) → (∀ q o, q ≠ p → H q = some o → H' q = some o) → Q .non H'
theorem scPI : FnScope ["self", "door"] ["self", "door"] (defScope sPasI) := ⟨rfl, rfl, rfl, by decide +kernel, rfl, by decide +kernel, by decide +kernel⟩
theorem ok_pasI {f : Addr} {fd : FuncData} (F : Fun K "__init__" "Passage.__init__" sPasI f fd) (T : Txt K mg c) : FnOk P w K mg base CX0 1 f fd ["self", "door"] (spPasI c P w K) := by
  refine F.ok scPI (fun vs H Q E h => ?_) (fun cdv A outer s H vs Q E hr h => ?_)
  · obtain ⟨p, dx, dv, d, rfl, _⟩ := h
    rfl
  · obtain ⟨p, dx, dv, d, rfl, hp, hd, k⟩ := h
    refine ⟨_, pss_cons (ps_fld (pv 0) (pv 1) rfl) (pss_cons (ps_fld (pv 0) (pe_lst pa_nil) rfl) (pss_cons (ps_fld (pv 0) pe_dnewN rfl) (pss_one (ps_fld (pv 0) (pe_lst pa_nil) rfl)))), ?_⟩
    refine ⟨_, rfl, _, rfl, p, c.P, dx, [], rfl, hp, T.clP, T.nP1, (by show 0 < 1000; decide), ?_⟩
    refine ⟨Nat.zero_le _, fun l hl => ?_⟩
    have pl : p ≠ l := ne_of_none upd_same hl
    refine ⟨_, rfl, p, c.P, dx, _, rfl, (by rw [upd_ne pl]; exact upd_same), T.clP, T.nP2, (by show 1 < 1000; decide), ?_⟩
    intro d1 hd1
    have pd1 : p ≠ d1 := ne_of_none upd_same hd1
    refine ⟨_, rfl, p, c.P, dx, _, rfl, (by rw [upd_ne pd1]; exact upd_same), T.clP, T.nP3, (by show 2 < 1000; decide), ?_⟩
    refine ⟨Nat.zero_le _, fun s1 hs1 => ?_⟩
    have ps1 : p ≠ s1 := ne_of_none upd_same hs1
    refine ⟨_, rfl, p, c.P, dx, _, rfl, (by rw [upd_ne ps1]; exact upd_same), T.clP, T.nP4, (by show 3 < 1000; decide), ?_⟩
    rw [fP_mk]
    have ld1 : l ≠ d1 := fun z => by
      subst z
      rw [upd_ne pl.symm, upd_same] at hd1
      cases hd1
    have ls1 : l ≠ s1 := fun z => by
      subst z
      rw [upd_ne pl.symm, upd_ne ld1, upd_ne pl.symm, upd_same] at hs1
      cases hs1
    have ds1 : d1 ≠ s1 := fun z => by
      subst z
      rw [upd_ne pd1.symm, upd_same] at hs1
      cases hs1
    have hl0 : H l = Option.none := by rw [upd_ne pl.symm] at hl; exact hl
    have hd0 : H d1 = Option.none := by rw [upd_ne pd1.symm, upd_ne ld1.symm, upd_ne pd1.symm] at hd1; exact hd1
    have hs0 : H s1 = Option.none := by rw [upd_ne ps1.symm, upd_ne ds1.symm, upd_ne ps1.symm, upd_ne ls1.symm, upd_ne ps1.symm] at hs1; exact hs1
    refine (fun hk => k _ [l, d1, s1] ⟨p, dx, l, d1, s1, dv, [], [], ⟨rfl, upd_same, ?_, ?_, ?_, .nil, ?_, .nil, ?_⟩, rfl⟩ (fun q hq => ?_) hk) (fun q o hq e => ?_)
    · obtain ⟨pd, ddx, rfl, e⟩ := hd
      have n1 : pd ≠ p := ne_of e hp (fun z => by
        injection z with z1 z2 z3
        exact nomatch z3)
      exact ⟨pd, ddx, rfl, hk _ _ n1 e⟩
    · rw [upd_ne pl.symm, upd_ne ls1, upd_ne pl.symm, upd_ne ld1, upd_ne pl.symm, upd_same] <;> rfl
    · rw [upd_ne pd1.symm, upd_ne ds1, upd_ne pd1.symm, upd_same] <;> rfl
    · rw [upd_ne ps1.symm, upd_same] <;> rfl
    · simp [ld1, ls1, ds1]
    · simp only [List.mem_cons, List.not_mem_nil, or_false] at hq
      rcases hq with rfl | rfl | rfl
      · exact hl0
      · exact hd0
      · exact hs0
    · rw [upd_ne hq, upd_ne (ne_of_none e hs0), upd_ne hq, upd_ne (ne_of_none e hd0), upd_ne hq, upd_ne (ne_of_none e hl0), upd_ne hq]
      exact e


/-! ### Passage.sent -/
theorem enIx_at {i : Nat} {a : QM.Ad} : ∀ {es : List QM.En} {n m : Nat}, QM.enIx i a es n = some m → ∃ j e, m = n + j ∧ QM.atE es j = some e
  | [], _, _, h => nomatch h
  | e :: r, n, m, h => by
    unfold QM.enIx at h
    by_cases q : (Nat.beq e.inner i && QM.adEq e.key a) = true
    · rw [if_pos q] at h
      exact ⟨0, e, by have := Option.some.inj h; omega, rfl⟩
    · rw [if_neg q] at h
      obtain ⟨j, e', h1, h2⟩ := enIx_at h
      exact ⟨j + 1, e', by omega, h2⟩
theorem enIx_snoc {i : Nat} {a : QM.Ad} : ∀ {es : List QM.En} {n : Nat} {t : List QM.Ad}, QM.enIx i a es n = none → QM.enIx i a (es ++ [⟨i, a, t⟩]) n = some (n + es.length)
  | [], n, t, _ => by
    show (if (Nat.beq i i && QM.adEq a a) = true then some n else none) = _
    rw [if_pos (by rw [Nat.beq_refl, adEq_iff.mpr rfl] <;> rfl)] <;> rfl
  | e :: r, n, t, h => by
    unfold QM.enIx at h
    by_cases q : (Nat.beq e.inner i && QM.adEq e.key a) = true
    · rw [if_pos q] at h; cases h
    · rw [if_neg q] at h
      show QM.enIx i a (e :: (r ++ [⟨i, a, t⟩])) n = _
      unfold QM.enIx
      rw [if_neg q, enIx_snoc h, List.length_cons]
      congr 1
      omega
theorem atE_get : ∀ {es : List QM.En} {n : Nat}, QM.atE es n = es[n]?
  | [], _ => rfl
  | _ :: _, 0 => rfl
  | _ :: r, n + 1 => by
    show QM.atE r n = _
    rw [atE_get] <;> simp
/-- stage one: the entry is there -/
def hasE (es : List QM.En) (i : Nat) (k : QM.Ad) : Option (List QM.En × Nat) :=
  match QM.enIx i k es 0 with
  | some n => some (es, n)
  | none => if Nat.ble es.length 1000 then some (es ++ [⟨i, k, []⟩], es.length) else none
theorem sentP_split {pm pm' : QM.Pm} {i n : Nat} {a : QM.Ad} (h : QM.sentP pm i a = some (pm', n)) : ∃ es e, hasE pm.es i (QM.keyOf pm.d a) = some (es, n) ∧ QM.enIx i (QM.keyOf pm.d a) es 0 = some n ∧ QM.atE es n = some e ∧
    ((QM.hasAd a e.to = true ∧ pm' = ⟨pm.d, es⟩) ∨ (QM.hasAd a e.to = false ∧ e.to.length ≤ 1000 ∧ pm' = ⟨pm.d, QM.setTo es n (e.to ++ [a])⟩)) := by
  have note : ∀ (es : List QM.En) (m : Nat), (QM.noteE es m a).map (fun x => ((⟨pm.d, x⟩ : QM.Pm), m)) = some (pm', n) → m = n ∧ ∃ e, QM.atE es n = some e ∧
      ((QM.hasAd a e.to = true ∧ pm' = ⟨pm.d, es⟩) ∨ (QM.hasAd a e.to = false ∧ e.to.length ≤ 1000 ∧ pm' = ⟨pm.d, QM.setTo es n (e.to ++ [a])⟩)) := by
    intro es m h
    unfold QM.noteE at h
    cases q : QM.atE es m with
    | none => rw [q] at h; cases h
    | some e =>
      rw [q] at h
      dsimp only at h
      by_cases q2 : QM.hasAd a e.to = true
      · rw [if_pos q2] at h
        cases h
        exact ⟨rfl, e, q, .inl ⟨q2, rfl⟩⟩
      · rw [if_neg q2] at h
        by_cases q3 : Nat.ble e.to.length 1000 = true
        · rw [if_pos q3] at h
          cases h
          exact ⟨rfl, e, q, .inr ⟨by simpa using q2, Nat.le_of_ble_eq_true q3, rfl⟩⟩
        · rw [if_neg q3] at h
          cases h
  unfold QM.sentP at h
  cases q : QM.enIx i (QM.keyOf pm.d a) pm.es 0 with
  | some m =>
    rw [q] at h
    obtain ⟨rfl, e, h1, h2⟩ := note _ _ h
    exact ⟨pm.es, e, by unfold hasE; rw [q], q, h1, h2⟩
  | none =>
    rw [q] at h
    dsimp only at h
    by_cases q3 : Nat.ble pm.es.length 1000 = true
    · rw [if_pos q3] at h
      obtain ⟨rfl, e, h1, h2⟩ := note _ _ h
      exact ⟨_, e, by unfold hasE; rw [q]; exact if_pos q3, by rw [enIx_snoc q, Nat.zero_add], h1, h2⟩
    · rw [if_neg q3] at h
      cases h

def spPasS (c : CL) (P : Program) (w : World) (K : PySem.W.Frag) : Sp := fun vs H Q _ => ∃ (v av : V) (i n : Nat) (a : QM.Ad) (pm pm' : QM.Pm) (F : List Addr), vs = [v, .int (i : Int), av] ∧ PassAt c P w K H v pm F ∧ AdAt K H av a ∧ QM.sentP pm i a = some (pm', n) ∧
  ∀ H' F', PassAt c P w K H' v pm' F' → Chg c F H F' H' → Q (.int (n : Int)) H'
theorem scPS : FnScope ["self", "inner", "address", "key", "number"] ["self", "inner", "address"] (defScope sPasS) := ⟨rfl, rfl, rfl, by decide +kernel, rfl, by decide +kernel, by decide +kernel⟩
theorem ok_pasS {f fg pg : Addr} {fd fdg : FuncData} (F : Fun K "sent" "Passage.sent" sPasS f fd) (T : Txt K mg c) (pr : PropOf K c.D "gives" pg fg) (G : FnOk P w K mg base CX0 1 fg fdg ["self"] (getSp c.D "kept_gives")) (bg : Binds K fdg ["self"] []) :
    FnOk P w K mg base CX0 3 f fd ["self", "inner", "address"] (spPasS c P w K) := by
  refine F.ok scPS (fun vs H Q E h => ?_) (fun cdv A outer s H vs Q E hr h => ?_)
  · obtain ⟨v, av, i, n, a, pm, pm', F, rfl, _⟩ := h
    rfl
  · obtain ⟨v, av, i, n, a, pm, pm', F, rfl, hp, hav, hs, k⟩ := h
    obtain ⟨p, dx, l, d, s1, dv, ks, ls, x, eF⟩ := hp
    obtain ⟨es, e, he, hix, hat, hfin⟩ := sentP_split hs
    obtain ⟨hA, mgH, sqH⟩ := T.house
    have hu := hu9 hr
    obtain ⟨pd, ddx, ed, hdoor⟩ := x.door
    have hv := x.ev
    subst hv
    refine ⟨_, C8.pss_cut (ps_set (i := 3) scPS.nd rfl (Or.inl rfl) (pe_ifExp (pt_cmpR op_eq (pe_prop (pe_fld (pv 0) rfl) T.clD pr G hr bg .nil pass0 rfl) pe_str (nomark _)) (pe_tup (pa_cons (pv 1) (pa_cons (pv 2) pa_nil))) (pe_tup (pa_cons (pv 1) (pa_cons (pe_glob (v := V.ref hA) rfl mgH rfl) pa_nil)))))
      (C8.pss_cut (ps_if (pt_cmp (pc_nnotin hu (pv 3) (pe_fld (pv 0) rfl)) rfl)
          (pss_cons (ps_nput hu (pe_fld (pv 0) rfl) (pv 3) (pe_callB call_len_seq (by rfl) T.len PySem.boot_len (pa_cons (pe_fld (pv 0) rfl) pa_nil)) rfl)
          (pss_cons (ps_expr (pe_bm PySem.F.plainAttrs_list PySem.F.slot_list_append PySem.F.type_list_append mt_append (pe_fld (pv 0) rfl) (pa_cons (pv 1) pa_nil)))
          (pss_one (ps_expr (pe_bm PySem.F.plainAttrs_list PySem.F.slot_list_append PySem.F.type_list_append mt_append (pe_fld (pv 0) rfl) (pa_cons (pe_lst pa_nil) pa_nil))))))
          pss_nil)
      (pss_cons (ps_set (i := 4) scPS.nd rfl (Or.inl rfl) (pe_nget hu (pe_fld (pv 0) rfl) (pv 3) (fun _ _ => rfl)))
      (pss_cons (ps_if (pt_cmpR (op_notInD (hu65 hr)) (pv 2) (pe_ix ix_list (pe_fld (pv 0) rfl) (pv 4) (fun _ _ => rfl)) rfl)
          (pss_one (ps_expr (pe_bm PySem.F.plainAttrs_list PySem.F.slot_list_append PySem.F.type_list_append mt_append (pe_ix ix_list (pe_fld (pv 0) rfl) (pv 4) (fun _ _ => rfl)) (pa_cons (pv 2) pa_nil))))
          pss_nil)
      (pss_one (ps_ret (pv 4)))))), ?_⟩
    -- the key
    refine ⟨fun σ H1 => ∃ kp, σ = [some (.ref p), some (.int (i : Int)), some av, some (.ref kp), none] ∧ NIs K H1 kp (nky i (QM.keyOf pm.d a)) ∧ Chg c [] H [] H1, ?_, ?_⟩
    · refine ⟨_, rfl, p, c.P, dx, _, _, rfl, x.ins, T.clP, T.nP1, fP_door, pd, ddx, _, ed, hdoor, pd, ddx, _, _, rfl, hdoor, fD_gives _, rfl, _, rfl, ?_⟩
      rw [gS_each]
      obtain ⟨ap, rfl, hap⟩ := hav
      cases hd : pm.d.each with
      | true =>
        refine iteT ⟨_, rfl, _, rfl, (by show 2 ≤ sizeLine; decide), fun kp hkp => ?_⟩
        have ch : Chg c [] H [] (upd H kp (.tup [.int (i : Int), .ref ap])) := Chg.alloc hkp
        refine ⟨kp, rfl, ?_, ch⟩
        rw [show QM.keyOf pm.d a = a from by unfold QM.keyOf; rw [hd] <;> rfl]
        exact ⟨ap, .of upd_same, ch.seqT hap.2⟩
      | false =>
        refine iteF ⟨_, rfl, (by show 2 ≤ sizeLine; decide), fun kp hkp => ?_⟩
        have ch : Chg c [] H [] (upd H kp (.tup [.int (i : Int), .ref hA])) := Chg.alloc hkp
        refine ⟨kp, rfl, ?_, ch⟩
        rw [show QM.keyOf pm.d a = (0, 0) from by unfold QM.keyOf; rw [hd] <;> rfl]
        exact ⟨hA, .of upd_same, sqH _⟩
    · rintro σ H1 ⟨kp, rfl, hk, ch⟩
      have x1 := x.chg T.ok ch (fun _ _ => by simp)
      have hav1 := hav.chg ch
      have hk2 : (QM.keyOf pm.d a).1 ≤ 2 := by
        unfold QM.keyOf
        split
        · exact hav.le
        · exact Nat.zero_le _
      -- the entry is there
      refine ⟨fun σ H2 => ∃ ks ls, σ = [some (.ref p), some (.int (i : Int)), some av, some (.ref kp), none] ∧ NIs K H2 kp (nky i (QM.keyOf pm.d a)) ∧ PassX c P w K H2 (.ref p) ⟨pm.d, es⟩ p dx l d s1 dv ks ls ∧ Chg c F H (l :: d :: s1 :: ls) H2, ?_, ?_⟩
      · refine ⟨_, rfl, _, rfl, p, c.P, dx, _, _, rfl, x1.ins, T.clP, T.nP3, fP_key, d, _, kp, _, rfl, x1.di, kvOf_keys x1.keys, rfl, hk, _, rfl, ?_⟩
        rw [kvOf_val hk2 x1.keys]
        unfold hasE at he
        cases q : QM.enIx i (QM.keyOf pm.d a) pm.es 0 with
        | some m =>
          rw [q] at he
          cases he
          exact iteF ⟨ks, ls, rfl, hk, x1, ch.more (fun _ z => nomatch z) fun z hz => .inr (.inl (by rw [eF]; exact hz))⟩
        | none =>
          rw [q] at he
          dsimp only at he
          by_cases q3 : Nat.ble pm.es.length 1000 = true
          · rw [if_pos q3] at he
            cases he
            have hz : pm.es.length ≤ 1000 := Nat.le_of_ble_eq_true q3
            have hls : ls.length = pm.es.length := Paired.length x1.tos
            have pnd : p ≠ d := ne_of x1.ins x1.di (fun z => nomatch z)
            have pnl : p ≠ l := ne_of x1.ins x1.li (fun z => nomatch z)
            have nd := x1.nd
            simp only [List.nodup_cons, List.mem_cons, not_or] at nd
            obtain ⟨⟨ld, lss, lls⟩, ⟨ds, dls⟩, sls, nls⟩ := nd
            refine iteT ⟨_, rfl, p, c.P, dx, _, _, rfl, x1.ins, T.clP, T.nP2, fP_inner, l, _, rfl, .inl (SqL.of x1.li), _, rfl, p, c.P, dx, _, _, rfl, x1.ins, T.clP, T.nP3, fP_key, _, rfl, d, _, kp, _, rfl, x1.di, kvOf_keys x1.keys, rfl, hk,
              by rw [kvOf_val hk2 x1.keys, q] <;> rfl, small1000 (by rw [kvOf_length x1.keys]; exact hz), ?_⟩
            simp only [List.length_map]
            have in2 := (upd_ne (o := ND P w d (kvOf ks pm.es 0 ++ [(nky i (QM.keyOf pm.d a), kp, V.int (pm.es.length : Int))])) pnd).trans x1.ins
            have li2 := (upd_ne (o := ND P w d (kvOf ks pm.es 0 ++ [(nky i (QM.keyOf pm.d a), kp, V.int (pm.es.length : Int))])) ld).trans x1.li
            refine ⟨_, rfl, p, c.P, dx, _, _, rfl, in2, T.clP, T.nP2, fP_inner, .inl ⟨rfl, _, SqL.of li2⟩, _, rfl, l, _, _, rfl, rfl, li2, small1000 (by rw [List.length_map]; exact hz), ?_⟩
            have in3 := (upd_ne (o := HO.lst ((pm.es.map fun e => V.int (e.inner : Int)) ++ [V.int (i : Int)])) pnl).trans in2
            have se3 := (upd_ne (o := HO.lst ((pm.es.map fun e => V.int (e.inner : Int)) ++ [V.int (i : Int)])) (Ne.symm lss)).trans ((upd_ne (o := ND P w d (kvOf ks pm.es 0 ++ [(nky i (QM.keyOf pm.d a), kp, V.int (pm.es.length : Int))])) (Ne.symm ds)).trans x1.se)
            refine ⟨_, rfl, p, c.P, dx, _, _, rfl, in3, T.clP, T.nP4, fP_sent, .inl ⟨rfl, _, SqL.of se3⟩, Nat.zero_le _, fun q1 hq1 => ?_⟩
            have se4 := (upd_ne (o := HO.lst []) (ne_of_none se3 hq1)).trans se3
            refine ⟨s1, _, _, rfl, rfl, se4, small1000 (by rw [List.length_map, hls]; exact hz), ?_⟩
            have hq0 : H1 q1 = Option.none := by
              have n1 : q1 ≠ l := fun z => by
                subst z
                rw [upd_same] at hq1
                cases hq1
              have n2 : q1 ≠ d := fun z => by
                subst z
                rw [upd_ne n1, upd_same] at hq1
                cases hq1
              rw [upd_ne n1, upd_ne n2] at hq1
              exact hq1
            obtain ⟨x2, ch2⟩ := x1.add T.ok hk hk2 hq0
            refine ⟨ks ++ [kp], ls ++ [q1], rfl, hk.chg ch2, x2, ?_⟩
            exact (ch.more (F2 := l :: d :: s1 :: ls) (G := F) (fun _ z => nomatch z) fun z hz => .inr (.inl (by rw [eF]; exact hz))).trans ch2
          · rw [if_neg q3] at he
            cases he
      · rintro σ H2 ⟨ks2, ls2, rfl, hk, x2, ch2⟩
        have hav2 := hav.chg ch2
        obtain ⟨al, vs, hls, hal, hvs, _⟩ := TosAt.at_ x2.tos hat
        have hix2 : atI (ls2.map V.ref) ((n : Nat) : Int) = some (V.ref al) := atI_nat (by rw [List.getElem?_map, hls] <;> rfl)
        refine ⟨_, rfl, p, c.P, dx, _, _, rfl, x2.ins, T.clP, T.nP3, fP_key, _, rfl, d, _, kp, _, V.int (n : Int), rfl, x2.di, kvOf_keys x2.keys, rfl, hk, by rw [kvOf_val hk2 x2.keys, hix] <;> rfl, ?_⟩
        refine ⟨_, rfl, _, rfl, p, c.P, dx, _, _, rfl, x2.ins, T.clP, T.nP4, fP_sent, _, rfl, s1, _, _, _, rfl, rfl, SqL.of x2.se, hix2, adD a, e.to.map adD, hav2.dp, .lst (SqL.of hal) hvs.dps, adD_shaped _, adDs_shapedL _, _, rfl, ?_⟩
        rw [hvs.has hav.le]
        rcases hfin with ⟨h1, rfl⟩ | ⟨h1, h2, rfl⟩
        · rw [h1]
          exact iteF ⟨_, rfl, k _ _ ⟨p, dx, l, d, s1, dv, ks2, ls2, x2, rfl⟩ ch2⟩
        · rw [h1]
          obtain ⟨x3, ch3⟩ := x2.note T.ok hls hal hvs hav2 h2
          refine iteT ⟨_, rfl, p, c.P, dx, _, _, rfl, x2.ins, T.clP, T.nP4, fP_sent, _, rfl, s1, _, _, _, rfl, rfl, SqL.of x2.se, hix2, .inl ⟨rfl, _, SqL.of hal⟩, _, rfl, al, _, _, rfl, rfl, hal, small1000 (by rw [Paired.length hvs]; exact h2), ?_⟩
          exact ⟨_, rfl, k _ _ ⟨p, dx, l, d, s1, dv, ks2, ls2, x3, rfl⟩ (ch2.trans ch3)⟩
end
end QD
set_option Elab.async false
set_option linter.all false
set_option maxRecDepth 100000
set_option maxHeartbeats 4000000
namespace QD
open PySem PySem.Spec PyProof.Rows L2

theorem paired_get {α β : Type} {F : α → β → Prop} : ∀ {xs : List α} {ys : List β} {i : Nat} {x : α}, Paired F xs ys → xs[i]? = some x → ∃ y, ys[i]? = some y ∧ F x y
  | _, _, _, _, .nil, e => by simp at e
  | _, _, 0, _, .cons h _, e => by simp at e; subst e; exact ⟨_, rfl, h⟩
  | _, _, i + 1, x, .cons _ t, e => by
    obtain ⟨y, h1, h2⟩ := paired_get (i := i) (x := x) t (by simpa using e)
    exact ⟨y, by simpa using h1, h2⟩
theorem take_snoc {α : Type} {l : List α} {i : Nat} {x : α} (h : l[i]? = some x) : l.take (i + 1) = l.take i ++ [x] := by
  rw [List.take_add_one, h] <;> rfl
theorem lS_house (d : QM.Dr) : decide (V.str (lS d) = V.str "house") = Nat.beq d.lets 1 := by
  unfold lS
  split
  · next e => rw [e]; exact decide_eq_true rfl
  · next e =>
    rw [e]
    refine decide_eq_false fun z => ?_
    have z2 : ("door" : Str) = "house" := by injection z
    exact absurd z2 (by decide +kernel)
  · next h1 h2 =>
    have : Nat.beq d.lets 1 = false := by
      cases q : Nat.beq d.lets 1 with
      | false => rfl
      | true => exact absurd (Nat.eq_of_beq_eq_true q) h1
    rw [this]
    refine decide_eq_false fun z => ?_
    have z2 : ("any" : Str) = "house" := by injection z
    exact absurd z2 (by decide +kernel)
theorem lS_door (d : QM.Dr) : decide (V.str (lS d) = V.str "door") = Nat.beq d.lets 2 := by
  unfold lS
  split
  · next e =>
    rw [e]
    refine decide_eq_false fun z => ?_
    have z2 : ("house" : Str) = "door" := by injection z
    exact absurd z2 (by decide +kernel)
  · next e => rw [e]; exact decide_eq_true rfl
  · next h1 h2 =>
    have : Nat.beq d.lets 2 = false := by
      cases q : Nat.beq d.lets 2 with
      | false => rfl
      | true => exact absurd (Nat.eq_of_beq_eq_true q) h2
    rw [this]
    refine decide_eq_false fun z => ?_
    have z2 : ("any" : Str) = "door" := by injection z
    exact absurd z2 (by decide +kernel)
def plcs (l : List QM.Ad) : List V := l.map fun b => V.str (plS b.1)
theorem plcs_flat : ∀ l : List QM.Ad, (plcs l).all flatV = true
  | [] => rfl
  | _ :: l => by
    show (true && (plcs l).all flatV) = true
    rw [plcs_flat l] <;> rfl
theorem plcs_in {K : PySem.W.Frag} {H : Hp} {vs : List V} {l : List QM.Ad} (h : Ads K H vs l) {p : Nat} (hp : p ≤ 2) : inV (V.str (plS p)) (plcs l) = QM.hasPl p l := by
  induction h with
  | nil => rfl
  | @cons v a vs l h t ih =>
    show ((plS a.1 == plS p) || inV (V.str (plS p)) (plcs l)) = (Nat.beq a.1 p || QM.hasPl p l)
    rw [ih]
    congr 1
    cases q : Nat.beq a.1 p with
    | true => rw [Nat.eq_of_beq_eq_true q]; exact beq_self_eq_true _
    | false =>
      refine beq_eq_false_iff_ne.mpr fun z => ?_
      have e := plS_inj h.le hp z
      rw [e, Nat.beq_refl] at q
      cases q
theorem atE_some {es : List QM.En} {n : Nat} (h : n < es.length) : ∃ e, QM.atE es n = some e := ⟨es[n], by rw [atE_get]; exact List.getElem?_eq_getElem h⟩

section
variable {P : Program} {w : World} {K : PySem.W.Frag} {mg : Str → Option Value} {base : Heap} {c : CL}
def inV? : Option Nat → V
  | some i => .int (i : Int)
  | none => .non
def spPasC (c : CL) (P : Program) (w : World) (K : PySem.W.Frag) : Sp := fun vs H Q _ => ∃ (v av : V) (n : Nat) (a : QM.Ad) (pm : QM.Pm) (F : List Addr), vs = [v, .int (n : Int), av] ∧ PassAt c P w K H v pm F ∧ AdAt K H av a ∧
  ∀ H', Same H H' → Q (inV? (QM.cameP pm n a)) H'
theorem scPC : FnScope ["self", "number", "address", "others", "place", "other"] ["self", "number", "address"] (defScope sPasC) := ⟨rfl, rfl, rfl, by decide +kernel, rfl, by decide +kernel, by decide +kernel⟩
theorem ok_pasC {f fg pg : Addr} {fd fdg : FuncData} (F : Fun K "came" "Passage.came" sPasC f fd) (T : Txt K mg c) (pr : PropOf K c.D "lets" pg fg) (G : FnOk P w K mg base CX0 1 fg fdg ["self"] (getSp c.D "kept_lets")) (bg : Binds K fdg ["self"] []) :
    FnOk P w K mg base CX0 3 f fd ["self", "number", "address"] (spPasC c P w K) := by
  refine F.ok scPC (fun vs H Q E h => ?_) (fun cdv A outer s H vs Q E hr h => ?_)
  · obtain ⟨v, av, n, a, pm, F, rfl, _⟩ := h
    rfl
  · obtain ⟨v, av, n, a, pm, F, rfl, hp, hav, k⟩ := h
    obtain ⟨p, dx, l, d, s1, dv, ks, ls, x, eF⟩ := hp
    have hv := x.ev
    subst hv
    refine ⟨_, pss_cons (ps_if (pt_cmpR op_ge (pv 1) (pe_callB call_len_seq (by rfl) T.len PySem.boot_len (pa_cons (pe_fld (pv 0) rfl) pa_nil)) (nomark _)) (pss_one (ps_ret pe_non)) pss_nil)
      (pss_cons (ps_set (i := 3) scPC.nd rfl (Or.inl rfl) (pe_ix ix_list (pe_fld (pv 0) rfl) (pv 1) (fun _ _ => rfl)))
      (C8.pss_cut (ps_if (PW.pt (pw_and (pt_cmpR op_eq (pe_prop (pe_fld (pv 0) rfl) T.clD pr G hr bg .nil pass0 rfl) pe_str (nomark _))
          (pw_and1 (pt_cmpR op_notIn_seq (pe_ix ix_tup (pv 2) pe_int (fun _ _ => rfl))
            (pe_lc (own := [("place", 4), ("other", 5)]) (g := gTup K 2 (gCons (gName 4) (gCons (gName 5) gNil))) (tt := tYes) rfl scPC.nd (pi_list (pv 3)) (blkOk_by (N := ["self", "number", "address", "others", "place", "other"]) (sc := defScope sPasC) (by decide +kernel))
              (fun _ _ _ _ _ => pg_tup rfl (pgs_cons (pg_name (i := 4) scPC.nd rfl (Or.inl rfl)) (pgs_cons (pg_name (i := 5) scPC.nd rfl (Or.inl rfl)) pgs_nil))) (fun _ _ _ _ _ => pts_nil) (fun _ _ _ _ _ => pv 4)) (by rfl)))))
          (pss_one (ps_ret pe_non)) pss_nil)
      (C8.pss_cut (ps_if (PW.pt (pw_and (pt_cmpR op_eq (pe_prop (pe_fld (pv 0) rfl) T.clD pr G hr bg .nil pass0 rfl) pe_str (nomark _))
          (pw_and1 (pt_cmpR (op_notInD (hu65 hr)) (pv 2) (pv 3) (by rfl)))))
          (pss_one (ps_ret pe_non)) pss_nil)
      (pss_one (ps_ret (pe_ix ix_list (pe_fld (pv 0) rfl) (pv 1) (fun _ _ => rfl))))))), ?_⟩
    refine ⟨_, rfl, _, rfl, p, c.P, dx, _, _, rfl, x.ins, T.clP, T.nP2, fP_inner, l, _, rfl, .inl (SqL.of x.li), _, _, rfl, rfl, _, rfl, ?_⟩
    rw [List.length_map]
    refine ite2 (fun hn => ?_) (fun hn => ?_)
    · have hn := of_decide_eq_true hn
      have e0 : QM.cameP pm n a = none := by
        unfold QM.cameP
        rw [atE_get, List.getElem?_eq_none (by omega)]
      have z := k H (Same.refl H)
      rw [e0] at z
      exact z
    · have hn : n < pm.es.length := by
        have h2 : ¬ ((pm.es.length : Int) ≤ (n : Int)) := fun z => hn (decide_eq_true z)
        omega
      obtain ⟨e, he⟩ := atE_some hn
      obtain ⟨al, vs, hls, hal, hvs, hlen⟩ := TosAt.at_ x.tos he
      have hix : atI (ls.map V.ref) ((n : Nat) : Int) = some (V.ref al) := atI_nat (by rw [List.getElem?_map, hls] <;> rfl)
      refine ⟨_, rfl, p, c.P, dx, _, _, rfl, x.ins, T.clP, T.nP4, fP_sent, _, rfl, s1, _, _, _, rfl, rfl, SqL.of x.se, hix, ?_⟩
      obtain ⟨ap, rfl, hap⟩ := id hav
      obtain ⟨pd, ddx, ed, hdoor⟩ := id x.door
      have came : QM.cameP pm n a = if (Nat.beq pm.d.lets 1 && !QM.hasPl a.1 e.to) = true then none else if (Nat.beq pm.d.lets 2 && !QM.hasAd a e.to) = true then none else some e.inner := by
        unfold QM.cameP
        rw [he]
      refine ⟨fun σ H1 => (∃ z4 z5, σ = [some (.ref p), some (.int (n : Int)), some (.ref ap), some (.ref al), z4, z5]) ∧ Same H H1 ∧ (Nat.beq pm.d.lets 1 && !QM.hasPl a.1 e.to) = false, ?_, ?_⟩
      · refine ⟨_, rfl, p, c.P, dx, _, _, rfl, x.ins, T.clP, T.nP1, fP_door, pd, ddx, _, ed, hdoor, pd, ddx, _, _, rfl, hdoor, fD_lets _, rfl, _, rfl, ?_⟩
        rw [lS_house]
        cases hl : Nat.beq pm.d.lets 1 with
        | false => exact iteF (iteF ⟨⟨_, _, rfl⟩, Same.refl H, rfl⟩)
        | true =>
          refine iteT ⟨_, rfl, ap, _, 0, _, rfl, rfl, hap.2, rfl, ?_⟩
          refine ⟨_, rfl, al, rfl, ⟨_, SqL.of hal⟩, fun D hD => ?_⟩
          refine lc_list (K := K) (a := al) (xs := vs) (fun i H' => Same H H' ∧ H' D = some (.lst ((plcs e.to).take i))) ⟨fun b o q => by rw [upd_ne (ne_of_none q hD)]; exact q, upd_same⟩ (fun i H' _ q => SqL.of (q.1 _ _ hal)) ?_ ?_
          · rintro i y H' hi ⟨sm, hD'⟩
            have chs : Chg c [] H [] H' := Chg.of_same sm
            obtain ⟨b, hb, yp, rfl, hyp⟩ := paired_get hvs hi
            refine ⟨yp, _, rfl, chs.seqT hyp.2, rfl, _, _, rfl, _, _, rfl, rfl, rfl, ?_⟩
            refine ⟨_, rfl, _, hD', ?_, ?_, ?_⟩
            · refine small1000 (Nat.le_trans (List.length_take_le _ _) ?_)
              have hi2 := (List.getElem?_eq_some_iff.mp hb).1
              omega
            · intro q o hq
              rw [upd_ne (ne_of_none hq hD)]
              exact sm _ _ hq
            · rw [upd_same]
              have hb2 : (plcs e.to)[i]? = some (V.str (plS b.1)) := by
                unfold plcs
                rw [List.getElem?_map, hb] <;> rfl
              rw [take_snoc hb2]
          · rintro H' ⟨sm, hD'⟩
            have hlv : vs.length = (plcs e.to).length := by unfold plcs; rw [List.length_map]; exact Paired.length hvs
            rw [hlv, List.take_length] at hD'
            refine ⟨D, _, rfl, .inl (SqL.of hD'), rfl, plcs_flat _, _, rfl, ?_⟩
            rw [if_pos rfl, plcs_in hvs hav.le]
            cases hh : QM.hasPl a.1 e.to with
            | true => exact iteF ⟨⟨_, _, rfl⟩, sm, rfl⟩
            | false =>
              refine iteT ?_
              have z := k H' sm
              rw [came, hl, hh] at z
              exact z
      · rintro σ H1 ⟨⟨z4, z5, rfl⟩, sm, hf1⟩
        have ch1 : Chg c [] H [] H1 := Chg.of_same sm
        have x1 := x.chg T.ok ch1 (fun _ _ => by simp)
        have hdoor1 := sm _ _ hdoor
        refine ⟨fun σ H2 => (∃ z4 z5, σ = [some (.ref p), some (.int (n : Int)), some (.ref ap), some (.ref al), z4, z5]) ∧ H2 = H1 ∧ (Nat.beq pm.d.lets 2 && !QM.hasAd a e.to) = false, ?_, ?_⟩
        · refine ⟨_, rfl, p, c.P, dx, _, _, rfl, x1.ins, T.clP, T.nP1, fP_door, pd, ddx, _, ed, hdoor1, pd, ddx, _, _, rfl, hdoor1, fD_lets _, rfl, _, rfl, ?_⟩
          rw [lS_door]
          cases hl : Nat.beq pm.d.lets 2 with
          | false => exact iteF (iteF ⟨⟨_, _, rfl⟩, rfl, rfl⟩)
          | true =>
            refine iteT ⟨_, rfl, _, rfl, adD a, e.to.map adD, (hav.chg ch1).dp, .lst (SqL.of (sm _ _ hal)) (hvs.chg ch1).dps, adD_shaped _, adDs_shapedL _, _, rfl, ?_⟩
            rw [hvs.has hav.le]
            cases hh : QM.hasAd a e.to with
            | true => exact iteF ⟨⟨_, _, rfl⟩, rfl, rfl⟩
            | false =>
              refine iteT ?_
              have z := k H1 sm
              rw [came, hf1, hl, hh] at z
              exact z
        · rintro σ H2 ⟨⟨z4, z5, rfl⟩, rfl, hf2⟩
          have hn2 : atI (pm.es.map fun e => V.int (e.inner : Int)) ((n : Nat) : Int) = some (V.int (e.inner : Int)) := atI_nat (by
            rw [List.getElem?_map, ← atE_get, he] <;> rfl)
          refine ⟨_, rfl, p, c.P, dx, _, _, rfl, x1.ins, T.clP, T.nP2, fP_inner, _, rfl, l, _, _, _, rfl, rfl, SqL.of x1.li, hn2, ?_⟩
          have z := k _ sm
          rw [came, hf1, hf2] at z
          exact z
end
end QD
set_option Elab.async false
set_option linter.all false
set_option maxRecDepth 100000
set_option maxHeartbeats 4000000
namespace QD
open PySem PySem.Spec PyProof.Rows L2

/-! ### a row of passages -/
def PassL (c : CL) (P : Program) (w : World) (K : PySem.W.Frag) (H : Hp) : List V → List QM.Pm → List Addr → Prop
  | [], [], F => F = []
  | v :: vs, pm :: ps, F => ∃ F1 F2, F = F1 ++ F2 ∧ PassAt c P w K H v pm F1 ∧ PassL c P w K H vs ps F2
  | _, _, _ => False
section
variable {c : CL} {P : Program} {w : World} {K : PySem.W.Frag} {H H1 : Hp}
theorem PassL.app : ∀ {vs1 vs2 : List V} {ps1 ps2 : List QM.Pm} {F1 F2 : List Addr}, PassL c P w K H vs1 ps1 F1 → PassL c P w K H vs2 ps2 F2 → PassL c P w K H (vs1 ++ vs2) (ps1 ++ ps2) (F1 ++ F2)
  | [], _, [], _, _, _, h, h2 => by
    have e : _ = [] := h
    rw [e]
    exact h2
  | v :: vs, _, pm :: ps, _, _, _, ⟨A, B, e, h, t⟩, h2 => ⟨A, _, by rw [e, List.append_assoc], h, PassL.app t h2⟩
  | [], _, _ :: _, _, _, _, h, _ => h.elim
  | _ :: _, _, [], _, _, _, h, _ => h.elim
theorem PassL.one {v : V} {pm : QM.Pm} {F : List Addr} (h : PassAt c P w K H v pm F) : PassL c P w K H [v] [pm] F := ⟨F, [], (List.append_nil F).symm, h, rfl⟩
theorem PassL.chg (ok : c.Ok) {G G1 : List Addr} (ch : Chg c G H G1 H1) : ∀ {vs : List V} {ps : List QM.Pm} {F : List Addr}, PassL c P w K H vs ps F → (∀ q ∈ F, q ∉ G) → PassL c P w K H1 vs ps F
  | [], [], _, h, _ => h
  | v :: vs, pm :: ps, F, ⟨A, B, e, h, t⟩, hd => ⟨A, B, e, h.chg ok ch (fun q hq => hd q (by rw [e]; exact List.mem_append_left _ hq)), PassL.chg ok ch t fun q hq => hd q (by rw [e]; exact List.mem_append_right _ hq)⟩
  | [], _ :: _, _, h, _ => h.elim
  | _ :: _, [], _, h, _ => h.elim
theorem PassL.there : ∀ {vs : List V} {ps : List QM.Pm} {F : List Addr}, PassL c P w K H vs ps F → ∀ q ∈ F, H q ≠ none
  | [], [], F, h, q, hq => by
    have e : F = [] := h
    rw [e] at hq
    exact nomatch hq
  | v :: vs, pm :: ps, F, ⟨A, B, e, h, t⟩, q, hq => by
    rw [e] at hq
    rcases List.mem_append.mp hq with hq | hq
    · exact h.there q hq
    · exact PassL.there t q hq
  | [], _ :: _, _, h, _, _ => h.elim
  | _ :: _, [], _, h, _, _ => h.elim
theorem PassL.pair : ∀ {vs : List V} {ps : List QM.Pm} {F : List Addr}, PassL c P w K H vs ps F → Paired (fun v pm => ∃ F, PassAt c P w K H v pm F) vs ps
  | [], [], _, _ => .nil
  | v :: vs, pm :: ps, F, ⟨A, B, e, h, t⟩ => .cons ⟨A, h⟩ (PassL.pair t)
  | [], _ :: _, _, h => h.elim
  | _ :: _, [], _, h => h.elim
end
theorem paired_rev {α β : Type} {F : α → β → Prop} : ∀ {xs : List α} {ys : List β}, Paired F xs ys → Paired F xs.reverse ys.reverse
  | _, _, .nil => .nil
  | _, _, .cons h t => by
    rw [List.reverse_cons, List.reverse_cons]
    exact Paired.snoc (paired_rev t) h
/-- in the middle of a foot something has changed -/
theorem mid_nodup {A B C C' : List Addr} {H : Hp} (h : (A ++ (C ++ B)).Nodup) (nd : C'.Nodup) (nw : ∀ q, q ∈ C' → q ∈ C ∨ H q = Option.none) (ha : ∀ q ∈ A, H q ≠ Option.none) (hb : ∀ q ∈ B, H q ≠ Option.none) : (A ++ (C' ++ B)).Nodup := by
  simp only [List.nodup_append, List.mem_append] at h ⊢
  obtain ⟨h1, ⟨h2, h3, h4⟩, h5⟩ := h
  refine ⟨h1, ⟨nd, h3, fun a ha' b hb' e => ?_⟩, fun a ha' b hb' e => ?_⟩
  · rcases nw a ha' with z | z
    · exact h4 a z b hb' e
    · rw [e] at z; exact hb b hb' z
  · rcases hb' with hb' | hb'
    · rcases nw b hb' with z | z
      · exact h5 a ha' b (.inl z) e
      · rw [← e] at z; exact ha a ha' z
    · exact h5 a ha' b (.inr hb') e

/-! ### a side -/
def otherP (pl : Nat) : Nat := 3 - pl
structure SideX (c : CL) (P : Program) (w : World) (K : PySem.W.Frag) (H : Hp) (v : V) (pl : Nat) (sd : QM.Sd) (p dx lp la : Addr) (vp : List V) (F : List Addr) (va : List V) : Prop where
  ev : v = .ref p
  ins : H p = some (.ins c.S dx (fS (.str (plS pl)) lp la (.bl sd.hd)))
  lps : H lp = some (.lst vp)
  pas : PassL c P w K H vp sd.ps F
  las : H la = some (.lst va)
  ads : Ads K H va (sd.ad.map fun n => (otherP pl, n))
  adl : sd.ad.length ≤ 1001
  nd : (p :: lp :: la :: F).Nodup
  ple : pl = 1 ∨ pl = 2
def SideAt (c : CL) (P : Program) (w : World) (K : PySem.W.Frag) (H : Hp) (v : V) (pl : Nat) (sd : QM.Sd) (G : List Addr) : Prop := ∃ p dx lp la vp F va, SideX c P w K H v pl sd p dx lp la vp F va ∧ G = p :: lp :: la :: F
section
variable {c : CL} {P : Program} {w : World} {K : PySem.W.Frag} {H H1 : Hp} {v : V} {pl : Nat} {sd : QM.Sd} {p dx lp la : Addr} {vp va : List V} {F G G1 G2 : List Addr}
theorem SideX.chg (ok : c.Ok) (x : SideX c P w K H v pl sd p dx lp la vp F va) (ch : Chg c G H G1 H1) (hd : ∀ q ∈ p :: lp :: la :: F, q ∉ G) : SideX c P w K H1 v pl sd p dx lp la vp F va where
  ev := x.ev
  ins := ch.keep _ _ x.ins (.inl (hd _ (by simp)))
  lps := ch.keep _ _ x.lps (.inl (hd _ (by simp)))
  pas := x.pas.chg ok ch fun q hq => hd q (by simp [hq])
  las := ch.keep _ _ x.las (.inl (hd _ (by simp)))
  ads := x.ads.chg ch
  adl := x.adl
  nd := x.nd
  ple := x.ple
theorem SideAt.chg (ok : c.Ok) (x : SideAt c P w K H v pl sd G2) (ch : Chg c G H G1 H1) (hd : ∀ q ∈ G2, q ∉ G) : SideAt c P w K H1 v pl sd G2 := by
  obtain ⟨p, dx, lp, la, vp, F, va, x, rfl⟩ := x
  exact ⟨p, dx, lp, la, vp, F, va, x.chg ok ch hd, rfl⟩
theorem SideX.there (x : SideX c P w K H v pl sd p dx lp la vp F va) : ∀ q ∈ p :: lp :: la :: F, H q ≠ none := fun q hq => by
  rcases List.mem_cons.mp hq with e | hq
  · subst e; rw [x.ins]; exact fun z => nomatch z
  rcases List.mem_cons.mp hq with e | hq
  · subst e; rw [x.lps]; exact fun z => nomatch z
  rcases List.mem_cons.mp hq with e | hq
  · subst e; rw [x.las]; exact fun z => nomatch z
  · exact x.pas.there q hq
theorem SideAt.there (x : SideAt c P w K H v pl sd G) : ∀ q ∈ G, H q ≠ none := by
  obtain ⟨p, dx, lp, la, vp, F, va, x, rfl⟩ := x
  exact x.there
theorem SideAt.nd (x : SideAt c P w K H v pl sd G) : G.Nodup := by
  obtain ⟨p, dx, lp, la, vp, F, va, x, rfl⟩ := x
  exact x.nd
end
theorem hasN_ad (pl n : Nat) : ∀ l : List Nat, QM.hasAd (pl, n) (l.map fun m => (pl, m)) = QM.hasN n l
  | [] => rfl
  | m :: l => by
    show (QM.adEq (pl, m) (pl, n) || QM.hasAd (pl, n) (l.map fun m => (pl, m))) = (Nat.beq m n || QM.hasN n l)
    rw [hasN_ad pl n l]
    congr 1
    show (Nat.beq pl pl && Nat.beq m n) = _
    rw [Nat.beq_refl] <;> rfl
end QD
set_option Elab.async false
set_option linter.all false
set_option maxRecDepth 100000
set_option maxHeartbeats 4000000
namespace QD
open PySem PySem.Spec PyProof.Rows L2
section
variable {P : Program} {w : World} {K : PySem.W.Frag} {mg : Str → Option Value} {base : Heap} {c : CL}

/-! ### Side.learns -/
def spSideN (c : CL) (P : Program) (w : World) (K : PySem.W.Frag) : Sp := fun vs H Q _ => ∃ (v av : V) (n pl : Nat) (sd sd' : QM.Sd) (b : Bool) (G : List Addr), vs = [v, av] ∧ SideAt c P w K H v pl sd G ∧ AdAt K H av (otherP pl, n) ∧ QM.learnS sd n = some (sd', b) ∧
  ∀ H', SideAt c P w K H' v pl sd' G → Chg c G H G H' → Q (.bl b) H'
theorem scSN : FnScope ["self", "address", "is_new"] ["self", "address"] (defScope sSideN) := ⟨rfl, rfl, rfl, by decide +kernel, rfl, by decide +kernel, by decide +kernel⟩
theorem ok_sideN {f : Addr} {fd : FuncData} (F : Fun K "learns" "Side.learns" sSideN f fd) (T : Txt K mg c) : FnOk P w K mg base CX0 1 f fd ["self", "address"] (spSideN c P w K) := by
  refine F.ok scSN (fun vs H Q E h => ?_) (fun cdv A outer s H vs Q E hr h => ?_)
  · obtain ⟨v, av, n, pl, sd, sd', b, G, rfl, _⟩ := h
    rfl
  · obtain ⟨v, av, n, pl, sd, sd', b, G, rfl, hs, hav, hl, k⟩ := h
    obtain ⟨p, dx, lp, la, vp, F, va, x, rfl⟩ := hs
    have hv := x.ev
    subst hv
    refine ⟨_, pss_cons (ps_set (i := 2) scSN.nd rfl (Or.inl rfl) (pe_cmpR (op_notInD (hu65 hr)) (pv 1) (pe_fld (pv 0) rfl) (by rfl)))
      (pss_cons (ps_if (pt_val (pv 2)) (pss_one (ps_expr (pe_bm PySem.F.plainAttrs_list PySem.F.slot_list_append PySem.F.type_list_append mt_append (pe_fld (pv 0) rfl) (pa_cons (pv 1) pa_nil)))) pss_nil)
      (pss_one (ps_ret (pv 2)))), ?_⟩
    refine ⟨_, rfl, _, rfl, p, c.S, dx, _, _, rfl, x.ins, T.clS, T.nS3, fS_ads, adD (otherP pl, n), (sd.ad.map fun n => (otherP pl, n)).map adD, hav.dp, .lst (SqL.of x.las) x.ads.dps, adD_shaped _, adDs_shapedL _, ?_⟩
    rw [x.ads.has hav.le, hasN_ad]
    refine ⟨_, rfl, _, rfl, ?_⟩
    unfold QM.learnS at hl
    cases q : QM.hasN n sd.ad with
    | true =>
      rw [q, if_pos rfl] at hl
      cases hl
      exact iteF ⟨_, rfl, k _ ⟨p, dx, lp, la, vp, F, va, x, rfl⟩ Chg.refl⟩
    | false =>
      rw [q, if_neg Bool.false_ne_true] at hl
      by_cases q2 : Nat.ble sd.ad.length 1000 = true
      · rw [if_pos q2] at hl
        cases hl
        have hz : sd.ad.length ≤ 1000 := Nat.le_of_ble_eq_true q2
        have hlen : va.length = sd.ad.length := by rw [Paired.length x.ads, List.length_map]
        have nd := x.nd
        simp only [List.nodup_cons, List.mem_cons, not_or] at nd
        obtain ⟨⟨n1, n2, n3⟩, ⟨n4, n5⟩, n6, n7⟩ := nd
        have ch : Chg c [la] H [la] (upd H la (.lst (va ++ [av]))) := Chg.write (by simp) x.las nI_l
        refine iteT ⟨_, rfl, p, c.S, dx, _, _, rfl, x.ins, T.clS, T.nS3, fS_ads, .inl ⟨rfl, _, SqL.of x.las⟩, _, rfl, la, _, _, rfl, rfl, x.las, small1000 (by omega), ?_⟩
        refine ⟨_, rfl, k _ ⟨p, dx, lp, la, vp, F, va ++ [av], ⟨rfl, by rw [upd_ne n2]; exact x.ins, by rw [upd_ne n4]; exact x.lps, x.pas.chg T.ok ch (fun q hq z => ?_), upd_same, ?_, ?_, x.nd, x.ple⟩, rfl⟩ (ch.more (fun q hq => ?_) fun q hq => .inr (.inl hq))⟩
        · have e : q = la := by simpa using z
          subst e
          exact n6 hq
        · show Ads K _ _ ((sd.ad ++ [n]).map _)
          rw [List.map_append]
          exact Paired.snoc (x.ads.chg ch) (hav.chg ch)
        · show (sd.ad ++ [n]).length ≤ 1001
          rw [List.length_append, List.length_singleton]
          omega
        · have e : q = la := by simpa using hq
          subst e
          simp
      · rw [if_neg q2] at hl
        cases hl

/-! ### Side.lets_in -/
def spSideL (c : CL) (P : Program) (w : World) (K : PySem.W.Frag) : Sp := fun vs H Q _ => ∃ (v av : V) (n pl : Nat) (a : QM.Ad) (sd : QM.Sd) (G : List Addr), vs = [v, .int (n : Int), av] ∧ SideAt c P w K H v pl sd G ∧ AdAt K H av a ∧
  ∀ H', Same H H' → Q (.bl (QM.inL sd.ps.reverse n a)) H'
theorem scSL : FnScope ["self", "number", "address", "passage"] ["self", "number", "address"] (defScope sSideL) := ⟨rfl, rfl, rfl, by decide +kernel, rfl, by decide +kernel, by decide +kernel⟩
theorem ok_sideL {f fC : Addr} {fd fdC : FuncData} (F : Fun K "lets_in" "Side.lets_in" sSideL f fd) (T : Txt K mg c) (mC : Meth K c.P "came" fC) (G : FnOk P w K mg base CX0 3 fC fdC ["self", "number", "address"] (spPasC c P w K)) (bC : Binds K fdC ["self", "number", "address"] []) :
    FnOk P w K mg base CX0 4 f fd ["self", "number", "address"] (spSideL c P w K) := by
  refine F.ok scSL (fun vs H Q E h => ?_) (fun cdv A outer s H vs Q E hr h => ?_)
  · obtain ⟨v, av, n, pl, a, sd, G, rfl, _⟩ := h
    rfl
  · obtain ⟨v, av, n, pl, a, sd, G, rfl, hs, hav, k⟩ := h
    obtain ⟨p, dx, lp, la, vp, F, va, x, rfl⟩ := hs
    have hv := x.ev
    subst hv
    refine ⟨_, pss_cons (ps_for PassesOwn.never rfl (pi_list (pe_revL (pe_fld (pv 0) rfl))) (pg_name (i := 3) scSL.nd rfl (Or.inl rfl))
        (pss_cons (ps_set (i := 1) scSL.nd rfl (Or.inl rfl) (pe_meth (pv 3) T.clP mC G hr bC .nil pass0 (pa_cons (pv 1) (pa_cons (pv 2) pa_nil))))
        (pss_one (ps_if (pt_cmp (pc_isN (pv 1)) rfl) (pss_one (ps_ret pe_bl)) pss_nil))))
      (pss_one (ps_ret pe_bl)), ?_⟩
    refine ⟨_, rfl, p, c.S, dx, _, _, rfl, x.ins, T.clS, T.nS2, fS_pas, lp, _, rfl, SqL.of x.lps, fun r hr0 => ⟨r, rfl, ⟨_, SqL.of upd_same⟩, ?_⟩⟩
    have s1 : Same H (upd H r (.lst vp.reverse)) := fun q o e => by rw [upd_ne (ne_of_none e hr0)]; exact e
    have pr := paired_rev x.pas.pair
    refine for_list (K := K) (a := r) (xs := vp.reverse) (fun i σ H' => (∃ (m : Nat) (z3 : Option V), σ = [some (.ref p), some (.int (m : Int)), some av, z3] ∧ QM.inL (sd.ps.reverse.drop i) m a = QM.inL sd.ps.reverse n a) ∧ Same (upd H r (.lst vp.reverse)) H')
      ⟨⟨n, _, rfl, by rw [List.drop_zero]⟩, Same.refl _⟩ (fun i σ H' _ q => SqL.of (q.2 _ _ upd_same)) ?_ ?_
    · rintro i y σ H' hi ⟨⟨m, z3, rfl, hm⟩, sm⟩
      have sm0 := s1.trans sm
      have ch : Chg c [] H [] H' := Chg.of_same sm0
      obtain ⟨pm, hpm, F1, hpa⟩ := paired_get pr hi
      have hpa' := hpa.chg T.ok ch (fun _ _ => by simp)
      obtain ⟨pp, pdx, pl0, pd0, ps0, pdv, pks, pls, px, _⟩ := id hpa'
      have ey := px.ev
      subst ey
      refine ⟨_, rfl, pp, pdx, _, rfl, px.ins, fP_noC, _, rfl, _, rfl, V.ref pp, av, m, a, pm, F1, rfl, hpa', hav.chg ch, fun H2 sm2 => ?_⟩
      have hd : sd.ps.reverse.drop i = pm :: sd.ps.reverse.drop (i + 1) := by
        obtain ⟨hlt, he⟩ := List.getElem?_eq_some_iff.mp hpm
        rw [List.drop_eq_getElem_cons hlt, he]
      rw [hd] at hm
      have e1 : QM.inL (pm :: sd.ps.reverse.drop (i + 1)) m a = (match QM.cameP pm m a with | none => false | some j => QM.inL (sd.ps.reverse.drop (i + 1)) j a) := rfl
      rw [e1] at hm
      cases q : QM.cameP pm m a with
      | none =>
        rw [q] at hm
        refine ⟨_, rfl, _, rfl, iteT ?_⟩
        have z := k H2 (sm0.trans sm2)
        rw [← hm] at z
        exact z
      | some j =>
        rw [q] at hm
        exact ⟨_, rfl, _, rfl, iteF ⟨⟨j, _, rfl, hm⟩, sm.trans sm2⟩⟩
    · rintro σ H' ⟨⟨m, z3, rfl, hm⟩, sm⟩
      have hlen : vp.reverse.length = sd.ps.reverse.length := Paired.length pr
      rw [hlen, List.drop_length] at hm
      have z := k H' (s1.trans sm)
      rw [← hm] at z
      exact z

/-! ### Side.sent -/
def spSideS (c : CL) (P : Program) (w : World) (K : PySem.W.Frag) : Sp := fun vs H Q _ => ∃ (v av : V) (n pl : Nat) (a : QM.Ad) (sd sd' : QM.Sd) (G : List Addr), vs = [v, av] ∧ SideAt c P w K H v pl sd G ∧ AdAt K H av a ∧ QM.sentS sd a = some (sd', n) ∧
  ∀ H' G' q, SideAt c P w K H' v pl sd' G' → Chg c G H G' H' → AdT K H' q (pl, n) → Q (.ref q) H'
theorem scSS : FnScope ["self", "address", "number", "passage"] ["self", "address"] (defScope sSideS) := ⟨rfl, rfl, rfl, by decide +kernel, rfl, by decide +kernel, by decide +kernel⟩
theorem ok_sideS {f fS' : Addr} {fd fdS : FuncData} (F : Fun K "sent" "Side.sent" sSideS f fd) (T : Txt K mg c) (mS : Meth K c.P "sent" fS') (G : FnOk P w K mg base CX0 3 fS' fdS ["self", "inner", "address"] (spPasS c P w K)) (bS : Binds K fdS ["self", "inner", "address"] []) :
    FnOk P w K mg base CX0 4 f fd ["self", "address"] (spSideS c P w K) := by
  refine F.ok scSS (fun vs H Q E h => ?_) (fun cdv A outer s H vs Q E hr h => ?_)
  · obtain ⟨v, av, n, pl, a, sd, sd', G, rfl, _⟩ := h
    rfl
  · obtain ⟨v, av, n, pl, a, sd, sd', G, rfl, hs, hav, hm, k⟩ := h
    obtain ⟨p, dx, lp, la, vp, F, va, x, rfl⟩ := hs
    have hv := x.ev
    subst hv
    have nd := x.nd
    simp only [List.nodup_cons, List.mem_cons, not_or] at nd
    obtain ⟨⟨n1, n2, n3⟩, ⟨n4, n5⟩, n6, n7⟩ := nd
    obtain ⟨ps2, hps, rfl⟩ : ∃ ps2, QM.sentL sd.ps 0 a = some (ps2, n) ∧ sd' = ⟨ps2, sd.ad, sd.hd⟩ := by
      unfold QM.sentS at hm
      cases q : QM.sentL sd.ps 0 a with
      | none => rw [q] at hm; cases hm
      | some r =>
        obtain ⟨r1, r2⟩ := r
        rw [q] at hm
        cases hm
        exact ⟨r1, rfl, rfl⟩
    refine ⟨_, pss_cons (ps_set (i := 2) scSS.nd rfl (Or.inl rfl) pe_int) (pss_cons (ps_for PassesOwn.never rfl (pi_list (pe_fld (pv 0) rfl)) (pg_name (i := 3) scSS.nd rfl (Or.inl rfl))
        (pss_one (ps_set (i := 2) scSS.nd rfl (Or.inl rfl) (pe_meth (pv 3) T.clP mS G hr bS .nil pass0 (pa_cons (pv 2) (pa_cons (pv 1) pa_nil))))))
      (pss_one (ps_ret (pe_tup (pa_cons (pe_fld (pv 0) rfl) (pa_cons (pv 2) pa_nil)))))), ?_⟩
    refine ⟨_, rfl, p, c.S, dx, _, _, rfl, x.ins, T.clS, T.nS2, fS_pas, lp, rfl, ⟨_, SqL.of x.lps⟩, ?_⟩
    refine for_list (K := K) (a := lp) (xs := vp) (fun i σ H' => ∃ (m : Nat) (z3 : Option V) (ps1 psr psr' : List QM.Pm) (F1 Fr : List Addr), σ = [some (.ref p), some av, some (.int (m : Int)), z3] ∧ PassL c P w K H' (vp.take i) ps1 F1 ∧ PassL c P w K H' (vp.drop i) psr Fr ∧
        QM.sentL psr m a = some (psr', n) ∧ ps2 = ps1 ++ psr' ∧ (F1 ++ Fr).Nodup ∧ Chg c F H (F1 ++ Fr) H')
      ⟨0, _, [], sd.ps, ps2, [], F, rfl, rfl, x.pas, hps, rfl, n7, Chg.refl⟩ (fun i σ H' _ ⟨_, _, _, _, _, _, _, _, _, _, _, _, _, ch⟩ => SqL.of (ch.keep _ _ x.lps (.inl n5))) ?_ ?_
    · rintro i y σ H' hi ⟨m, z3, ps1, psr, psr', F1, Fr, rfl, h1, h2, h3, rfl, h5, ch⟩
      obtain ⟨hlt, he⟩ := List.getElem?_eq_some_iff.mp hi
      rw [List.drop_eq_getElem_cons hlt, he] at h2
      cases psr with
      | nil => exact h2.elim
      | cons pm psr =>
        obtain ⟨Fa, Fb, rfl, hpa, hrest⟩ := h2
        have e1 : QM.sentL (pm :: psr) m a = (match QM.sentP pm m a with | none => none | some (p', n) => match QM.sentL psr n a with | none => none | some (r', k) => some (p' :: r', k)) := rfl
        rw [e1] at h3
        cases q : QM.sentP pm m a with
        | none => rw [q] at h3; cases h3
        | some r =>
          obtain ⟨pm', m'⟩ := r
          rw [q] at h3
          dsimp only at h3
          cases q2 : QM.sentL psr m' a with
          | none => rw [q2] at h3; cases h3
          | some r =>
            obtain ⟨r', kk⟩ := r
            rw [q2] at h3
            cases h3
            obtain ⟨pp, pdx, pl0, pd0, ps0, pdv, pks, pls, px, _⟩ := id hpa
            have ey := px.ev
            subst ey
            refine ⟨_, rfl, pp, pdx, _, rfl, px.ins, fP_noS, _, rfl, _, rfl, V.ref pp, av, m, m', a, pm, pm', Fa, rfl, hpa, hav.chg ch, q, fun H2 Fa' hpa2 ch2 => ?_⟩
            have hnd := mid_nodup h5 hpa2.nd ch2.new h1.there hrest.there
            have d1 : ∀ q ∈ F1, q ∉ Fa := fun q hq z => by
              have h6 := (List.nodup_append.mp h5).2.2 q hq q (List.mem_append_left _ z)
              exact h6 rfl
            have d2 : ∀ q ∈ Fb, q ∉ Fa := fun q hq z => by
              have h6 := (List.nodup_append.mp (List.nodup_append.mp h5).2.1).2.2 q z q hq
              exact h6 rfl
            refine ⟨m', _, ps1 ++ [pm'], psr, r', F1 ++ Fa', Fb, rfl, ?_, hrest.chg T.ok ch2 d2, q2, by rw [List.append_assoc] <;> rfl, by rw [List.append_assoc]; exact hnd, ?_⟩
            · rw [take_snoc hi]
              exact (h1.chg T.ok ch2 d1).app (PassL.one hpa2)
            · refine ch.trans (ch2.more (fun q hq => List.mem_append_right _ (List.mem_append_left _ hq)) fun q hq => ?_)
              rw [List.append_assoc] at hq
              rcases List.mem_append.mp hq with hq | hq
              · exact .inr (.inl (List.mem_append_left _ hq))
              rcases List.mem_append.mp hq with hq | hq
              · exact .inl hq
              · exact .inr (.inl (List.mem_append_right _ (List.mem_append_right _ hq)))
    · rintro σ H' ⟨m, z3, ps1, psr, psr', F1, Fr, rfl, h1, h2, h3, e2, h5, ch⟩
      rw [List.take_length] at h1
      rw [List.drop_length] at h2
      cases psr with
      | cons pm psr => exact h2.elim
      | nil =>
        have e0 : Fr = [] := h2
        subst e0
        have e3 : some (([] : List QM.Pm), m) = some (psr', n) := h3
        cases e3
        rw [List.append_nil] at e2 ch h5
        subst e2
        have ch3 : Chg c (p :: lp :: la :: F) H (p :: lp :: la :: F1) H' := ch.more (fun q hq => by simp [hq]) fun q hq => by
          simp only [List.mem_cons] at hq
          rcases hq with z | z | z | z
          · exact .inr (.inl (by simp [z]))
          · exact .inr (.inl (by simp [z]))
          · exact .inr (.inl (by simp [z]))
          · exact .inl z
        have nF1 : ∀ q, H q ≠ none → q ∉ F → q ∉ F1 := fun q hq hF z => (ch.new q z).elim hF hq
        have x2 : SideX c P w K H' (.ref p) pl ⟨ps2, sd.ad, sd.hd⟩ p dx lp la vp F1 va := ⟨rfl, ch.keep _ _ x.ins (.inl n3), ch.keep _ _ x.lps (.inl n5), h1, ch.keep _ _ x.las (.inl n6), x.ads.chg ch, x.adl, by
          simp only [List.nodup_cons, List.mem_cons, not_or]
          refine ⟨⟨n1, n2, nF1 _ (by rw [x.ins]; exact fun z => nomatch z) n3⟩, ⟨n4, nF1 _ (by rw [x.lps]; exact fun z => nomatch z) n5⟩, nF1 _ (by rw [x.las]; exact fun z => nomatch z) n6, h5⟩, x.ple⟩
        refine ⟨_, rfl, p, c.S, dx, _, _, rfl, x2.ins, T.clS, T.nS1, fS_place, _, rfl, (by show 2 ≤ sizeLine; decide), fun t ht => ?_⟩
        have ch4 : Chg c [] H' [] (upd H' t (.tup [.str (plS pl), .int (n : Int)])) := Chg.alloc ht
        refine k _ (p :: lp :: la :: F1) t ⟨p, dx, lp, la, vp, F1, va, x2.chg T.ok ch4 (fun _ _ => by simp), rfl⟩ (ch3.trans (Chg.alloc ht)) ⟨?_, SqT.of upd_same⟩
        show pl ≤ 2
        rcases x.ple with z | z <;> omega

/-! ### Side.__init__ -/
def mkP (d : QM.Dr) : QM.Pm := ⟨d, []⟩
def spSideI (c : CL) (P : Program) (w : World) (K : PySem.W.Frag) : Sp := fun vs H Q _ => ∃ (p dx : Addr) (ev : V) (ds : List QM.Dr) (pl : Nat), vs = [.ref p, ev, .str (plS pl)] ∧ (pl = 1 ∨ pl = 2) ∧ H p = some (.ins c.S dx []) ∧ EndAt c H ev ds ∧
  ∀ H' F, SideAt c P w K H' (.ref p) pl (QM.mkSd ds) (p :: F) → (∀ q ∈ F, H q = none) → (∀ q o, q ≠ p → H q = some o → H' q = some o) → Q .non H'
theorem scSI : FnScope ["self", "end", "place", "door"] ["self", "end", "place"] (defScope sSideI) := ⟨rfl, rfl, rfl, by decide +kernel, rfl, by decide +kernel, by decide +kernel⟩
theorem ok_sideI {f fP' fg pg : Addr} {fd fdP fdg : FuncData} (F : Fun K "__init__" "Side.__init__" sSideI f fd) (T : Txt K mg c) (pr : PropOf K c.E "doors" pg fg) (Gd : FnOk P w K mg base CX0 1 fg fdg ["self"] (getSp c.E "kept_doors")) (bg : Binds K fdg ["self"] [])
    (M : Mk K c.P fP') (G : FnOk P w K mg base CX0 1 fP' fdP ["self", "door"] (spPasI c P w K)) (bP : Binds K fdP ["self", "door"] []) : FnOk P w K mg base CX0 3 f fd ["self", "end", "place"] (spSideI c P w K) := by
  refine F.ok scSI (fun vs H Q E h => ?_) (fun cdv A outer s H vs Q E hr h => ?_)
  · obtain ⟨p, dx, ev, ds, pl, rfl, _⟩ := h
    rfl
  · obtain ⟨p, dx, ev, ds, pl, rfl, hpl, hp, he, k⟩ := h
    refine ⟨_, pss_cons (ps_fld (pv 0) (pv 2) rfl) (pss_cons (ps_fld (pv 0) (pe_lc (own := [("door", 3)]) (g := gName 3) (tt := tYes) rfl scSI.nd (pi_tup (pe_prop (pv 1) T.clE pr Gd hr bg .nil pass0 rfl)) (blkOk_by (N := ["self", "end", "place", "door"]) (sc := defScope sSideI) (by decide +kernel))
          (fun _ _ _ _ _ => pg_name (i := 3) scSI.nd rfl (Or.inl rfl)) (fun _ _ _ _ _ => pts_nil) (fun _ _ _ _ _ => pe_make M G hr (by rfl) T.mgP bP .nil pass0 (pa_cons (pv 3) pa_nil))) rfl)
      (pss_cons (ps_fld (pv 0) (pe_lst pa_nil) rfl) (pss_one (ps_fld (pv 0) pe_bl rfl)))), ?_⟩
    refine ⟨_, rfl, _, rfl, p, c.S, dx, [], rfl, hp, T.clS, T.nS1, (by show 0 < 1000; decide), ?_⟩
    obtain ⟨ep, edx, et, dvs, rfl, he1, he2, he3, he4⟩ := he
    have nep : ep ≠ p := ne_of he1 hp (fun z => by
      injection z with z1 z2 z3
      exact nomatch z3)
    have netp : et ≠ p := ne_of he2 hp (fun z => nomatch z)
    generalize hH1 : upd H p (.ins c.S dx (putF "place" (V.str (plS pl)) [])) = H1
    have kp : ∀ q o, q ≠ p → H q = some o → H1 q = some o := fun q o hq e => by rw [← hH1, upd_ne hq]; exact e
    have hp1 : H1 p = some (.ins c.S dx (putF "place" (V.str (plS pl)) [])) := by rw [← hH1]; exact upd_same
    have h0 : ∀ q, H1 q = Option.none → H q = Option.none := fun q z => by
      by_cases hq : q = p
      · rw [hq, hp1] at z; cases z
      · rw [← hH1, upd_ne hq] at z; exact z
    have hds : Paired (DoorAt c H1) dvs ds := Paired.mapP he3 fun v d ⟨pd, ddx, e, z⟩ => ⟨pd, ddx, e, kp _ _ (ne_of z hp (fun y => by
      injection y with z1 z2 z3
      exact nomatch z3)) z⟩
    refine ⟨_, rfl, ep, edx, _, rfl, kp _ _ nep he1, ep, edx, _, _, rfl, kp _ _ nep he1, fE_doors _, et, rfl, ⟨_, SqT.of (kp _ _ netp he2)⟩, fun D hD => ?_⟩
    refine lc_tup (K := K) (a := et) (xs := dvs) (fun i H' => ∃ vps F, H' D = some (.lst vps) ∧ PassL c P w K H' vps ((ds.take i).map mkP) F ∧ F.Nodup ∧ D ∉ F ∧ (∀ q ∈ F, H1 q = Option.none) ∧ Same H1 H')
      ⟨[], [], upd_same, rfl, List.nodup_nil, (fun z => nomatch z), (fun q z => nomatch z), fun q o e => by rw [upd_ne (ne_of_none e hD)]; exact e⟩ (fun i H' _ ⟨_, _, _, _, _, _, _, sm⟩ => SqT.of (sm _ _ (kp _ _ netp he2))) ?_ ?_
    · rintro i y H' hi ⟨vps, F, hDv, hL, hnd, hDF, hfr, sm⟩
      obtain ⟨d, hd, hdo⟩ := paired_get hds hi
      refine ⟨rfl, ?_⟩
      refine ⟨_, rfl, fun x dx' nx ndx ne => ?_⟩
      have old : ∀ q o, H' q = some o → (upd (upd H' dx' (.own x)) x (.ins c.P dx' [])) q = some o := fun q o e => by
        rw [upd_ne (ne_of_none e nx), upd_ne (ne_of_none e ndx)]; exact e
      have fr : ∀ q, (upd (upd H' dx' (.own x)) x (.ins c.P dx' [])) q = Option.none → H' q = Option.none := fun q z => by
        cases e : H' q with
        | none => rfl
        | some o => rw [old q o e] at z; cases z
      refine ⟨x, dx', y, d, rfl, upd_same, ?_, fun H2 F2 hpa hF2 keep => ⟨rfl, ?_⟩⟩
      · obtain ⟨pd, ddx, e, z⟩ := hdo
        exact ⟨pd, ddx, e, old _ _ (sm _ _ z)⟩
      · have sm2 : Same H' H2 := fun q o e => keep q o (ne_of_none e nx) (old q o e)
        have ch2 : Chg c [] H' [] H2 := Chg.of_same sm2
        have hD2 := sm2 _ _ hDv
        have hlen : vps.length ≤ 1000 := by
          have := Paired.length hL.pair
          rw [this, List.length_map, List.length_take]
          omega
        refine ⟨vps, hD2, small1000 hlen, vps ++ [V.ref x], F ++ F2, upd_same, ?_, ?_, ?_, ?_, ?_⟩
        · have ch3 : Chg c [D] H2 [D] (upd H2 D (.lst (vps ++ [V.ref x]))) := Chg.write (by simp) hD2 nI_l
          rw [take_snoc hd, List.map_append]
          refine ((hL.chg T.ok ch2 (fun _ _ => by simp)).chg T.ok ch3 (fun q hq z => ?_)).app (PassL.one (hpa.chg T.ok ch3 (fun q hq z => ?_)))
          · have e : q = D := by simpa using z
            subst e
            exact hDF hq
          · have e : q = D := by simpa using z
            subst e
            have z2 := fr _ (hF2 _ hq)
            rw [hDv] at z2; cases z2
        · refine List.nodup_append.mpr ⟨hnd, hpa.nd, fun a ha b hb e => ?_⟩
          subst e
          exact hL.there a ha (fr _ (hF2 _ hb))
        · intro z
          rcases List.mem_append.mp z with z | z
          · exact hDF z
          · have z2 := fr _ (hF2 _ z)
            rw [hDv] at z2; cases z2
        · intro q hq
          rcases List.mem_append.mp hq with z | z
          · exact hfr q z
          · cases e : H1 q with
            | none => rfl
            | some o =>
              have z2 := fr _ (hF2 _ z)
              rw [sm _ _ e] at z2; cases z2
        · intro q o e
          rw [upd_ne (ne_of_none e hD)]
          exact sm2 _ _ (sm _ _ e)
    · rintro H2 ⟨vps, F, hDv, hL, hnd, hDF, hfr, sm⟩
      have hlen : dvs.length = ds.length := Paired.length hds
      rw [hlen, List.take_length] at hL
      have hp2 := sm _ _ hp1
      refine ⟨_, rfl, p, c.S, dx, _, rfl, hp2, T.clS, T.nS2, (by show 1 < 1000; decide), ?_⟩
      refine ⟨Nat.zero_le _, fun la hla => ?_⟩
      have pla : p ≠ la := ne_of_none upd_same hla
      have hla2 : H2 la = Option.none := by rw [upd_ne pla.symm] at hla; exact hla
      have Dla : D ≠ la := ne_of_none hDv hla2
      have pD : p ≠ D := ne_of hp2 hDv (fun z => nomatch z)
      refine ⟨_, rfl, p, c.S, dx, _, rfl, (by rw [upd_ne pla]; exact upd_same), T.clS, T.nS3, (by show 2 < 1000; decide), ?_⟩
      refine ⟨_, rfl, p, c.S, dx, _, rfl, upd_same, T.clS, T.nS4, (by show 3 < 1000; decide), ?_⟩
      rw [fS_mk]
      have pF : p ∉ F := fun z => by
        have z2 := hfr _ z
        rw [hp1] at z2; cases z2
      have laF : la ∉ F := fun z => hL.there _ z hla2
      generalize hH5 : upd (upd (upd (upd H2 p (.ins c.S dx (putF "passages" (V.ref D) (putF "place" (V.str (plS pl)) [])))) la (.lst [])) p (.ins c.S dx (putF "addresses" (V.ref la) (putF "passages" (V.ref D) (putF "place" (V.str (plS pl)) []))))) p (.ins c.S dx (fS (V.str (plS pl)) D la (V.bl false))) = H5
      have keep5 : ∀ q o, q ≠ p → H2 q = some o → H5 q = some o := fun q o hq e => by
        rw [← hH5, upd_ne hq, upd_ne hq, upd_ne (ne_of_none e hla2), upd_ne hq]
        exact e
      have la5 : H5 la = some (.lst []) := by rw [← hH5, upd_ne pla.symm, upd_ne pla.symm, upd_same]
      have p5 : H5 p = some (.ins c.S dx (fS (V.str (plS pl)) D la (V.bl false))) := by rw [← hH5, upd_same]
      have ch5 : Chg c [p] H2 [p] H5 := by
        refine ⟨fun q o e z => keep5 q o (fun y => ?_) e, fun q z => .inl z⟩
        subst y
        rcases z with z | z
        · exact z (by simp)
        · rw [hp2] at e
          cases e
          exact z.1 rfl
      refine k H5 (D :: la :: F) ⟨p, dx, D, la, vps, F, [], ⟨rfl, p5, keep5 _ _ pD.symm hDv, hL.chg T.ok ch5 (fun q hq z => ?_), la5, .nil, Nat.zero_le _, ?_, hpl⟩, rfl⟩ (fun q hq => ?_) (fun q o hq e => ?_)
      · have e : q = p := by simpa using z
        subst e
        exact pF hq
      · simp only [List.nodup_cons, List.mem_cons, not_or]
        exact ⟨⟨pD, pla, pF⟩, ⟨Dla, hDF⟩, laF, hnd⟩
      · simp only [List.mem_cons] at hq
        rcases hq with z | z | z
        · subst z; exact h0 _ hD
        · subst z
          refine h0 _ ?_
          cases e : H1 q with
          | none => rfl
          | some o => rw [sm _ _ e] at hla2; cases hla2
        · exact h0 _ (hfr _ z)
      · exact keep5 q o hq (sm _ _ (kp q o hq e))
end
end QD
set_option Elab.async false
set_option linter.all false
set_option maxRecDepth 100000
set_option maxHeartbeats 4000000
namespace QD
open PySem PySem.Spec PyProof.Rows L2
section
variable {X : Cx}
/-- name = {..} on one line, the name a local -/
theorem ps_setDc {i : Nat} {y : Str} {py : Pos} {kx vx tg iter : Expr} {ifs : List Expr} {scope : Scope} {own : List (Str × Nat)} {pos spos : Pos} {wi : TI} {g : TG} {tt : TT} {tk tv : TE} (hc : X.calm = true) (hN : X.N.Nodup) (hy : X.N[i]? = some y) (hyl : X.env.scope.names.lookup y = some .local)
    (hsw : swapsWith (.DictComp kx vx [⟨tg, iter, ifs, 0⟩] scope pos) (some (.Name y py)) spos.line X.env = pure true) (hi : PI X tg iter wi) (ok : BlkOk X.N X.env.scope scope own)
    (hg : ∀ (s : Shared) (H : Hp) (C : Addr) (cl : List (Str × Addr)) (fp : List Addr), PG (X.blk s H scope (compEnvC scope cl C X.env) fp) tg g) (ht : ∀ (s : Shared) (H : Hp) (C : Addr) (cl : List (Str × Addr)) (fp : List Addr), PTs (X.blk s H scope (compEnvC scope cl C X.env) fp) ifs tt)
    (hk : ∀ (s : Shared) (H : Hp) (C : Addr) (cl : List (Str × Addr)) (fp : List Addr), PE (X.blk s H scope (compEnvC scope cl C X.env) fp) kx tk)
    (he : ∀ (s : Shared) (H : Hp) (C : Addr) (cl : List (Str × Addr)) (fp : List Addr), PE (X.blk s H scope (compEnvC scope cl C X.env) fp) vx tv) (hs : ∀ x, foldedSetIterable iter X.env x = pure x := by intro _; rfl) :
    PS X (.Assign [.Name y py] (.DictComp kx vx [⟨tg, iter, ifs, 0⟩] scope pos) spos) (tAsg (tDc wi g tt tk tv (own.map (·.2))) (gName i)) := by
  refine ⟨fun pins s σ H D I h => ?_⟩
  rw [exec_Assign_Name_used _ _ _ _ hsw]
  refine wpAny_bind (wpAny_standAt (wpAny_bind ?_))
  show wpAny _ X.A (do let _ ← comprehension (.DictComp kx vx [⟨tg, iter, ifs, 0⟩] scope pos) scope X.env (firstIterPos [⟨tg, iter, ifs, 0⟩] pos) newDict false (eval iter X.env) (some (assign (.Name y py) X.env))) _ _ s
  have h : tDc wi g tt tk tv (own.map (·.2)) σ H (fun x H1 => gName i x σ H1 D.nx) := h
  refine wpAny_bind (thn (dc_core (Qf := fun _ s' => SP X pins D .next s') hc hN I hi ok hg ht hk he hs h fun L C s' m H' I' q hn f => ?_) fun _ s' hq => wpAny_pure (wpAny_pure hq))
  show wpAny _ _ (assign (.Name y py) X.env (.ref L)) _ _ _
  refine wpAny_assign_Name (store_ok2 (v := V.ref L) I' hN hy (.inl hyl) rfl (fun s2 I2 ⟨a, sb, ha⟩ => ?_) (.inr hyl))
  obtain ⟨f0, f1, f2, f3, f4, f5⟩ := f
  have haC : C ≠ a := by
    rcases ha with z | z
    · rw [z]; exact f1
    · exact fun e => f4 y a z e.symm
  refine ⟨m, hn.sameBut sb haC, fun h3 sb3 => ?_⟩
  exact ⟨_, H', I2.turned (t' := s2.toks) (fun b o hb e => (sb3.2 b hb).trans e) f0 f1 f3 f4 f5, q⟩
theorem sw_trueD {kx vx : Expr} {gs : List Comprehension} {scope : Scope} {pos py : Pos} {y : Str} {l : Nat} {env : Env} (hk : env.scope.kind = .function) (hy : env.scope.names.lookup y = some .local) (hl : (py.line == pos.line) = true)
    (ha : (scope.names.any fun (n, k) => n == y && (k == .local || k == .cell)) = false) : swapsWith (.DictComp kx vx gs scope pos) (some (.Name y py)) l env = pure true := by
  have ky : env.kindOf y = some .local := hy
  have hb : env.blockKind = .function := by unfold Env.blockKind; rw [hk]; rfl
  unfold swapsWith
  simp only [hb, ky, ha, Expr.pos, hl]
  rfl
end

/-! ### sorting -/
theorem ins_perm (n : Nat) : ∀ l : List Nat, (QM.ins n l).Perm (n :: l)
  | [] => .refl _
  | m :: r => by
    unfold QM.ins
    split
    · exact .refl _
    · exact ((ins_perm n r).cons m).trans (.swap n m r)
theorem sortN_perm : ∀ l : List Nat, (QM.sortN l).Perm l
  | [] => .refl _
  | n :: r => (ins_perm n _).trans ((sortN_perm r).cons n)
theorem ins_sorted (n : Nat) : ∀ l : List Nat, l.Pairwise (· ≤ ·) → (QM.ins n l).Pairwise (· ≤ ·)
  | [], _ => by simp [QM.ins]
  | m :: r, h => by
    obtain ⟨h1, h2⟩ := List.pairwise_cons.mp h
    unfold QM.ins
    split
    · next q =>
      have q := Nat.le_of_ble_eq_true q
      refine List.pairwise_cons.mpr ⟨fun a ha => ?_, h⟩
      rcases List.mem_cons.mp ha with e | ha
      · omega
      · have := h1 a ha; omega
    · next q =>
      have q : ¬ n ≤ m := fun z => q (Nat.ble_eq_true_of_le z)
      refine List.pairwise_cons.mpr ⟨fun a ha => ?_, ins_sorted n r h2⟩
      have ha := (ins_perm n r).mem_iff.mp ha
      rcases List.mem_cons.mp ha with e | ha
      · omega
      · exact h1 a ha
theorem sortN_sorted : ∀ l : List Nat, (QM.sortN l).Pairwise (· ≤ ·)
  | [] => .nil
  | n :: r => ins_sorted n _ (sortN_sorted r)
theorem sorted_eq : ∀ {l m : List Nat}, l.Perm m → l.Pairwise (· ≤ ·) → m.Pairwise (· ≤ ·) → l = m
  | [], m, h, _, _ => by
    have := h.length_eq
    cases m with
    | nil => rfl
    | cons b s => simp at this
  | a :: r, [], h, _, _ => by
    have := h.length_eq
    simp at this
  | a :: r, b :: s, h, hl, hm => by
    obtain ⟨l1, l2⟩ := List.pairwise_cons.mp hl
    obtain ⟨m1, m2⟩ := List.pairwise_cons.mp hm
    have e : a = b := by
      have ha : a ∈ b :: s := h.mem_iff.mp List.mem_cons_self
      have hb : b ∈ a :: r := h.mem_iff.mpr List.mem_cons_self
      rcases List.mem_cons.mp ha with z | z
      · exact z
      rcases List.mem_cons.mp hb with y | y
      · exact y.symm
      · have := m1 a z
        have := l1 b y
        omega
    subst e
    rw [sorted_eq (h.cons_inv) l2 m2]
theorem sort_eq (bs : List (Addr × Nat)) : (bs.mergeSort leN).map (·.2) = QM.sortN (bs.map (·.2)) := by
  refine sorted_eq (((List.mergeSort_perm bs leN).map _).trans (sortN_perm _).symm) ?_ (sortN_sorted _)
  rw [List.pairwise_map]
  have h := List.pairwise_mergeSort (le := leN) (fun a b c h1 h2 => by
    unfold leN at *
    have h1 := of_decide_eq_true h1
    have h2 := of_decide_eq_true h2
    exact decide_eq_true (by omega)) (fun a b => by
    unfold leN
    by_cases q : a.2 ≤ b.2
    · rw [decide_eq_true q] <;> rfl
    · have q2 : b.2 ≤ a.2 := by omega
      rw [decide_eq_true q2, Bool.or_true]) bs
  exact h.imp fun z => of_decide_eq_true z
theorem ads_bs {K : PySem.W.Frag} {H : Hp} {pl : Nat} : ∀ {vs : List V} {ns : List Nat}, Ads K H vs (ns.map fun n => (pl, n)) → ∃ bs : List (Addr × Nat), vs = bs.map (fun b => V.ref b.1) ∧ bs.map (·.2) = ns ∧ ∀ b ∈ bs, AdT K H b.1 (pl, b.2)
  | vs, [], h => by
    have h : Ads K H vs [] := h
    cases h
    exact ⟨[], rfl, rfl, fun b z => nomatch z⟩
  | vs, n :: ns, h => by
    have h : Ads K H vs ((pl, n) :: ns.map fun n => (pl, n)) := h
    cases h with
    | cons h t =>
      obtain ⟨p, rfl, hp⟩ := h
      obtain ⟨bs, rfl, e2, hb⟩ := ads_bs t
      refine ⟨(p, n) :: bs, rfl, by rw [List.map_cons, e2], fun b z => ?_⟩
      rcases List.mem_cons.mp z with e | z
      · subst e; exact hp
      · exact hb b z
theorem bs_ads {K : PySem.W.Frag} {H : Hp} {pl : Nat} : ∀ {bs : List (Addr × Nat)}, (∀ b ∈ bs, AdT K H b.1 (pl, b.2)) → Ads K H (bs.map fun b => V.ref b.1) ((bs.map (·.2)).map fun n => (pl, n))
  | [], _ => .nil
  | b :: bs, h => .cons ⟨b.1, rfl, h b List.mem_cons_self⟩ (bs_ads fun b hb => h b (List.mem_cons_of_mem _ hb))
end QD
set_option Elab.async false
set_option linter.all false
set_option maxRecDepth 100000
set_option maxHeartbeats 4000000
namespace QD
open PySem PySem.Spec PyProof.Rows L2

/-! ### one of two -/
def vsd {α : Type} (pl : Nat) (a b : α) : α := if pl = 1 then a else b
theorem vsd1 {α : Type} {a b : α} : vsd 1 a b = a := rfl
theorem vsd2 {α : Type} {a b : α} : vsd 2 a b = b := rfl
def atP (m : QM.Mt) (pl : Nat) : QM.Sd := vsd pl m.x m.y
def putP (m : QM.Mt) (pl : Nat) (s : QM.Sd) : QM.Mt := if pl = 1 then ⟨s, m.y, m.n, m.st⟩ else ⟨m.x, s, m.n, m.st⟩

/-! ### a meeting -/
def sidesV (vx vy : V) : List (Key × V) := [(.inr "x", vx), (.inr "y", vy)]
theorem sides_val {vx vy : V} {pl : Nat} (h : pl = 1 ∨ pl = 2) : valV (sidesV vx vy) (.inr (plS pl)) = some (vsd pl vx vy) := by
  rcases h with rfl | rfl
  · show valV (sidesV vx vy) (.inr ("x" : Str)) = some vx
    kernel_rfl
  · show valV (sidesV vx vy) (.inr ("y" : Str)) = some vy
    kernel_rfl
structure MeetX (c : CL) (P : Program) (w : World) (K : PySem.W.Frag) (H : Hp) (v : V) (m : QM.Mt) (p dx dS lR : Addr) (vx vy : V) (vr : List V) (Gx Gy : List Addr) : Prop where
  ev : v = .ref p
  ins : H p = some (.ins c.M dx (fM dS lR (.bl m.st)))
  sd : H dS = some (.dK (sidesV vx vy))
  rs : H lR = some (.lst vr)
  rl : vr.length = m.n
  rn : m.n ≤ 1001
  sx : SideAt c P w K H vx 1 m.x Gx
  sy : SideAt c P w K H vy 2 m.y Gy
  nd : (p :: dS :: lR :: (Gx ++ Gy)).Nodup
def MeetAt (c : CL) (P : Program) (w : World) (K : PySem.W.Frag) (H : Hp) (v : V) (m : QM.Mt) (G : List Addr) : Prop := ∃ p dx dS lR vx vy vr Gx Gy, MeetX c P w K H v m p dx dS lR vx vy vr Gx Gy ∧ G = p :: dS :: lR :: (Gx ++ Gy)
section
variable {c : CL} {P : Program} {w : World} {K : PySem.W.Frag} {H H1 : Hp} {v vx vy : V} {m : QM.Mt} {p dx dS lR : Addr} {vr : List V} {Gx Gy G G1 F : List Addr}
theorem MeetX.there (x : MeetX c P w K H v m p dx dS lR vx vy vr Gx Gy) : ∀ q ∈ p :: dS :: lR :: (Gx ++ Gy), H q ≠ none := fun q hq => by
  rcases List.mem_cons.mp hq with e | hq
  · subst e; rw [x.ins]; exact fun z => nomatch z
  rcases List.mem_cons.mp hq with e | hq
  · subst e; rw [x.sd]; exact fun z => nomatch z
  rcases List.mem_cons.mp hq with e | hq
  · subst e; rw [x.rs]; exact fun z => nomatch z
  rcases List.mem_append.mp hq with hq | hq
  · exact x.sx.there q hq
  · exact x.sy.there q hq
theorem MeetAt.there (x : MeetAt c P w K H v m G) : ∀ q ∈ G, H q ≠ none := by
  obtain ⟨p, dx, dS, lR, vx, vy, vr, Gx, Gy, x, rfl⟩ := x
  exact x.there
theorem MeetX.side (x : MeetX c P w K H v m p dx dS lR vx vy vr Gx Gy) {pl : Nat} (h : pl = 1 ∨ pl = 2) : SideAt c P w K H (vsd pl vx vy) pl (atP m pl) (vsd pl Gx Gy) := by
  rcases h with rfl | rfl
  · exact x.sx
  · exact x.sy
theorem MeetX.chg (ok : c.Ok) (x : MeetX c P w K H v m p dx dS lR vx vy vr Gx Gy) (ch : Chg c G H G1 H1) (hd : ∀ q ∈ p :: dS :: lR :: (Gx ++ Gy), q ∉ G) : MeetX c P w K H1 v m p dx dS lR vx vy vr Gx Gy where
  ev := x.ev
  ins := ch.keep _ _ x.ins (.inl (hd _ (by simp)))
  sd := ch.keep _ _ x.sd (.inl (hd _ (by simp)))
  rs := ch.keep _ _ x.rs (.inl (hd _ (by simp)))
  rl := x.rl
  rn := x.rn
  sx := x.sx.chg ok ch fun q hq => hd q (by simp [hq])
  sy := x.sy.chg ok ch fun q hq => hd q (by simp [hq])
  nd := x.nd
theorem MeetAt.chg (ok : c.Ok) (x : MeetAt c P w K H v m F) (ch : Chg c G H G1 H1) (hd : ∀ q ∈ F, q ∉ G) : MeetAt c P w K H1 v m F := by
  obtain ⟨p, dx, dS, lR, vx, vy, vr, Gx, Gy, x, rfl⟩ := x
  exact ⟨p, dx, dS, lR, vx, vy, vr, Gx, Gy, x.chg ok ch hd, rfl⟩
/-- a side has changed -/
theorem MeetX.put (ok : c.Ok) (x : MeetX c P w K H v m p dx dS lR vx vy vr Gx Gy) {pl : Nat} (h : pl = 1 ∨ pl = 2) {s' : QM.Sd} (ch : Chg c (vsd pl Gx Gy) H G1 H1) (hs : SideAt c P w K H1 (vsd pl vx vy) pl s' G1) :
    ∃ Gx' Gy', MeetX c P w K H1 v (putP m pl s') p dx dS lR vx vy vr Gx' Gy' ∧ Chg c (p :: dS :: lR :: (Gx ++ Gy)) H (p :: dS :: lR :: (Gx' ++ Gy')) H1 := by
  have nd := x.nd
  have nd2 := mid_nodup (A := [p, dS, lR]) (B := Gy) (C := Gx) (H := H) (C' := Gx) nd (x.sx.nd) (fun q hq => .inl hq) (fun q hq => x.there q (by simp only [List.mem_cons, List.not_mem_nil, or_false] at hq; rcases hq with z | z | z <;> simp [z])) x.sy.there
  simp only [List.nodup_cons, List.mem_cons, List.mem_append, not_or, List.nodup_append] at nd
  obtain ⟨⟨n1, n2, n3, n4⟩, ⟨n5, n6, n7⟩, ⟨n8, n9⟩, n10, n11, n12⟩ := nd
  have n12' : ∀ q, q ∈ Gx → q ∉ Gy := fun q h1 h2 => n12 q h1 q h2 rfl
  rcases h with rfl | rfl
  · have ch : Chg c Gx H G1 H1 := ch
    have fr : ∀ q, H q ≠ none → q ∉ Gx → q ∉ G1 := fun q hq hF z => (ch.new q z).elim hF hq
    refine ⟨G1, Gy, ⟨x.ev, ch.keep _ _ x.ins (.inl n3), ch.keep _ _ x.sd (.inl n6), ch.keep _ _ x.rs (.inl n8), x.rl, x.rn, hs, x.sy.chg ok ch (fun q hq z => n12' q z hq), ?_⟩, ch.more (fun q hq => by simp [hq]) fun q hq => ?_⟩
    · simp only [List.nodup_cons, List.mem_cons, List.mem_append, not_or, List.nodup_append]
      refine ⟨⟨n1, n2, fr _ (by rw [x.ins]; exact fun z => nomatch z) n3, n4⟩, ⟨n5, fr _ (by rw [x.sd]; exact fun z => nomatch z) n6, n7⟩, ⟨fr _ (by rw [x.rs]; exact fun z => nomatch z) n8, n9⟩, hs.nd, n11, fun a ha b hb e => ?_⟩
      subst e
      exact fr a (x.sy.there a hb) (fun z => n12' a z hb) ha
    · simp only [List.mem_cons, List.mem_append] at hq
      rcases hq with z | z | z | z | z
      · exact .inr (.inl (by simp [z]))
      · exact .inr (.inl (by simp [z]))
      · exact .inr (.inl (by simp [z]))
      · exact .inl z
      · exact .inr (.inl (by simp [z]))
  · have ch : Chg c Gy H G1 H1 := ch
    have fr : ∀ q, H q ≠ none → q ∉ Gy → q ∉ G1 := fun q hq hF z => (ch.new q z).elim hF hq
    refine ⟨Gx, G1, ⟨x.ev, ch.keep _ _ x.ins (.inl n4), ch.keep _ _ x.sd (.inl n7), ch.keep _ _ x.rs (.inl n9), x.rl, x.rn, x.sx.chg ok ch (fun q hq z => n12' q hq z), hs, ?_⟩, ch.more (fun q hq => by simp [hq]) fun q hq => ?_⟩
    · simp only [List.nodup_cons, List.mem_cons, List.mem_append, not_or, List.nodup_append]
      refine ⟨⟨n1, n2, n3, fr _ (by rw [x.ins]; exact fun z => nomatch z) n4⟩, ⟨n5, n6, fr _ (by rw [x.sd]; exact fun z => nomatch z) n7⟩, ⟨n8, fr _ (by rw [x.rs]; exact fun z => nomatch z) n9⟩, n10, hs.nd, fun a ha b hb e => ?_⟩
      subst e
      exact fr a (x.sx.there a ha) (fun z => n12' a ha z) hb
    · simp only [List.mem_cons, List.mem_append] at hq
      rcases hq with z | z | z | z | z
      · exact .inr (.inl (by simp [z]))
      · exact .inr (.inl (by simp [z]))
      · exact .inr (.inl (by simp [z]))
      · exact .inr (.inl (by simp [z]))
      · exact .inl z
end

section
variable {P : Program} {w : World} {K : PySem.W.Frag} {mg : Str → Option Value} {base : Heap} {c : CL}
/-! ### Meeting.side -/
def spMS (c : CL) (P : Program) (w : World) (K : PySem.W.Frag) : Sp := fun vs H Q _ => ∃ (p dx dS lR : Addr) (st vx vy : V) (pl : Nat), vs = [.ref p, .str (plS pl)] ∧ (pl = 1 ∨ pl = 2) ∧ H p = some (.ins c.M dx (fM dS lR st)) ∧ H dS = some (.dK (sidesV vx vy)) ∧ Q (vsd pl vx vy) H
theorem scMS : FnScope ["self", "place"] ["self", "place"] (defScope sMeetS) := ⟨rfl, rfl, rfl, by decide +kernel, rfl, by decide +kernel, by decide +kernel⟩
theorem in_places {pl : Nat} (h : pl = 1 ∨ pl = 2) : inV (V.str (plS pl)) [V.str "x", V.str "y"] = true := by
  rcases h with rfl | rfl
  · show inV (V.str "x") [V.str "x", V.str "y"] = true
    decide +kernel
  · show inV (V.str "y") [V.str "x", V.str "y"] = true
    decide +kernel
theorem ok_mS {f : Addr} {fd : FuncData} (F : Fun K "side" "Meeting.side" sMeetS f fd) (T : Txt K mg c) : FnOk P w K mg base CX0 1 f fd ["self", "place"] (spMS c P w K) := by
  refine F.ok scMS (fun vs H Q E h => ?_) (fun cdv A outer s H vs Q E hr h => ?_)
  · obtain ⟨p, dx, dS, lR, st, vx, vy, pl, rfl, _⟩ := h
    rfl
  · obtain ⟨p, dx, dS, lR, st, vx, vy, pl, rfl, hpl, hp, hS, q⟩ := h
    obtain ⟨pA, mgA, sqA⟩ := T.places
    refine ⟨_, pss_cons (ps_if (PW.pt (pw_or (pt_not (pt_val (pe_callB call_isi (by rfl) T.isi (by decide +kernel) (pa_cons (pv 1) (pa_cons (pe_bltn (v := V.ty "str") (by rfl) T.str (by decide +kernel) rfl) pa_nil)))))
        (pw_or1 (pt_cmpR op_notIn_seq (pv 1) (pe_glob (v := V.ref pA) rfl mgA rfl) (by rfl))))) (pss_one ps_never) pss_nil)
      (pss_one (ps_ret (pe_dget (hu_of hr) (pe_fld (pv 0) rfl) (pv 1) (fun _ _ => rfl)))), ?_⟩
    refine ⟨_, rfl, _, _, .type "str", .type "str", true, rfl, .ty "str", .base (.str _), kit_ty (by decide +kernel), _, rfl, iteF ?_⟩
    refine ⟨_, rfl, pA, _, rfl, .inr (sqA _), rfl, rfl, _, rfl, ?_⟩
    rw [if_pos rfl, in_places hpl]
    refine iteF ⟨_, rfl, p, c.M, dx, _, _, rfl, hp, T.clM, T.nM1, fM_sides, _, rfl, dS, _, rfl, ?_, q⟩
    have z := DGet.k (k := .inr (plS pl)) hS
    rw [sides_val hpl] at z
    exact z

/-! ### Meeting.heard, known, is_over, __len__ -/
def spMH (c : CL) (P : Program) (w : World) (K : PySem.W.Frag) : Sp := fun vs H Q _ => ∃ (v : V) (m : QM.Mt) (G : List Addr) (pl : Nat), vs = [v, .str (plS pl)] ∧ (pl = 1 ∨ pl = 2) ∧ MeetAt c P w K H v m G ∧ Q (.bl (atP m pl).hd) H
theorem scMH : FnScope ["self", "place"] ["self", "place"] (defScope sMeetH) := ⟨rfl, rfl, rfl, by decide +kernel, rfl, by decide +kernel, by decide +kernel⟩
theorem ok_mH {f fS' : Addr} {fd fdS : FuncData} (F : Fun K "heard" "Meeting.heard" sMeetH f fd) (T : Txt K mg c) (mS : Meth K c.M "side" fS') (GC : FnOk P w K mg base CX0 1 fS' fdS ["self", "place"] (spMS c P w K)) (bS : Binds K fdS ["self", "place"] []) :
    FnOk P w K mg base CX0 2 f fd ["self", "place"] (spMH c P w K) := by
  refine F.ok scMH (fun vs H Q E h => ?_) (fun cdv A outer s H vs Q E hr h => ?_)
  · obtain ⟨v, m, G, pl, rfl, _⟩ := h
    rfl
  · obtain ⟨v, m, G, pl, rfl, hpl, ⟨p, dx, dS, lR, vx, vy, vr, Gx, Gy, x, eG⟩, q⟩ := h
    have hv := x.ev
    subst hv
    refine ⟨_, pss_one (ps_ret (pe_fld (pe_meth (pv 0) T.clM mS GC hr bS .nil pass0 (pa_cons (pv 1) pa_nil)) rfl)), ?_⟩
    obtain ⟨sp, sdx, slp, sla, svp, sF, sva, sx, _⟩ := x.side hpl
    exact ⟨_, rfl, p, dx, _, rfl, x.ins, fM_noSide, _, rfl, p, dx, dS, lR, _, vx, vy, pl, rfl, hpl, x.ins, x.sd, sp, c.S, sdx, _, _, sx.ev, sx.ins, T.clS, T.nS4, fS_hd, q⟩
def spMK (c : CL) (P : Program) (w : World) (K : PySem.W.Frag) : Sp := fun vs H Q _ => ∃ (v : V) (m : QM.Mt) (G : List Addr) (pl : Nat), vs = [v, .str (plS pl)] ∧ (pl = 1 ∨ pl = 2) ∧ MeetAt c P w K H v m G ∧
  ∀ H' t vt, Same H H' → H' t = some (.tup vt) → Ads K H' vt ((QM.sortN (atP m pl).ad).map fun n => (otherP pl, n)) → Q (.ref t) H'
theorem scMK : FnScope ["self", "place"] ["self", "place"] (defScope sMeetK) := ⟨rfl, rfl, rfl, by decide +kernel, rfl, by decide +kernel, by decide +kernel⟩
theorem ok_mK {f fS' : Addr} {fd fdS : FuncData} (F : Fun K "known" "Meeting.known" sMeetK f fd) (T : Txt K mg c) (mS : Meth K c.M "side" fS') (GC : FnOk P w K mg base CX0 1 fS' fdS ["self", "place"] (spMS c P w K)) (bS : Binds K fdS ["self", "place"] []) :
    FnOk P w K mg base CX0 2 f fd ["self", "place"] (spMK c P w K) := by
  refine F.ok scMK (fun vs H Q E h => ?_) (fun cdv A outer s H vs Q E hr h => ?_)
  · obtain ⟨v, m, G, pl, rfl, _⟩ := h
    rfl
  · obtain ⟨v, m, G, pl, rfl, hpl, ⟨p, dx, dS, lR, vx, vy, vr, Gx, Gy, x, eG⟩, k⟩ := h
    have hv := x.ev
    subst hv
    refine ⟨_, pss_one (ps_ret (pe_callTy call_tuple_of (by rfl) T.tuple (by decide +kernel) (pa_cons (pe_callB (cr_sortAd hr.units) (by rfl) T.sorted (by decide +kernel)
      (pa_cons (pe_fld (pe_meth (pv 0) T.clM mS GC hr bS .nil pass0 (pa_cons (pv 1) pa_nil)) rfl) pa_nil)) pa_nil))), ?_⟩
    obtain ⟨sp, sdx, slp, sla, svp, sF, sva, sx, _⟩ := x.side hpl
    obtain ⟨bs, rfl, e2, hb⟩ := ads_bs sx.ads
    refine ⟨_, rfl, p, dx, _, rfl, x.ins, fM_noSide, _, rfl, p, dx, dS, lR, _, vx, vy, pl, rfl, hpl, x.ins, x.sd, sp, c.S, sdx, _, _, sx.ev, sx.ins, T.clS, T.nS3, fS_ads, sla, bs, plS (otherP pl), rfl, SqL.of sx.las, fun b z => (hb b z).2, fun q hq => ?_⟩
    refine ⟨q, _, rfl, .inl ⟨SqL.of upd_same, fun t ht => ?_⟩⟩
    have sm : Same H (upd (upd H q (.lst ((bs.mergeSort leN).map fun b => V.ref b.1))) t (.tup ((bs.mergeSort leN).map fun b => V.ref b.1))) := fun b o e => by
      rw [upd_ne (ne_of_none (by rw [upd_ne (ne_of_none e hq)]; exact e) ht), upd_ne (ne_of_none e hq)]
      exact e
    have ch : Chg c [] H [] _ := Chg.of_same sm
    refine k _ t _ sm upd_same ?_
    have z := bs_ads (pl := otherP pl) (bs := bs.mergeSort leN) (K := K) (H := upd (upd H q (.lst ((bs.mergeSort leN).map fun b => V.ref b.1))) t (.tup ((bs.mergeSort leN).map fun b => V.ref b.1))) (fun b z => (hb b (List.mem_mergeSort.mp z)).chg ch)
    rw [sort_eq, e2] at z
    exact z
def spMO (c : CL) (P : Program) (w : World) (K : PySem.W.Frag) : Sp := fun vs H Q _ => ∃ (v : V) (m : QM.Mt) (G : List Addr), vs = [v] ∧ MeetAt c P w K H v m G ∧ Q (.bl (QM.over m)) H
theorem scMO : FnScope ["self"] ["self"] (defScope sMeetO) := ⟨rfl, rfl, rfl, by decide +kernel, rfl, by decide +kernel, by decide +kernel⟩
theorem ok_mO {f fH : Addr} {fd fdH : FuncData} (F : Fun K "is_over" "Meeting.is_over" sMeetO f fd) (T : Txt K mg c) (mH : Meth K c.M "heard" fH) (GC : FnOk P w K mg base CX0 2 fH fdH ["self", "place"] (spMH c P w K)) (bH : Binds K fdH ["self", "place"] []) :
    FnOk P w K mg base CX0 3 f fd ["self"] (spMO c P w K) := by
  refine F.ok scMO (fun vs H Q E h => ?_) (fun cdv A outer s H vs Q E hr h => ?_)
  · obtain ⟨v, m, G, rfl, _⟩ := h
    rfl
  · obtain ⟨v, m, G, rfl, hm, q⟩ := h
    obtain ⟨p, dx, dS, lR, vx, vy, vr, Gx, Gy, x, eG⟩ := id hm
    have hv := x.ev
    subst hv
    refine ⟨_, pss_one (ps_ret (pe_or (pe_fld (pv 0) rfl) (pe_one (pe_and (pe_meth (pv 0) T.clM mH GC hr bH .nil pass0 (pa_cons pe_str pa_nil)) (pe_one (pe_meth (pv 0) T.clM mH GC hr bH .nil pass0 (pa_cons pe_str pa_nil))))))), ?_⟩
    refine ⟨_, rfl, p, c.M, dx, _, _, rfl, x.ins, T.clM, T.nM3, fM_stuck, _, rfl, ?_⟩
    unfold QM.over at q
    cases h1 : m.st with
    | true =>
      rw [h1] at q
      exact iteT q
    | false =>
      rw [h1] at q
      refine iteF ⟨_, rfl, p, dx, _, rfl, x.ins, fM_noHeard, V.ref p, m, G, 1, rfl, .inl rfl, hm, _, rfl, ?_⟩
      cases h2 : m.x.hd with
      | false =>
        rw [h2] at q
        show if (m.x.hd) = true then _ else _
        rw [h2]
        exact iteF q
      | true =>
        rw [h2] at q
        show if (m.x.hd) = true then _ else _
        rw [h2]
        exact iteT ⟨_, rfl, p, dx, _, rfl, x.ins, fM_noHeard, V.ref p, m, G, 2, rfl, .inr rfl, hm, q⟩
def spMN (c : CL) (P : Program) (w : World) (K : PySem.W.Frag) : Sp := fun vs H Q _ => ∃ (v : V) (m : QM.Mt) (G : List Addr), vs = [v] ∧ MeetAt c P w K H v m G ∧ Q (.int (m.n : Int)) H
theorem scMN : FnScope ["self"] ["self"] (defScope sMeetN) := ⟨rfl, rfl, rfl, by decide +kernel, rfl, by decide +kernel, by decide +kernel⟩
theorem ok_mN {f : Addr} {fd : FuncData} (F : Fun K "__len__" "Meeting.__len__" sMeetN f fd) (T : Txt K mg c) : FnOk P w K mg base CX0 1 f fd ["self"] (spMN c P w K) := by
  refine F.ok scMN (fun vs H Q E h => ?_) (fun cdv A outer s H vs Q E hr h => ?_)
  · obtain ⟨v, m, G, rfl, _⟩ := h
    rfl
  · obtain ⟨v, m, G, rfl, ⟨p, dx, dS, lR, vx, vy, vr, Gx, Gy, x, eG⟩, q⟩ := h
    have hv := x.ev
    subst hv
    refine ⟨_, pss_one (ps_ret (pe_callB call_len_seq (by rfl) T.len PySem.boot_len (pa_cons (pe_fld (pv 0) rfl) pa_nil))), ?_⟩
    refine ⟨_, rfl, p, c.M, dx, _, _, rfl, x.ins, T.clM, T.nM2, fM_rounds, lR, _, rfl, .inl (SqL.of x.rs), ?_⟩
    rw [x.rl]
    exact q
end
end QD
set_option Elab.async false
set_option linter.all false
set_option maxRecDepth 100000
set_option maxHeartbeats 4000000
namespace QD
open PySem PySem.Spec PyProof.Rows L2

/-! ### letters -/
abbrev Lt := Nat × Nat × Nat
def mkL (pl : Nat) (p : Nat × Nat) : Lt := (pl, p.1, p.2)
def comeL : QM.Mt → List Lt → Option (QM.Mt × Bool × List Lt)
  | m, [] => some (m, false, [])
  | m, (pl, k, n) :: r =>
    if QM.inL (atP m pl).ps.reverse n (otherP pl, k) then
      match QM.learnS ⟨(atP m pl).ps, (atP m pl).ad, true⟩ k with
      | none => none
      | some (s', b) => match comeL (putP m pl s') r with
        | none => none
        | some (m', b', f) => some (m', b || b', (pl, k, n) :: f)
    else comeL m r
theorem at_put {m : QM.Mt} {pl : Nat} {s : QM.Sd} (h : pl = 1 ∨ pl = 2) : atP (putP m pl s) pl = s := by rcases h with rfl | rfl <;> rfl
theorem put_put {m : QM.Mt} {pl : Nat} {s s' : QM.Sd} (h : pl = 1 ∨ pl = 2) : putP (putP m pl s) pl s' = putP m pl s' := by rcases h with rfl | rfl <;> rfl
theorem put_at {m : QM.Mt} {pl : Nat} (h : pl = 1 ∨ pl = 2) : putP m pl (atP m pl) = m := by rcases h with rfl | rfl <;> rfl
theorem put_n {m : QM.Mt} {pl : Nat} {s : QM.Sd} : (putP m pl s).n = m.n := by unfold putP; split <;> rfl
theorem comeL_n : ∀ {l : List Lt} {m m' : QM.Mt} {b : Bool} {f : List Lt}, comeL m l = some (m', b, f) → m'.n = m.n
  | [], m, m', b, f, h => by cases h; rfl
  | (pl, k, n) :: r, m, m', b, f, h => by
    unfold comeL at h
    split at h
    · cases q : QM.learnS ⟨(atP m pl).ps, (atP m pl).ad, true⟩ k with
      | none => rw [q] at h; cases h
      | some z =>
        obtain ⟨s', b0⟩ := z
        rw [q] at h
        dsimp only at h
        cases q2 : comeL (putP m pl s') r with
        | none => rw [q2] at h; cases h
        | some z =>
          obtain ⟨m2, b2, f2⟩ := z
          rw [q2] at h
          cases h
          exact (comeL_n q2).trans put_n
    · exact comeL_n h
theorem comeL_of {pl : Nat} (hpl : pl = 1 ∨ pl = 2) {rest : List Lt} {m' : QM.Mt} {b' : Bool} {f' : List Lt} : ∀ {l : List (Nat × Nat)} {m : QM.Mt} {s2 : QM.Sd} {b : Bool} {f : List (Nat × Nat)}, QM.comeS (otherP pl) (atP m pl) l = some (s2, b, f) → comeL (putP m pl s2) rest = some (m', b', f') →
    comeL m (l.map (mkL pl) ++ rest) = some (m', b || b', f.map (mkL pl) ++ f')
  | [], m, s2, b, f, h, h2 => by
    cases h
    rw [put_at hpl] at h2
    exact h2
  | (k, n) :: r, m, s2, b, f, h, h2 => by
    unfold QM.comeS at h
    show comeL m ((pl, k, n) :: (r.map (mkL pl) ++ rest)) = _
    unfold comeL
    by_cases q : QM.inL (atP m pl).ps.reverse n (otherP pl, k) = true
    · rw [if_pos q] at h
      rw [if_pos q]
      cases q1 : QM.learnS ⟨(atP m pl).ps, (atP m pl).ad, true⟩ k with
      | none => rw [q1] at h; cases h
      | some z =>
        obtain ⟨s', b0⟩ := z
        rw [q1] at h
        dsimp only at h ⊢
        cases q2 : QM.comeS (otherP pl) s' r with
        | none => rw [q2] at h; cases h
        | some z =>
          obtain ⟨s'', b1, f1⟩ := z
          rw [q2] at h
          cases h
          have z := comeL_of hpl (m := putP m pl s') (rest := rest) (by rw [at_put hpl]; exact q2) (by rw [put_put hpl]; exact h2)
          rw [z]
          dsimp only
          rw [Bool.or_assoc] <;> rfl
    · rw [if_neg q] at h
      rw [if_neg q]
      exact comeL_of hpl h h2
theorem roundM_split {m m' : QM.Mt} {fx fy : List (Nat × Nat)} (h : QM.roundM m = some (m', fx, fy)) : ∃ x1 lx y1 ly mf b, QM.lettersS 2 m.x (QM.sortN m.x.ad) = some (x1, lx) ∧ QM.lettersS 1 m.y (QM.sortN m.y.ad) = some (y1, ly) ∧
    comeL ⟨x1, y1, m.n, m.st⟩ (lx.map (mkL 2) ++ ly.map (mkL 1)) = some (mf, b, fx.map (mkL 2) ++ fy.map (mkL 1)) ∧ m.n ≤ 1000 ∧ m' = ⟨mf.x, mf.y, mf.n + 1, !b⟩ := by
  unfold QM.roundM at h
  cases q1 : QM.lettersS 2 m.x (QM.sortN m.x.ad) with
  | none => rw [q1] at h; cases h
  | some z =>
    obtain ⟨x1, lx⟩ := z
    rw [q1] at h
    dsimp only at h
    cases q2 : QM.lettersS 1 m.y (QM.sortN m.y.ad) with
    | none => rw [q2] at h; cases h
    | some z =>
      obtain ⟨y1, ly⟩ := z
      rw [q2] at h
      dsimp only at h
      cases q3 : QM.comeS 1 y1 lx with
      | none => rw [q3] at h; cases h
      | some z =>
        obtain ⟨y2, b, gx⟩ := z
        rw [q3] at h
        dsimp only at h
        cases q4 : QM.comeS 2 x1 ly with
        | none => rw [q4] at h; cases h
        | some z =>
          obtain ⟨x2, b', gy⟩ := z
          rw [q4] at h
          dsimp only at h
          by_cases q5 : Nat.ble m.n 1000 = true
          · rw [if_pos q5] at h
            cases h
            refine ⟨x1, lx, y1, ly, ⟨x2, y2, m.n, m.st⟩, b || b', rfl, rfl, ?_, Nat.le_of_ble_eq_true q5, rfl⟩
            have e := comeL_of (pl := 2) (.inr rfl) (m := ⟨x1, y1, m.n, m.st⟩) (rest := ly.map (mkL 1)) (m' := ⟨x2, y2, m.n, m.st⟩) (b' := b') (f' := fy.map (mkL 1)) q3 ?_
            · exact e
            · have e2 := comeL_of (pl := 1) (.inl rfl) (m := putP ⟨x1, y1, m.n, m.st⟩ 2 y2) (rest := []) (m' := ⟨x2, y2, m.n, m.st⟩) (b' := false) (f' := []) q4 rfl
              rw [List.append_nil, List.append_nil, Bool.or_false] at e2
              exact e2
          · rw [if_neg q5] at h
            cases h
theorem nI_S {c : CL} {dx : Addr} {fs : List (Str × V)} : ¬ Imm c (.ins c.S dx fs) := fun z => z.1 rfl
theorem nI_M {c : CL} {dx : Addr} {fs : List (Str × V)} : ¬ Imm c (.ins c.M dx fs) := fun z => z.2 rfl
theorem Chg.fresh {c : CL} {F F1 : List Addr} {H H1 : Hp} {l : Addr} {u : HO} (a : Chg c F H F1 H1) (hl : H l = none) : Chg c F H F1 (upd H1 l u) :=
  ⟨fun q o e h => by rw [upd_ne (ne_of_none e hl)]; exact a.keep q o e h, a.new⟩
/-- a letter: a tuple of the addresses from, to -/
def LetAt (K : PySem.W.Frag) (H : Hp) (v : V) (l : Lt) : Prop := (l.1 = 1 ∨ l.1 = 2) ∧ ∃ p vs vg, v = .ref p ∧ SqT K H p [vs, vg] ∧ AdAt K H vs (otherP l.1, l.2.1) ∧ AdAt K H vg (l.1, l.2.2)
abbrev Lets (K : PySem.W.Frag) (H : Hp) (vs : List V) (ls : List Lt) : Prop := Paired (fun v l => LetAt K H v l) vs ls
section
variable {c : CL} {P : Program} {w : World} {K : PySem.W.Frag} {H H1 : Hp} {v vx vy : V} {m : QM.Mt} {p dx dS lR lp la : Addr} {vr vp va : List V} {Gx Gy G G1 F : List Addr} {pl : Nat} {sd : QM.Sd}
theorem LetAt.chg {l : Lt} (h : LetAt K H v l) (ch : Chg c G H G1 H1) : LetAt K H1 v l := by
  obtain ⟨h1, p, vs, vg, e, h2, h3, h4⟩ := h
  exact ⟨h1, p, vs, vg, e, ch.seqT h2, h3.chg ch, h4.chg ch⟩
theorem Lets.chg {vs : List V} {ls : List Lt} (h : Lets K H vs ls) (ch : Chg c G H G1 H1) : Lets K H1 vs ls := Paired.mapP h fun _ _ z => z.chg ch
/-- a side has heard -/
theorem SideX.hear (ok : c.Ok) (x : SideX c P w K H v pl sd p dx lp la vp F va) :
    SideX c P w K (upd H p (.ins c.S dx (fS (.str (plS pl)) lp la (.bl true)))) v pl ⟨sd.ps, sd.ad, true⟩ p dx lp la vp F va ∧ Chg c (p :: lp :: la :: F) H (p :: lp :: la :: F) (upd H p (.ins c.S dx (fS (.str (plS pl)) lp la (.bl true)))) := by
  have nd := x.nd
  simp only [List.nodup_cons, List.mem_cons, not_or] at nd
  obtain ⟨⟨n1, n2, n3⟩, ⟨n4, n5⟩, n6, n7⟩ := nd
  have ch : Chg c [p] H [p] (upd H p (.ins c.S dx (fS (.str (plS pl)) lp la (.bl true)))) := Chg.write (by simp) x.ins nI_S
  refine ⟨⟨x.ev, upd_same, by rw [upd_ne (Ne.symm n1)]; exact x.lps, x.pas.chg ok ch (fun q hq z => ?_), by rw [upd_ne (Ne.symm n2)]; exact x.las, x.ads.chg ch, x.adl, x.nd, x.ple⟩, ch.more (fun q hq => ?_) fun q hq => .inr (.inl hq)⟩
  · have e : q = p := by simpa using z
    subst e
    exact n3 hq
  · have e : q = p := by simpa using hq
    subst e
    simp
/-- a round is over -/
theorem MeetX.done (ok : c.Ok) (x : MeetX c P w K H v m p dx dS lR vx vy vr Gx Gy) {t1 : Addr} {o1 : HO} {st : Bool} (ht : H t1 = none) (hn : m.n ≤ 1000) :
    MeetX c P w K (upd (upd (upd H t1 o1) lR (.lst (vr ++ [V.ref t1]))) p (.ins c.M dx (fM dS lR (.bl st)))) v ⟨m.x, m.y, m.n + 1, st⟩ p dx dS lR vx vy (vr ++ [V.ref t1]) Gx Gy ∧
      Chg c (p :: dS :: lR :: (Gx ++ Gy)) H (p :: dS :: lR :: (Gx ++ Gy)) (upd (upd (upd H t1 o1) lR (.lst (vr ++ [V.ref t1]))) p (.ins c.M dx (fM dS lR (.bl st)))) := by
  have nd := x.nd
  simp only [List.nodup_cons, List.mem_cons, List.mem_append, not_or, List.nodup_append] at nd
  obtain ⟨⟨n1, n2, n3, n4⟩, ⟨n5, n6, n7⟩, ⟨n8, n9⟩, n10, n11, n12⟩ := nd
  have lt : lR ≠ t1 := ne_of_none x.rs ht
  have pt : p ≠ t1 := ne_of_none x.ins ht
  have dt : dS ≠ t1 := ne_of_none x.sd ht
  have c1 : Chg c [p, lR] H [p, lR] (upd H t1 o1) := Chg.alloc ht
  have c2 := c1.trans (Chg.write (l := lR) (u' := .lst (vr ++ [V.ref t1])) (by simp) (by rw [upd_ne lt]; exact x.rs) nI_l)
  have c3 := c2.trans (Chg.write (l := p) (u' := .ins c.M dx (fM dS lR (.bl st))) (by simp) (by rw [upd_ne n2, upd_ne pt]; exact x.ins) nI_M)
  have hG : ∀ q ∈ Gx ++ Gy, q ∉ [p, lR] := fun q hq z => by
    simp only [List.mem_cons, List.not_mem_nil, or_false] at z
    rcases List.mem_append.mp hq with y | y <;> rcases z with z | z <;> subst z
    · exact n3 y
    · exact n8 y
    · exact n4 y
    · exact n9 y
  refine ⟨⟨x.ev, upd_same, ?_, ?_, ?_, by show m.n + 1 ≤ 1001; omega, x.sx.chg ok c3 (fun q hq => hG q (List.mem_append_left _ hq)), x.sy.chg ok c3 (fun q hq => hG q (List.mem_append_right _ hq)), x.nd⟩, c3.more (fun q hq => ?_) fun q hq => .inr (.inl hq)⟩
  · rw [upd_ne (Ne.symm n1), upd_ne n5, upd_ne dt]
    exact x.sd
  · rw [upd_ne (Ne.symm n2), upd_same]
  · rw [List.length_append, List.length_singleton, x.rl]
  · simp only [List.mem_cons, List.not_mem_nil, or_false] at hq
    rcases hq with z | z <;> simp [z]
end
end QD
set_option Elab.async false
set_option linter.all false
set_option maxRecDepth 100000
set_option maxHeartbeats 8000000
namespace QD
open PySem PySem.Spec PyProof.Rows L2
theorem sortN_len (l : List Nat) : (QM.sortN l).length = l.length := (sortN_perm l).length_eq
theorem oth_oth {pl : Nat} (h : pl = 1 ∨ pl = 2) : otherP (otherP pl) = pl := by rcases h with rfl | rfl <;> rfl
theorem oth_ok {pl : Nat} (h : pl = 1 ∨ pl = 2) : otherP pl = 1 ∨ otherP pl = 2 := h.elim (fun z => by subst z; exact .inr rfl) (fun z => by subst z; exact .inl rfl)
section
variable {P : Program} {w : World} {K : PySem.W.Frag} {mg : Str → Option Value} {base : Heap} {c : CL}
def spMR (c : CL) (P : Program) (w : World) (K : PySem.W.Frag) : Sp := fun vs H Q _ => ∃ (v : V) (m m' : QM.Mt) (fx fy : List (Nat × Nat)) (G : List Addr), vs = [v] ∧ MeetAt c P w K H v m G ∧ QM.over m = false ∧ QM.roundM m = some (m', fx, fy) ∧
  ∀ H' G' t vt, MeetAt c P w K H' v m' G' → Chg c G H G' H' → H' t = some (.tup vt) → Lets K H' vt (fx.map (mkL 2) ++ fy.map (mkL 1)) → Q (.ref t) H'
theorem scMR : FnScope ["self", "letters", "place", "address", "found", "is_new", "origin", "side"] ["self"] (defScope sMeetR) := ⟨rfl, rfl, rfl, by decide +kernel, rfl, by decide +kernel, by decide +kernel⟩
theorem ok_mR {f fO fK fS' fL fN : Addr} {fd fdO fdK fdS fdL fdN : FuncData} (F : Fun K "round" "Meeting.round" sMeetR f fd) (T : Txt K mg c)
    (mO : Meth K c.M "is_over" fO) (GO : FnOk P w K mg base CX0 3 fO fdO ["self"] (spMO c P w K)) (bO : Binds K fdO ["self"] [])
    (mK : Meth K c.M "known" fK) (GK : FnOk P w K mg base CX0 2 fK fdK ["self", "place"] (spMK c P w K)) (bK : Binds K fdK ["self", "place"] [])
    (mS : Meth K c.S "sent" fS') (GS : FnOk P w K mg base CX0 4 fS' fdS ["self", "address"] (spSideS c P w K)) (bS : Binds K fdS ["self", "address"] [])
    (mL : Meth K c.S "lets_in" fL) (GL : FnOk P w K mg base CX0 4 fL fdL ["self", "number", "address"] (spSideL c P w K)) (bL : Binds K fdL ["self", "number", "address"] [])
    (mN : Meth K c.S "learns" fN) (GN : FnOk P w K mg base CX0 1 fN fdN ["self", "address"] (spSideN c P w K)) (bN : Binds K fdN ["self", "address"] []) : FnOk P w K mg base CX0 5 f fd ["self"] (spMR c P w K) := by
  refine F.ok scMR (fun vs H Q E h => ?_) (fun cdv A outer s H vs Q E hr h => ?_)
  · obtain ⟨v, m, m', fx, fy, G, rfl, _⟩ := h
    rfl
  · obtain ⟨v, m, m', fx, fy, G, rfl, hm, hov, hrd, k⟩ := h
    obtain ⟨x1, lx, y1, ly, mf, b, h1, h2, h3, hn, rfl⟩ := roundM_split hrd
    obtain ⟨pA, mgA, sqA⟩ := T.places
    have hr1 : Room 1 _ := hr.mono (by decide)
    have hr2 : Room 2 _ := hr.mono (by decide)
    have hr3 : Room 3 _ := hr.mono (by decide)
    obtain ⟨vp, ev⟩ : ∃ vp, v = V.ref vp := by
      obtain ⟨p, dx, dS, lR, vx, vy, vr, Gx, Gy, x, eG⟩ := id hm
      exact ⟨p, x.ev⟩
    subst ev
    refine ⟨_, pss_cons (ps_if (pt_val (pe_meth0 (pv 0) T.clM mO GO hr3 bO .nil pass0)) (pss_one ps_never) pss_nil)
      (pss_cons (ps_set (i := 1) scMR.nd rfl (Or.inl rfl) (pe_lst pa_nil))
      (C8.pss_cut (ps_for PassesOwn.never rfl (pi_tup (pe_glob (v := V.ref pA) rfl mgA rfl)) (pg_name (i := 2) scMR.nd rfl (Or.inl rfl))
        (pss_one (ps_for PassesOwn.never rfl (pi_tup (pe_meth (pv 0) T.clM mK GK hr2 bK .nil pass0 (pa_cons (pv 2) pa_nil))) (pg_name (i := 3) scMR.nd rfl (Or.inl rfl))
          (pss_one (ps_expr (pe_bm PySem.F.plainAttrs_list PySem.F.slot_list_append PySem.F.type_list_append mt_append (pv 1)
            (pa_cons (pe_tup (pa_cons (pe_meth (pe_dget (hu_of hr) (pe_fld (pv 0) rfl) (pv 2) (fun _ _ => rfl)) T.clS mS GS hr bS .nil pass0 (pa_cons (pv 3) pa_nil)) (pa_cons (pv 3) pa_nil))) pa_nil)))))))
      (pss_cons (ps_par (i := 4) (j := 5) rfl scMR.nd rfl rfl (by decide) rfl rfl (pa_cons (pe_lst pa_nil) (pa_cons pe_bl pa_nil)) (by rfl))
      (C8.pss_cut (ps_for PassesOwn.never rfl (pi_list (pv 1)) (pg_tup rfl (pgs_cons (pg_name (i := 6) scMR.nd rfl (Or.inl rfl)) (pgs_cons (pg_name (i := 3) scMR.nd rfl (Or.inl rfl)) pgs_nil)))
        (pss_cons (ps_set (i := 7) scMR.nd rfl (Or.inl rfl) (pe_dget (hu_of hr) (pe_fld (pv 0) rfl) (pe_ix ix_tup (pv 3) pe_int (fun _ _ => rfl)) (fun _ _ => rfl)))
        (pss_one (ps_if (pt_val (pe_meth (pv 7) T.clS mL GL hr bL .nil pass0 (pa_cons (pe_ix ix_tup (pv 3) pe_int (fun _ _ => rfl)) (pa_cons (pv 6) pa_nil))))
          (pss_cons (ps_fld (pv 7) pe_bl rfl)
          (pss_cons (ps_expr (pe_bm PySem.F.plainAttrs_list PySem.F.slot_list_append PySem.F.type_list_append mt_append (pv 4) (pa_cons (pe_tup (pa_cons (pv 6) (pa_cons (pv 3) pa_nil))) pa_nil)))
          (pss_one (ps_if (pt_val (pe_meth (pv 7) T.clS mN GN hr1 bN .nil pass0 (pa_cons (pv 6) pa_nil))) (pss_one (ps_set (i := 5) scMR.nd rfl (Or.inl rfl) pe_bl)) pss_nil))))
          pss_nil))))
      (pss_cons (ps_expr (pe_bm PySem.F.plainAttrs_list PySem.F.slot_list_append PySem.F.type_list_append mt_append (pe_fld (pv 0) rfl) (pa_cons (pe_callTy call_tuple_of (by rfl) T.tuple (by decide +kernel) (pa_cons (pv 4) pa_nil)) pa_nil)))
      (pss_cons (ps_fld (pv 0) (pe_not (pv 5)) rfl)
      (pss_one (ps_ret (pe_callTy call_tuple_of (by rfl) T.tuple (by decide +kernel) (pa_cons (pv 4) pa_nil)))))))))), ?_⟩
    obtain ⟨p, dx, dS, lR, vx, vy, vr, Gx, Gy, x, eG⟩ := id hm
    have ev := x.ev
    injection ev with ev
    subst ev
    refine ⟨_, rfl, vp, dx, _, rfl, x.ins, fM_noOver, V.ref vp, m, G, rfl, hm, _, rfl, ?_⟩
    rw [hov]
    refine iteF ⟨Nat.zero_le _, fun l hl => ?_⟩
    have lG : l ∉ G := fun z => hm.there l z hl
    -- behind the sending
    refine ⟨fun σ H' => (∃ z2 z3, σ = [some (.ref vp), some (.ref l), z2, z3, none, none, none, none]) ∧ ∃ G1 vl, MeetAt c P w K H' (.ref vp) ⟨x1, y1, m.n, m.st⟩ G1 ∧ Chg c G H G1 H' ∧ H' l = some (.lst vl) ∧ Lets K H' vl (lx.map (mkL 2) ++ ly.map (mkL 1)) ∧ l ∉ G1 ∧ vl.length ≤ 4000, ?_, ?_⟩
    · refine ⟨pA, rfl, ⟨_, sqA _⟩, for_tup (K := K) (a := pA) (xs := [V.str "x", V.str "y"]) (fun i σ H' => ∃ (z2 z3 : Option V) (mi : QM.Mt) (Gi : List Addr) (vl : List V) (ls : List Lt), σ = [some (.ref vp), some (.ref l), z2, z3, none, none, none, none] ∧
          MeetAt c P w K H' (.ref vp) mi Gi ∧ Chg c G H Gi H' ∧ H' l = some (.lst vl) ∧ Lets K H' vl ls ∧ l ∉ Gi ∧ vl.length ≤ 1001 * i ∧ ((i = 0 ∧ mi = m ∧ ls = []) ∨ (i = 1 ∧ mi = putP m 1 x1 ∧ ls = lx.map (mkL 2)) ∨ (i = 2 ∧ mi = ⟨x1, y1, m.n, m.st⟩ ∧ ls = lx.map (mkL 2) ++ ly.map (mkL 1))))
        ⟨_, _, m, G, [], [], rfl, hm.chg (G := []) (G1 := []) T.ok (Chg.alloc hl) (fun _ _ => by simp), Chg.alloc hl, upd_same, .nil, lG, Nat.le_refl _, .inl ⟨rfl, rfl, rfl⟩⟩ (fun _ _ _ _ _ => sqA _) ?_ ?_⟩
      · rintro i y σ H' hi ⟨z2, z3, mi, Gi, vl, ls, rfl, hmi, ch, hll, hls, lGi, hlen, hcase⟩
        obtain ⟨pl, sd1, lnew, hpl, ey, hlet, hnext⟩ : ∃ (pl : Nat) (sd1 : QM.Sd) (lnew : List (Nat × Nat)), (pl = 1 ∨ pl = 2) ∧ y = V.str (plS pl) ∧ QM.lettersS (otherP pl) (atP mi pl) (QM.sortN (atP mi pl).ad) = some (sd1, lnew) ∧
            ((i + 1 = 0 ∧ putP mi pl sd1 = m ∧ ls ++ lnew.map (mkL (otherP pl)) = []) ∨ (i + 1 = 1 ∧ putP mi pl sd1 = putP m 1 x1 ∧ ls ++ lnew.map (mkL (otherP pl)) = lx.map (mkL 2)) ∨ (i + 1 = 2 ∧ putP mi pl sd1 = ⟨x1, y1, m.n, m.st⟩ ∧ ls ++ lnew.map (mkL (otherP pl)) = lx.map (mkL 2) ++ ly.map (mkL 1))) := by
          rcases hcase with ⟨rfl, rfl, rfl⟩ | ⟨rfl, rfl, rfl⟩ | ⟨rfl, _, _⟩
          · exact ⟨1, x1, lx, .inl rfl, (Option.some.inj hi).symm, h1, .inr (.inl ⟨rfl, rfl, rfl⟩)⟩
          · exact ⟨2, y1, ly, .inr rfl, (Option.some.inj hi).symm, h2, .inr (.inr ⟨rfl, rfl, rfl⟩)⟩
          · cases hi
        subst ey
        have hi2 : i < 2 := (List.getElem?_eq_some_iff.mp hi).1
        obtain ⟨p', dx', dS', lR', vx', vy', vr', Gx', Gy', x', eG'⟩ := id hmi
        have ev' := x'.ev
        injection ev' with ev'
        subst ev'
        have hadl : (atP mi pl).ad.length ≤ 1001 := by
          obtain ⟨_, _, _, _, _, _, _, sx, _⟩ := x'.side hpl
          exact sx.adl
        generalize hns : QM.sortN (atP mi pl).ad = ns at hlet
        have hnsl : ns.length ≤ 1001 := by rw [← hns, sortN_len]; exact hadl
        refine ⟨_, rfl, vp, dx', _, rfl, x'.ins, fM_noKnown, _, rfl, V.ref vp, mi, Gi, pl, rfl, hpl, hmi, fun H2 t vt sm ht hvt => ⟨t, rfl, ⟨_, SqT.of ht⟩, ?_⟩⟩
        rw [hns] at hvt
        have chs : Chg c [] H' [] H2 := Chg.of_same sm
        have hvl : vt.length = ns.length := by rw [Paired.length hvt, List.length_map]
        refine for_tup (K := K) (a := t) (xs := vt) (fun j σ H3 => ∃ (z3 : Option V) (sdj : QM.Sd) (lrest ldone : List (Nat × Nat)) (Gj : List Addr) (vl2 : List V), σ = [some (.ref vp), some (.ref l), some (.str (plS pl)), z3, none, none, none, none] ∧ MeetAt c P w K H3 (.ref vp) (putP mi pl sdj) Gj ∧ Chg c G H Gj H3 ∧
            H3 l = some (.lst vl2) ∧ Lets K H3 vl2 (ls ++ ldone.map (mkL (otherP pl))) ∧ l ∉ Gj ∧ vl2.length ≤ 1001 * i + j ∧ QM.lettersS (otherP pl) sdj (ns.drop j) = some (sd1, lrest) ∧ lnew = ldone ++ lrest ∧ H3 t = some (.tup vt) ∧ Ads K H3 vt (ns.map fun n => (otherP pl, n)))
          ⟨_, atP mi pl, lnew, [], Gi, vl, rfl, by rw [put_at hpl]; exact hmi.chg T.ok chs (fun _ _ => by simp), ch.trans (Chg.of_same sm), sm _ _ hll, by rw [List.map_nil, List.append_nil]; exact hls.chg chs, lGi, hlen, hlet, rfl, ht, hvt⟩
          (fun _ _ _ _ ⟨_, _, _, _, _, _, _, _, _, _, _, _, _, _, _, h, _⟩ => SqT.of h) ?_ ?_
        · rintro j yv σ H3 hj ⟨z3, sdj, lrest, ldone, Gj, vl2, rfl, hmj, chj, hlj, hlsj, lGj, hlenj, hletj, hnew, htj, hvtj⟩
          obtain ⟨a, ha, hay⟩ := paired_get hvtj hj
          obtain ⟨n, hnj, rfl⟩ : ∃ n, ns[j]? = some n ∧ a = (otherP pl, n) := by
            rw [List.getElem?_map] at ha
            cases q : ns[j]? with
            | none => rw [q] at ha; cases ha
            | some n => rw [q] at ha; exact ⟨n, rfl, (Option.some.inj ha).symm⟩
          obtain ⟨hjlt, hje⟩ := List.getElem?_eq_some_iff.mp hnj
          rw [List.drop_eq_getElem_cons hjlt, hje] at hletj
          have e1 : QM.lettersS (otherP pl) sdj (n :: ns.drop (j + 1)) = (match QM.sentS sdj (otherP pl, n) with | none => none | some (s', k) => match QM.lettersS (otherP pl) s' (ns.drop (j + 1)) with | none => none | some (s'', l) => some (s'', (k, n) :: l)) := rfl
          rw [e1] at hletj
          cases q1 : QM.sentS sdj (otherP pl, n) with
          | none => rw [q1] at hletj; cases hletj
          | some z =>
            obtain ⟨s', kk⟩ := z
            rw [q1] at hletj
            dsimp only at hletj
            cases q2 : QM.lettersS (otherP pl) s' (ns.drop (j + 1)) with
            | none => rw [q2] at hletj; cases hletj
            | some z =>
              obtain ⟨s'', lr2⟩ := z
              rw [q2] at hletj
              cases hletj
              obtain ⟨p2, dx2, dS2, lR2, vx2, vy2, vr2, Gx2, Gy2, x2, eG2⟩ := id hmj
              have ev2 := x2.ev
              injection ev2 with ev2
              subst ev2
              have hside := x2.side hpl
              rw [at_put hpl] at hside
              obtain ⟨sp, sdx, slp, sla, svp, sF, sva, sx, _⟩ := id hside
              have hget := DGet.k (k := .inr (plS pl)) x2.sd
              rw [sides_val hpl] at hget
              obtain ⟨ap, rfl, hap⟩ := id hay
              refine ⟨_, rfl, .inl ⟨rfl, _, SqL.of hlj⟩, _, rfl, vp, c.M, dx2, _, _, rfl, x2.ins, T.clM, T.nM1, fM_sides, _, rfl, dS2, _, rfl, hget, sp, sdx, _, sx.ev, sx.ins, fS_noS, _, rfl, _, V.ref ap, kk, pl, (otherP pl, n), sdj, s', _, rfl, hside, hay, q1, fun H4 G4 q hs4 ch4 hq4 => ?_⟩
              obtain ⟨Gx4, Gy4, x4, ch5⟩ := x2.put T.ok hpl ch4 hs4
              rw [put_put hpl] at x4
              have lold : H3 l ≠ Option.none := by rw [hlj]; exact fun z => nomatch z
              have told : H3 t ≠ Option.none := by rw [htj]; exact fun z => nomatch z
              rw [← eG2] at ch5
              have l4 : l ∉ vp :: dS2 :: lR2 :: (Gx4 ++ Gy4) := fun z => (ch5.new _ z).elim lGj lold
              have hl4 : H4 l = some (.lst vl2) := ch5.keep _ _ hlj (.inl lGj)
              have hay4 := hay.chg ch5
              refine ⟨_, rfl, (by show 2 ≤ sizeLine; decide), fun t2 ht2 => ?_⟩
              have l5 : (upd H4 t2 (.tup [V.ref q, V.ref ap])) l = some (.lst vl2) := by rw [upd_ne (ne_of_none hl4 ht2)]; exact hl4
              have c6 : Chg c [] H4 [] (upd H4 t2 (.tup [V.ref q, V.ref ap])) := Chg.alloc ht2
              have c7 : Chg c [l] (upd H4 t2 (.tup [V.ref q, V.ref ap])) [l] (upd (upd H4 t2 (.tup [V.ref q, V.ref ap])) l (.lst (vl2 ++ [V.ref t2]))) := Chg.write (by simp) l5 nI_l
              have jb : j < vt.length := (List.getElem?_eq_some_iff.mp hj).1
              refine ⟨l, _, _, rfl, rfl, l5, Nat.lt_of_le_of_lt hlenj (Nat.lt_of_lt_of_le (show 1001 * i + j < 4000 by omega) (by decide)), ?_⟩
              have x7 := (x4.chg T.ok c6 (fun _ _ => by simp)).chg T.ok c7 (fun q hq z => by
                have e : q = l := by simpa using z
                subst e
                exact l4 hq)
              refine ⟨_, s', lr2, ldone ++ [(kk, n)], vp :: dS2 :: lR2 :: (Gx4 ++ Gy4), vl2 ++ [V.ref t2], rfl, ⟨vp, dx2, dS2, lR2, vx2, vy2, vr2, Gx4, Gy4, x7, rfl⟩, ?_, upd_same, ?_, l4, ?_, q2, by rw [hnew, List.append_assoc] <;> rfl, ?_, ?_⟩
              · exact (chj.trans (ch5.trans (Chg.alloc ht2))).fresh hl
              · rw [List.map_append, ← List.append_assoc]
                refine Paired.snoc (((hlsj.chg ch5).chg c6).chg c7) ?_
                have hq7 : AdT K _ q (pl, kk) := (hq4.chg c6).chg c7
                refine ⟨oth_ok hpl, t2, V.ref q, V.ref ap, rfl, SqT.of (c7.keep _ _ upd_same (.inr True.intro)), ?_, (hay4.chg c6).chg c7⟩
                rw [show otherP (mkL (otherP pl) (kk, n)).1 = pl from oth_oth hpl]
                exact ⟨q, rfl, hq7⟩
              · rw [List.length_append, List.length_singleton]
                omega
              · exact c7.keep _ _ (c6.keep _ _ (ch5.keep _ _ htj (.inr True.intro)) (.inr True.intro)) (.inr True.intro)
              · exact ((hvtj.chg ch5).chg c6).chg c7
        · rintro σ H3 ⟨z3, sdj, lrest, ldone, Gj, vl2, rfl, hmj, chj, hlj, hlsj, lGj, hlenj, hletj, hnew, htj, hvtj⟩
          rw [hvl, List.drop_length] at hletj
          have e3 : some (sdj, ([] : List (Nat × Nat))) = some (sd1, lrest) := hletj
          cases e3
          rw [List.append_nil] at hnew
          subst hnew
          exact ⟨_, _, _, Gj, vl2, _, rfl, hmj, chj, hlj, hlsj, lGj, by omega, hnext⟩
      · rintro σ H' ⟨z2, z3, mi, Gi, vl, ls, rfl, hmi, ch, hll, hls, lGi, hlen, hcase⟩
        rcases hcase with ⟨z, _, _⟩ | ⟨z, _, _⟩ | ⟨_, rfl, rfl⟩
        · exact nomatch z
        · exact nomatch z
        · exact ⟨⟨_, _, rfl⟩, Gi, vl, hmi, ch, hll, hls, lGi, by have : vl.length ≤ 1001 * 2 := hlen; omega⟩
    · rintro σ H1 ⟨⟨z2, z3, rfl⟩, G1, vl, hm1, ch1, hl1, hlets1, lG1, hvl1⟩
      generalize hls : lx.map (mkL 2) ++ ly.map (mkL 1) = ls at h3 hlets1
      generalize hFF : fx.map (mkL 2) ++ fy.map (mkL 1) = FF at h3 k
      refine ⟨Nat.zero_le _, fun lf hlf => ⟨_, _, rfl, ?_⟩⟩
      have llf : l ≠ lf := ne_of_none hl1 hlf
      have lfG1 : lf ∉ G1 := fun z => hm1.there lf z hlf
      have c0 : Chg c [] H1 [] (upd H1 lf (.lst [])) := Chg.alloc hlf
      refine ⟨fun σ H' => ∃ (z2 z3 z6 z7 : Option V) (Gj : List Addr) (vf : List V), σ = [some (.ref vp), some (.ref l), z2, z3, some (.ref lf), some (.bl b), z6, z7] ∧ MeetAt c P w K H' (.ref vp) mf Gj ∧ Chg c G1 H1 Gj H' ∧ H' lf = some (.lst vf) ∧ Lets K H' vf FF ∧ lf ∉ Gj, ?_, ?_⟩
      · refine ⟨_, rfl, l, rfl, ⟨_, SqL.of (by rw [upd_ne llf]; exact hl1)⟩, ?_⟩
        refine for_list (K := K) (a := l) (xs := vl) (fun j σ H' => ∃ (z2 z3 z6 z7 : Option V) (bj bf : Bool) (mj : QM.Mt) (Gj : List Addr) (vf : List V) (fd ff : List Lt), σ = [some (.ref vp), some (.ref l), z2, z3, some (.ref lf), some (.bl bj), z6, z7] ∧
            MeetAt c P w K H' (.ref vp) mj Gj ∧ Chg c G1 H1 Gj H' ∧ H' l = some (.lst vl) ∧ Lets K H' vl ls ∧ H' lf = some (.lst vf) ∧ Lets K H' vf fd ∧ l ∉ Gj ∧ lf ∉ Gj ∧ comeL mj (ls.drop j) = some (mf, bf, ff) ∧ (bj || bf) = b ∧ fd ++ ff = FF ∧ vf.length ≤ j)
          ⟨_, _, _, _, false, b, _, G1, [], [], FF, rfl, hm1.chg T.ok c0 (fun _ _ => by simp), Chg.alloc hlf, by rw [upd_ne llf]; exact hl1, hlets1.chg c0, upd_same, .nil, lG1, lfG1, h3, rfl, rfl, Nat.zero_le _⟩
          (fun _ _ _ _ ⟨_, _, _, _, _, _, _, _, _, _, _, _, _, _, h, _⟩ => SqL.of h) ?_ ?_
        · rintro j y σ H' hj ⟨z2, z3, z6, z7, bj, bf, mj, Gj, vf, fd, ff, rfl, hmj, chj, hlj, hletj, hlfj, hfdj, lGj, lfGj, hcome, hbb, hff, hvf⟩
          obtain ⟨⟨g, kk, n⟩, hlt, hg, tp, vs, vg, rfl, hsq, hs, hgv⟩ := paired_get hletj hj
          obtain ⟨jlt, hje⟩ := List.getElem?_eq_some_iff.mp hlt
          have jvl : j < vl.length := (List.getElem?_eq_some_iff.mp hj).1
          rw [List.drop_eq_getElem_cons jlt, hje] at hcome
          have e1 : comeL mj ((g, kk, n) :: ls.drop (j + 1)) = (if QM.inL (atP mj g).ps.reverse n (otherP g, kk) then (match QM.learnS ⟨(atP mj g).ps, (atP mj g).ad, true⟩ kk with | none => none | some (s', b) => match comeL (putP mj g s') (ls.drop (j + 1)) with | none => none | some (m', b', f) => some (m', b || b', (g, kk, n) :: f)) else comeL mj (ls.drop (j + 1))) := rfl
          rw [e1] at hcome
          have hg : g = 1 ∨ g = 2 := hg
          have hs : AdAt K H' vs (otherP g, kk) := hs
          have hgv : AdAt K H' vg (g, n) := hgv
          obtain ⟨ag, rfl, hag⟩ := id hgv
          obtain ⟨as, rfl, has⟩ := id hs
          obtain ⟨p', dx', dS', lR', vx', vy', vr', Gx', Gy', x', eG'⟩ := id hmj
          have ev' := x'.ev
          injection ev' with ev'
          subst ev'
          have hside := x'.side hg
          obtain ⟨sp, sdx, slp, sla, svp, sF, sva, sx, eGs⟩ := id hside
          have hget := DGet.k (k := .inr (plS g)) x'.sd
          rw [sides_val hg] at hget
          refine ⟨tp, _, rfl, hsq, rfl, _, _, rfl, _, _, rfl, rfl, ?_⟩
          refine ⟨_, rfl, vp, c.M, dx', _, _, rfl, x'.ins, T.clM, T.nM1, fM_sides, _, rfl, ag, _, 0, _, rfl, rfl, hag.2, rfl, dS', _, rfl, hget, ?_⟩
          refine ⟨_, rfl, sp, sdx, _, sx.ev, sx.ins, fS_noI, _, rfl, ag, _, 1, _, rfl, rfl, hag.2, rfl, _, rfl, _, V.ref as, n, g, (otherP g, kk), atP mj g, _, rfl, hside, hs, fun H2 sm => ⟨_, rfl, ?_⟩⟩
          have chs : Chg c [] H' [] H2 := Chg.of_same sm
          have x2 := x'.chg T.ok chs (fun _ _ => by simp)
          have sx2 := sx.chg T.ok chs (fun _ _ => by simp)
          cases hin : QM.inL (atP mj g).ps.reverse n (otherP g, kk) with
          | false =>
            rw [hin, if_neg Bool.false_ne_true] at hcome
            exact iteF ⟨_, _, _, _, bj, bf, mj, Gj, vf, fd, ff, rfl, ⟨vp, dx', dS', lR', vx', vy', vr', Gx', Gy', x2, eG'⟩, chj.trans (Chg.of_same sm), sm _ _ hlj, hletj.chg chs, sm _ _ hlfj, hfdj.chg chs, lGj, lfGj, hcome, hbb, hff, Nat.le_succ_of_le hvf⟩
          | true =>
            rw [hin, if_pos rfl] at hcome
            cases q1 : QM.learnS ⟨(atP mj g).ps, (atP mj g).ad, true⟩ kk with
            | none => rw [q1] at hcome; cases hcome
            | some z =>
              obtain ⟨s', b0⟩ := z
              rw [q1] at hcome
              dsimp only at hcome
              cases q2 : comeL (putP mj g s') (ls.drop (j + 1)) with
              | none => rw [q2] at hcome; cases hcome
              | some z =>
                obtain ⟨m', b', f'⟩ := z
                rw [q2] at hcome
                cases hcome
                refine iteT ⟨_, rfl, sp, c.S, sdx, _, sx.ev, sx2.ins, T.clS, T.nS4, (by show 4 < 1000; decide), ?_⟩
                rw [fS_put]
                obtain ⟨sx3, ch3⟩ := sx2.hear T.ok
                obtain ⟨Gx3, Gy3, x3, ch4⟩ := x2.put T.ok hg (by rw [eGs]; exact ch3) ⟨sp, sdx, slp, sla, svp, sF, sva, sx3, rfl⟩
                generalize hH3 : upd H2 sp (.ins c.S sdx (fS (V.str (plS g)) slp sla (V.bl true))) = H3 at sx3 ch3 x3 ch4
                have ch5 : Chg c Gj H' (vp :: dS' :: lR' :: (Gx3 ++ Gy3)) H3 := by
                  rw [eG']
                  exact (Chg.of_same sm).trans ch4
                have lold : H' l ≠ Option.none := by rw [hlj]; exact fun z => nomatch z
                have lfold : H' lf ≠ Option.none := by rw [hlfj]; exact fun z => nomatch z
                have l3 : l ∉ vp :: dS' :: lR' :: (Gx3 ++ Gy3) := fun z => (ch5.new _ z).elim lGj lold
                have lf3 : lf ∉ vp :: dS' :: lR' :: (Gx3 ++ Gy3) := fun z => (ch5.new _ z).elim lfGj lfold
                have hlf3 : H3 lf = some (.lst vf) := ch5.keep _ _ hlfj (.inl lfGj)
                have hl3 : H3 l = some (.lst vl) := ch5.keep _ _ hlj (.inl lGj)
                refine ⟨_, rfl, .inl ⟨rfl, _, SqL.of hlf3⟩, _, rfl, _, rfl, (by show 2 ≤ sizeLine; decide), fun t2 ht2 => ?_⟩
                have hlf4 : (upd H3 t2 (.tup [V.ref as, V.ref ag])) lf = some (.lst vf) := by rw [upd_ne (ne_of_none hlf3 ht2)]; exact hlf3
                have c6 : Chg c [] H3 [] (upd H3 t2 (.tup [V.ref as, V.ref ag])) := Chg.alloc ht2
                have c7 : Chg c [lf] (upd H3 t2 (.tup [V.ref as, V.ref ag])) [lf] (upd (upd H3 t2 (.tup [V.ref as, V.ref ag])) lf (.lst (vf ++ [V.ref t2]))) := Chg.write (by simp) hlf4 nI_l
                refine ⟨lf, _, _, rfl, rfl, hlf4, Nat.lt_of_le_of_lt hvf (Nat.lt_of_lt_of_le (show j < 4000 by omega) (by decide)), ?_⟩
                have x5 := (x3.chg T.ok c6 (fun _ _ => by simp)).chg T.ok c7 (fun q hq z => by
                  have e : q = lf := by simpa using z
                  subst e
                  exact lf3 hq)
                have lf5 : (upd (upd H3 t2 (.tup [V.ref as, V.ref ag])) lf (.lst (vf ++ [V.ref t2]))) lf = some (.lst (vf ++ [V.ref t2])) := upd_same
                have l5 : (upd (upd H3 t2 (.tup [V.ref as, V.ref ag])) lf (.lst (vf ++ [V.ref t2]))) l = some (.lst vl) := by rw [upd_ne llf, upd_ne (ne_of_none hl3 ht2)]; exact hl3
                have hs5 : AdAt K (upd (upd H3 t2 (.tup [V.ref as, V.ref ag])) lf (.lst (vf ++ [V.ref t2]))) (V.ref as) (otherP g, kk) := ((hs.chg ch5).chg c6).chg c7
                have hgv5 : AdAt K (upd (upd H3 t2 (.tup [V.ref as, V.ref ag])) lf (.lst (vf ++ [V.ref t2]))) (V.ref ag) (g, n) := ((hgv.chg ch5).chg c6).chg c7
                have let5 : Lets K (upd (upd H3 t2 (.tup [V.ref as, V.ref ag])) lf (.lst (vf ++ [V.ref t2]))) vl ls := ((hletj.chg ch5).chg c6).chg c7
                have fd5 : Lets K (upd (upd H3 t2 (.tup [V.ref as, V.ref ag])) lf (.lst (vf ++ [V.ref t2]))) (vf ++ [V.ref t2]) (fd ++ [(g, kk, n)]) :=
                  Paired.snoc (((hfdj.chg ch5).chg c6).chg c7) ⟨hg, t2, V.ref as, V.ref ag, rfl, SqT.of (c7.keep _ _ upd_same (.inr True.intro)), hs5, hgv5⟩
                have chj5 : Chg c G1 H1 (vp :: dS' :: lR' :: (Gx3 ++ Gy3)) (upd (upd H3 t2 (.tup [V.ref as, V.ref ag])) lf (.lst (vf ++ [V.ref t2]))) := ((chj.trans ch5).trans (Chg.alloc ht2)).fresh hlf
                generalize upd (upd H3 t2 (.tup [V.ref as, V.ref ag])) lf (.lst (vf ++ [V.ref t2])) = H5 at x5 lf5 l5 hs5 hgv5 let5 fd5 chj5
                have hside5 := x5.side hg
                rw [at_put hg] at hside5
                obtain ⟨sp5, sdx5, slp5, sla5, svp5, sF5, sva5, sx5, eGs5⟩ := id hside5
                refine ⟨_, rfl, sp5, sdx5, _, sx5.ev, sx5.ins, fS_noL, _, rfl, _, V.ref as, kk, g, _, s', b0, _, rfl, hside5, hs5, q1, fun H6 hs6 ch6 => ⟨_, rfl, ?_⟩⟩
                obtain ⟨Gx6, Gy6, x6, ch7⟩ := x5.put T.ok hg ch6 hs6
                rw [put_put hg] at x6
                have l6 : l ∉ vp :: dS' :: lR' :: (Gx6 ++ Gy6) := fun z => (ch7.new _ z).elim l3 (by rw [l5]; exact fun z => nomatch z)
                have lf6 : lf ∉ vp :: dS' :: lR' :: (Gx6 ++ Gy6) := fun z => (ch7.new _ z).elim lf3 (by rw [lf5]; exact fun z => nomatch z)
                have last : ∀ (bb : Bool), (bb || b') = b → ∃ (z2 z3 z6 z7 : Option V) (bj bf : Bool) (mj : QM.Mt) (Gj : List Addr) (vf' : List V) (fd ff : List Lt), [some (V.ref vp), some (V.ref l), _, some (V.ref ag), some (V.ref lf), some (V.bl bb), some (V.ref as), some (vsd g vx' vy')] = [some (.ref vp), some (.ref l), z2, z3, some (.ref lf), some (.bl bj), z6, z7] ∧
                    MeetAt c P w K H6 (.ref vp) mj Gj ∧ Chg c G1 H1 Gj H6 ∧ H6 l = some (.lst vl) ∧ Lets K H6 vl ls ∧ H6 lf = some (.lst vf') ∧ Lets K H6 vf' fd ∧ l ∉ Gj ∧ lf ∉ Gj ∧ comeL mj (ls.drop (j + 1)) = some (mf, bf, ff) ∧ (bj || bf) = b ∧ fd ++ ff = FF ∧ vf'.length ≤ j + 1 := fun bb hbb' =>
                  ⟨z2, _, _, _, bb, b', putP mj g s', vp :: dS' :: lR' :: (Gx6 ++ Gy6), vf ++ [V.ref t2], fd ++ [(g, kk, n)], f', rfl, ⟨vp, dx', dS', lR', vx', vy', vr', Gx6, Gy6, x6, rfl⟩, chj5.trans ch7, ch7.keep _ _ l5 (.inl l3), let5.chg ch7, ch7.keep _ _ lf5 (.inl lf3), fd5.chg ch7, l6, lf6, q2, hbb', by rw [← hff, List.append_assoc] <;> rfl, by rw [List.length_append, List.length_singleton]; omega⟩
                cases b0 with
                | true => exact iteT (last true (by rw [← hbb]; cases bj <;> rfl))
                | false => exact iteF (last bj hbb)
        · rintro σ H' ⟨z2, z3, z6, z7, bj, bf, mj, Gj, vf, fd, ff, rfl, hmj, chj, hlj, hletj, hlfj, hfdj, lGj, lfGj, hcome, hbb, hff, hvf⟩
          have hlen : vl.length = ls.length := Paired.length hletj
          rw [hlen, List.drop_length] at hcome
          have e3 : some (mj, false, ([] : List Lt)) = some (mf, bf, ff) := hcome
          cases e3
          rw [Bool.or_false] at hbb
          rw [List.append_nil] at hff
          subst hbb hff
          exact ⟨_, _, _, _, Gj, vf, rfl, hmj, chj, hlfj, hfdj, lfGj⟩
      · rintro σ H' ⟨z2, z3, z6, z7, Gj, vf, rfl, ⟨p', dx', dS', lR', vx', vy', vr', Gx', Gy', x', eG'⟩, chj, hlfj, hfdj, lfGj⟩
        have ev' := x'.ev
        injection ev' with ev'
        subst ev'
        have hmn : mf.n ≤ 1000 := by rw [comeL_n h3]; exact hn
        refine ⟨_, rfl, vp, c.M, dx', _, _, rfl, x'.ins, T.clM, T.nM2, fM_rounds, .inl ⟨rfl, _, SqL.of x'.rs⟩, _, rfl, lf, _, rfl, .inl ⟨SqL.of hlfj, fun t1 ht1 => ?_⟩⟩
        have rs1 := (upd_ne (o := HO.tup vf) (ne_of_none x'.rs ht1)).trans x'.rs
        refine ⟨lR', _, _, rfl, rfl, rs1, small1000 (by rw [x'.rl]; exact hmn), ?_⟩
        have pl' : vp ≠ lR' := ne_of x'.ins x'.rs (fun z => nomatch z)
        refine ⟨_, rfl, _, rfl, _, rfl, vp, c.M, dx', _, rfl, (by rw [upd_ne pl', upd_ne (ne_of_none x'.ins ht1)]; exact x'.ins), T.clM, T.nM3, (by show 3 < 1000; decide), ?_⟩
        rw [fM_put]
        obtain ⟨x9, ch9⟩ := x'.done T.ok (o1 := .tup vf) (st := !b) ht1 hmn
        rw [← eG'] at ch9
        have hlf9 := ch9.keep _ _ hlfj (.inl lfGj)
        refine ⟨_, rfl, lf, _, rfl, .inl ⟨SqL.of hlf9, fun t ht => ?_⟩⟩
        have c10 : Chg c [] _ [] (upd _ t (.tup vf)) := Chg.alloc ht
        exact k _ Gj t vf ⟨vp, dx', dS', lR', vx', vy', _, Gx', Gy', x9.chg T.ok c10 (fun _ _ => by simp), eG'⟩ (ch1.trans (chj.trans (ch9.trans (Chg.alloc ht)))) upd_same ((hfdj.chg ch9).chg c10)
end
end QD
set_option Elab.async false
set_option linter.all false
set_option maxRecDepth 100000
set_option maxHeartbeats 8000000
namespace QD
open PySem PySem.Spec PyProof.Rows L2
/-- e.f within a comprehension: the written part by name -/
theorem pe_fldK {X : Cx} {K : PySem.W.Frag} {e : Expr} {f : Str} {pos : Pos} {ta : TE} (hK : X.K = K) (he : PE X e ta) (hb : attributeBase e f X.env (eval e X.env) = eval e X.env) : PE X (.Attribute e f pos) (tFld K ta f) := by
  subst hK
  exact pe_fld he hb
theorem merge_sides {vx vy : V} : mergeK [] [((.inr "x" : Key), vx), (.inr "y", vy)] = sidesV vx vy := by kernel_rfl
theorem put_sides0 {v : V} : putK [] (.inr "x" : Key) v = [(.inr "x", v)] := by kernel_rfl
theorem put_sides1 {v u : V} : putK [((.inr "x" : Key), v)] (.inr "y") u = sidesV v u := by kernel_rfl
section
variable {P : Program} {w : World} {K : PySem.W.Frag} {mg : Str → Option Value} {base : Heap} {c : CL}
theorem end_ty {H : Hp} {v : V} {ds : List QM.Dr} (T : Txt K mg c) (h : EndAt c H v ds) : TyX K H v (.ref c.E) := by
  obtain ⟨p, dx, t, vs, rfl, h1, _⟩ := h
  exact .base (.ins h1 T.clE T.isE.ha T.isE.hn T.isE.tk T.isE.hm)
theorem start_split {dsx dsy : List QM.Dr} {m : QM.Mt} (h : QM.start dsx dsy = some m) : ∃ sx nx sy ny sx' bx sy' by', QM.sentS (QM.mkSd dsx) (0, 0) = some (sx, nx) ∧ QM.sentS (QM.mkSd dsy) (0, 0) = some (sy, ny) ∧ QM.learnS sx ny = some (sx', bx) ∧ QM.learnS sy nx = some (sy', by') ∧ m = ⟨sx', sy', 0, false⟩ := by
  unfold QM.start at h
  cases q1 : QM.sentS (QM.mkSd dsx) (0, 0) with
  | none => rw [q1] at h; cases h
  | some z =>
    obtain ⟨sx, nx⟩ := z
    rw [q1] at h
    dsimp only at h
    cases q2 : QM.sentS (QM.mkSd dsy) (0, 0) with
    | none => rw [q2] at h; cases h
    | some z =>
      obtain ⟨sy, ny⟩ := z
      rw [q2] at h
      dsimp only at h
      cases q3 : QM.learnS sx ny with
      | none => rw [q3] at h; cases h
      | some z =>
        obtain ⟨sx', bx⟩ := z
        rw [q3] at h
        dsimp only at h
        cases q4 : QM.learnS sy nx with
        | none => rw [q4] at h; cases h
        | some z =>
          obtain ⟨sy', by'⟩ := z
          rw [q4] at h
          cases h
          exact ⟨sx, nx, sy, ny, sx', bx, sy', by', rfl, rfl, q3, q4, rfl⟩
theorem made_chg {H : Hp} {x dx C : Addr} (nx : H x = none) (ndx : H dx = none) (ne : dx ≠ x) : Chg c [] H [] (upd (upd H dx (.own x)) x (.ins C dx [])) :=
  (Chg.alloc ndx).trans (Chg.alloc (by rw [upd_ne (Ne.symm ne)]; exact nx))
/-- a new side -/
theorem side_chg {H H' : Hp} {x dx : Addr} {F : List Addr} (nx : H x = none) (ndx : H dx = none) (fr : ∀ q ∈ F, (upd (upd H dx (.own x)) x (.ins c.S dx [])) q = none) (kp : ∀ q o, q ≠ x → (upd (upd H dx (.own x)) x (.ins c.S dx [])) q = some o → H' q = some o) :
    Chg c [] H (x :: F) H' := by
  refine ⟨fun q o e _ => kp q o (ne_of_none e nx) (by rw [upd_ne (ne_of_none e nx), upd_ne (ne_of_none e ndx)]; exact e), fun q hq => .inr ?_⟩
  rcases List.mem_cons.mp hq with e | hq
  · rw [e]; exact nx
  · have z := fr q hq
    cases e : H q with
    | none => rfl
    | some o =>
      rw [upd_ne (ne_of_none e nx), upd_ne (ne_of_none e ndx), e] at z
      cases z
def spMI (c : CL) (P : Program) (w : World) (K : PySem.W.Frag) : Sp := fun vs H Q _ => ∃ (p dx : Addr) (xv yv : V) (dsx dsy : List QM.Dr) (m : QM.Mt), vs = [.ref p, xv, yv] ∧ H p = some (.ins c.M dx []) ∧ EndAt c H xv dsx ∧ EndAt c H yv dsy ∧ QM.start dsx dsy = some m ∧
  ∀ H' G, MeetAt c P w K H' (.ref p) m G → Chg c [p] H G H' → Q .non H'
theorem scMI : FnScope ["self", "x", "y", "seen", "place"] ["self", "x", "y"] (defScope sMeetI) := ⟨rfl, rfl, rfl, by decide +kernel, rfl, by decide +kernel, by decide +kernel⟩
theorem ok_mI {f fI fS' fN : Addr} {fd fdI fdS fdN : FuncData} (F : Fun K "__init__" "Meeting.__init__" sMeetI f fd) (T : Txt K mg c)
    (M : Mk K c.S fI) (GI : FnOk P w K mg base CX0 3 fI fdI ["self", "end", "place"] (spSideI c P w K)) (bI : Binds K fdI ["self", "end", "place"] [])
    (mS : Meth K c.S "sent" fS') (GS : FnOk P w K mg base CX0 4 fS' fdS ["self", "address"] (spSideS c P w K)) (bS : Binds K fdS ["self", "address"] [])
    (mN : Meth K c.S "learns" fN) (GN : FnOk P w K mg base CX0 1 fN fdN ["self", "address"] (spSideN c P w K)) (bN : Binds K fdN ["self", "address"] []) : FnOk P w K mg base CX0 5 f fd ["self", "x", "y"] (spMI c P w K) := by
  refine F.ok scMI (fun vs H Q E h => ?_) (fun cdv A outer s H vs Q E hr h => ?_)
  · obtain ⟨p, dx, xv, yv, dsx, dsy, m, rfl, _⟩ := h
    rfl
  · obtain ⟨p, dx, xv, yv, dsx, dsy, m, rfl, hp, hx, hy, hst, k⟩ := h
    obtain ⟨sx1, nx, sy1, ny, sx2, bx, sy2, by', h1, h2, h3, h4, rfl⟩ := start_split hst
    obtain ⟨pA, mgA, sqA⟩ := T.places
    obtain ⟨hA, mgH, sqH⟩ := T.house
    have hr1 : Room 1 _ := hr.mono (by decide)
    refine ⟨_, pss_cons (ps_if (pt_not (pt_val (pe_callB call_isi (by rfl) T.isi (by decide +kernel) (pa_cons (pv 1) (pa_cons (pe_glob (v := V.ref c.E) rfl T.mgE rfl) pa_nil))))) (pss_one ps_never) pss_nil)
      (pss_cons (ps_if (pt_not (pt_val (pe_callB call_isi (by rfl) T.isi (by decide +kernel) (pa_cons (pv 2) (pa_cons (pe_glob (v := V.ref c.E) rfl T.mgE rfl) pa_nil))))) (pss_one ps_never) pss_nil)
      (pss_cons (ps_fld (pv 0) (pe_disp (pps_cons pe_str (pe_make M GI hr (by rfl) T.mgS bI .nil pass0 (pa_cons (pv 1) (pa_cons pe_str pa_nil))) (pps_cons pe_str (pe_make M GI hr (by rfl) T.mgS bI .nil pass0 (pa_cons (pv 2) (pa_cons pe_str pa_nil))) pps_nil)) (by rfl) (by rfl) (fun z => by cases z) (by decide)) rfl)
      (pss_cons (ps_fld (pv 0) (pe_lst pa_nil) rfl)
      (pss_cons (ps_fld (pv 0) pe_bl rfl)
      (C8.pss_cut (ps_setDc (i := 3) (own := [("place", 4)]) (g := gName 4) (tt := tYes) rfl scMI.nd rfl rfl (sw_trueD rfl rfl rfl (by decide +kernel)) (pi_tup (pe_glob (v := V.ref pA) rfl mgA rfl)) (blkOk_by (N := ["self", "x", "y", "seen", "place"]) (sc := defScope sMeetI) (by decide +kernel))
          (fun _ _ _ _ _ => pg_name (i := 4) scMI.nd rfl (Or.inl rfl)) (fun _ _ _ _ _ => pts_nil) (fun _ _ _ _ _ => pv 4)
          (fun _ _ _ _ _ => pe_meth (pe_dget (hu_of hr) (pe_fldK (K := K) rfl (pv 0) rfl) (pv 4) (fun _ _ => rfl)) T.clS mS GS hr bS .nil pass0 (pa_cons (pe_glob (v := V.ref hA) rfl mgH rfl) pa_nil)))
      (pss_cons (ps_expr (pe_meth (pe_dget (hu_of hr) (pe_fld (pv 0) rfl) pe_str (fun _ _ => rfl)) T.clS mN GN hr1 bN .nil pass0 (pa_cons (pe_dget (hu_of hr) (pv 3) pe_str (fun _ _ => rfl)) pa_nil)))
      (pss_one (ps_expr (pe_meth (pe_dget (hu_of hr) (pe_fld (pv 0) rfl) pe_str (fun _ _ => rfl)) T.clS mN GN hr1 bN .nil pass0 (pa_cons (pe_dget (hu_of hr) (pv 3) pe_str (fun _ _ => rfl)) pa_nil)))))))))), ?_⟩
    refine ⟨_, rfl, _, _, _, _, true, rfl, .own _, end_ty T hx, T.isE.kit, _, rfl, iteF ?_⟩
    refine ⟨_, rfl, _, _, _, _, true, rfl, .own _, end_ty T hy, T.isE.kit, _, rfl, iteF ?_⟩
    refine fun dS hdS => ⟨_, rfl, fun sx sdx nsx nsdx nesx => ?_⟩
    have cA : Chg c [] H [] (upd H dS (.dK [])) := Chg.alloc hdS
    refine ⟨sx, sdx, xv, dsx, 1, rfl, .inl rfl, upd_same, (hx.chg T.ok cA).chg T.ok (made_chg nsx nsdx nesx), fun H3 Fx hsx frx kpx => ⟨rfl, ?_⟩⟩
    have c1 := side_chg (c := c) nsx nsdx frx kpx
    refine ⟨_, rfl, fun sy sdy nsy nsdy nesy => ?_⟩
    refine ⟨sy, sdy, yv, dsy, 2, rfl, .inr rfl, upd_same, ((hy.chg T.ok cA).chg T.ok c1).chg T.ok (made_chg nsy nsdy nesy), fun H5 Fy hsy fry kpy => ⟨rfl, ?_⟩⟩
    have c2 := side_chg (c := c) nsy nsdy fry kpy
    have pdS : p ≠ dS := ne_of_none hp hdS
    have hp1 : (upd H dS (.dK [])) p = some (.ins c.M dx []) := by rw [upd_ne pdS]; exact hp
    have hp3 := c1.keep _ _ hp1 (.inl (by simp))
    have hp5 := c2.keep _ _ hp3 (.inl (by simp))
    have hd3 := c1.keep dS _ upd_same (.inl (by simp))
    have hd5 := c2.keep _ _ hd3 (.inl (by simp))
    refine ⟨hd5, [(.inr "x", .ref sx), (.inr "y", .ref sy)], rfl, (by show 2 ≤ 15; decide), ?_⟩
    rw [merge_sides]
    refine ⟨_, rfl, p, c.M, dx, [], rfl, (by rw [upd_ne pdS]; exact hp5), T.clM, T.nM1, (by show 0 < 1000; decide), ?_⟩
    refine ⟨Nat.zero_le _, fun lR hlR => ?_⟩
    have plR : p ≠ lR := ne_of_none upd_same hlR
    refine ⟨_, rfl, p, c.M, dx, _, rfl, (by rw [upd_ne plR]; exact upd_same), T.clM, T.nM2, (by show 1 < 1000; decide), ?_⟩
    refine ⟨_, rfl, p, c.M, dx, _, rfl, upd_same, T.clM, T.nM3, (by show 2 < 1000; decide), ?_⟩
    rw [fM_mk]
    have hlR6 : (upd H5 dS (.dK (sidesV (V.ref sx) (V.ref sy)))) lR = Option.none := by rw [upd_ne plR.symm] at hlR; exact hlR
    have dSlR : dS ≠ lR := ne_of_none upd_same hlR6
    have hlR5 : H5 lR = Option.none := by rw [upd_ne dSlR.symm] at hlR6; exact hlR6
    have c5 : Chg c [dS, p] H5 [dS, p] (upd (upd (upd (upd (upd H5 dS (.dK (sidesV (V.ref sx) (V.ref sy)))) p (.ins c.M dx (putF "sides" (V.ref dS) []))) lR (.lst [])) p (.ins c.M dx (putF "own_rounds" (V.ref lR) (putF "sides" (V.ref dS) [])))) p (.ins c.M dx (fM dS lR (V.bl false)))) := by
      have b1 : Chg c [dS, p] H5 [dS, p] (upd H5 dS (.dK (sidesV (V.ref sx) (V.ref sy)))) := Chg.write (by simp) hd5 (fun z => z)
      have b2 := b1.trans (Chg.write (l := p) (u' := .ins c.M dx (putF "sides" (V.ref dS) [])) (by simp) (by rw [upd_ne pdS]; exact hp5) nI_M)
      have b3 := b2.trans (Chg.alloc (l := lR) (u' := .lst []) hlR)
      have b4 := b3.trans (Chg.write (l := p) (u' := .ins c.M dx (putF "own_rounds" (V.ref lR) (putF "sides" (V.ref dS) []))) (by simp) (by rw [upd_ne plR]; exact upd_same) nI_M)
      exact b4.trans (Chg.write (l := p) (by simp) upd_same nI_M)
    have dS10 : (upd (upd (upd (upd (upd H5 dS (.dK (sidesV (V.ref sx) (V.ref sy)))) p (.ins c.M dx (putF "sides" (V.ref dS) []))) lR (.lst [])) p (.ins c.M dx (putF "own_rounds" (V.ref lR) (putF "sides" (V.ref dS) [])))) p (.ins c.M dx (fM dS lR (V.bl false)))) dS = some (.dK (sidesV (V.ref sx) (V.ref sy))) := by
      rw [upd_ne pdS.symm, upd_ne pdS.symm, upd_ne dSlR, upd_ne pdS.symm, upd_same]
    have lR10 : (upd (upd (upd (upd (upd H5 dS (.dK (sidesV (V.ref sx) (V.ref sy)))) p (.ins c.M dx (putF "sides" (V.ref dS) []))) lR (.lst [])) p (.ins c.M dx (putF "own_rounds" (V.ref lR) (putF "sides" (V.ref dS) [])))) p (.ins c.M dx (fM dS lR (V.bl false)))) lR = some (.lst []) := by
      rw [upd_ne plR.symm, upd_ne plR.symm, upd_same]
    have p10 : (upd (upd (upd (upd (upd H5 dS (.dK (sidesV (V.ref sx) (V.ref sy)))) p (.ins c.M dx (putF "sides" (V.ref dS) []))) lR (.lst [])) p (.ins c.M dx (putF "own_rounds" (V.ref lR) (putF "sides" (V.ref dS) [])))) p (.ins c.M dx (fM dS lR (V.bl false)))) p = some (.ins c.M dx (fM dS lR (V.bl false))) := upd_same
    generalize upd (upd (upd (upd (upd H5 dS (.dK (sidesV (V.ref sx) (V.ref sy)))) p (.ins c.M dx (putF "sides" (V.ref dS) []))) lR (.lst [])) p (.ins c.M dx (putF "own_rounds" (V.ref lR) (putF "sides" (V.ref dS) [])))) p (.ins c.M dx (fM dS lR (V.bl false))) = H10 at c5 dS10 lR10 p10
    have frx' : ∀ q ∈ sx :: Fx, (upd H dS (.dK [])) q = Option.none := fun q hq => (c1.new q hq).elim (fun z => by simp at z) id
    have fry' : ∀ q ∈ sy :: Fy, H3 q = Option.none := fun q hq => (c2.new q hq).elim (fun z => by simp at z) id
    have pFx : p ∉ sx :: Fx := fun z => by rw [frx' p z] at hp1; cases hp1
    have pFy : p ∉ sy :: Fy := fun z => by rw [fry' p z] at hp3; cases hp3
    have dFx : dS ∉ sx :: Fx := fun z => by have y := frx' dS z; rw [upd_same] at y; cases y
    have dFy : dS ∉ sy :: Fy := fun z => by rw [fry' dS z] at hd3; cases hd3
    have hsx5 := hsx.chg T.ok c2 (fun _ _ => by simp)
    have lFx : lR ∉ sx :: Fx := fun z => hsx5.there lR z hlR5
    have lFy : lR ∉ sy :: Fy := fun z => hsy.there lR z hlR5
    have x10 : MeetX c P w K H10 (.ref p) ⟨QM.mkSd dsx, QM.mkSd dsy, 0, false⟩ p dx dS lR (V.ref sx) (V.ref sy) [] (sx :: Fx) (sy :: Fy) := by
      refine ⟨rfl, p10, dS10, lR10, rfl, Nat.zero_le _, hsx5.chg T.ok c5 (fun q hq z => ?_), hsy.chg T.ok c5 (fun q hq z => ?_), ?_⟩
      · simp only [List.mem_cons, List.not_mem_nil, or_false] at z
        rcases z with z | z
        · rw [z] at hq; exact dFx hq
        · rw [z] at hq; exact pFx hq
      · simp only [List.mem_cons, List.not_mem_nil, or_false] at z
        rcases z with z | z
        · rw [z] at hq; exact dFy hq
        · rw [z] at hq; exact pFy hq
      · rw [List.nodup_cons, List.nodup_cons, List.nodup_cons, List.nodup_append]
        refine ⟨fun z => ?_, fun z => ?_, fun z => ?_, hsx.nd, hsy.nd, fun a ha b hb e => ?_⟩
        · rcases List.mem_cons.mp z with z | z
          · exact pdS z
          rcases List.mem_cons.mp z with z | z
          · exact plR z
          · exact (List.mem_append.mp z).elim pFx pFy
        · rcases List.mem_cons.mp z with z | z
          · exact dSlR z
          · exact (List.mem_append.mp z).elim dFx dFy
        · exact (List.mem_append.mp z).elim lFx lFy
        · subst e
          exact hsx.there a ha (fry' a hb)
    have cT : Chg c [p] H (p :: dS :: lR :: ((sx :: Fx) ++ (sy :: Fy))) H10 := by
      have a1 : Chg c [p] H [dS, p] (upd H dS (.dK [])) := (Chg.alloc hdS : Chg c [p] H [p] _).less fun q hq => by
        simp only [List.mem_cons, List.not_mem_nil, or_false] at hq
        rcases hq with z | z
        · rw [z]; exact .inr hdS
        · exact .inl (by simp [z])
      have a2 : Chg c [dS, p] (upd H dS (.dK [])) [dS, p] H3 := c1.more (fun _ z => nomatch z) (fun q hq => .inr (.inl hq))
      have a3 : Chg c [dS, p] H3 [dS, p] H5 := c2.more (fun _ z => nomatch z) (fun q hq => .inr (.inl hq))
      have h01 : ∀ q, (upd H dS (.dK [])) q = Option.none → H q = Option.none := fun q z => by
        cases e : H q with
        | none => rfl
        | some o => rw [cA.keep q o e (.inl (by simp))] at z; cases z
      have h03 : ∀ q, H3 q = Option.none → H q = Option.none := fun q z => h01 q (by
        cases e : (upd H dS (.dK [])) q with
        | none => rfl
        | some o => rw [c1.keep q o e (.inl (by simp))] at z; cases z)
      have h05 : ∀ q, H5 q = Option.none → H q = Option.none := fun q z => h03 q (by
        cases e : H3 q with
        | none => rfl
        | some o => rw [c2.keep q o e (.inl (by simp))] at z; cases z)
      refine (((a1.trans a2).trans a3).trans c5).less fun q hq => ?_
      rcases List.mem_cons.mp hq with z | hq
      · exact .inl (by simp [z])
      rcases List.mem_cons.mp hq with z | hq
      · exact .inl (by simp [z])
      rcases List.mem_cons.mp hq with z | hq
      · rw [z]; exact .inr (h05 _ hlR5)
      rcases List.mem_append.mp hq with hq | hq
      · exact .inr (h01 _ (frx' q hq))
      · exact .inr (h03 _ (fry' q hq))
    clear c5 hsx5 hlR5 hlR6 hlR hd5 hp5 hp3 hd3 c1 c2 frx kpx fry kpy
    -- what each is seen as
    refine ⟨fun σ H' => ∃ (D qx qy : Addr) (Gj : List Addr) (z4 : Option V), σ = [some (.ref p), some xv, some yv, some (.ref D), z4] ∧ MeetAt c P w K H' (.ref p) ⟨sx1, sy1, 0, false⟩ Gj ∧ Chg c [p] H Gj H' ∧ H' D = some (.dK (sidesV (V.ref qx) (V.ref qy))) ∧ AdT K H' qx (1, nx) ∧ AdT K H' qy (2, ny) ∧ D ∉ Gj, ?_, ?_⟩
    · refine ⟨pA, rfl, ⟨_, sqA _⟩, fun D hD => ?_⟩
      refine dc_tup (K := K) (a := pA) (xs := [V.str "x", V.str "y"]) (fun i H' => ∃ (mi : QM.Mt) (Gi : List Addr), MeetAt c P w K H' (.ref p) mi Gi ∧ Chg c [p] H Gi H' ∧ D ∉ Gi ∧
          ((i = 0 ∧ mi = ⟨QM.mkSd dsx, QM.mkSd dsy, 0, false⟩ ∧ H' D = some (.dK [])) ∨ (i = 1 ∧ mi = ⟨sx1, QM.mkSd dsy, 0, false⟩ ∧ ∃ qx, H' D = some (.dK [(.inr "x", .ref qx)]) ∧ AdT K H' qx (1, nx)) ∨
            (i = 2 ∧ mi = ⟨sx1, sy1, 0, false⟩ ∧ ∃ qx qy, H' D = some (.dK (sidesV (V.ref qx) (V.ref qy))) ∧ AdT K H' qx (1, nx) ∧ AdT K H' qy (2, ny))))
        ⟨_, _, ⟨p, dx, dS, lR, _, _, _, _, _, x10.chg (G := []) (G1 := []) T.ok (Chg.alloc hD) (fun _ _ => by simp), rfl⟩, cT.trans (Chg.alloc hD), fun z => x10.there D z hD, .inl ⟨rfl, rfl, upd_same⟩⟩ (fun _ _ _ _ => sqA _) ?_ ?_
      · rintro i y H' hi ⟨mi, Gi, hmi, chi, dGi, hcase⟩
        obtain ⟨pl, s', n', kvs, hpl, ey, hsent, hkv, hkl, hnext⟩ : ∃ (pl : Nat) (s' : QM.Sd) (n' : Nat) (kvs : List (Key × V)), (pl = 1 ∨ pl = 2) ∧ y = V.str (plS pl) ∧ QM.sentS (atP mi pl) (0, 0) = some (s', n') ∧ H' D = some (.dK kvs) ∧ kvs.length ≤ 2 ∧
            ∀ (H6 : Hp) (q : Addr), (∀ z a, AdT K H' z a → AdT K H6 z a) → H6 D = some (.dK (putK kvs (.inr (plS pl)) (V.ref q))) → AdT K H6 q (pl, n') →
              ((i + 1 = 0 ∧ putP mi pl s' = ⟨QM.mkSd dsx, QM.mkSd dsy, 0, false⟩ ∧ H6 D = some (.dK [])) ∨ (i + 1 = 1 ∧ putP mi pl s' = ⟨sx1, QM.mkSd dsy, 0, false⟩ ∧ ∃ qx, H6 D = some (.dK [(.inr "x", .ref qx)]) ∧ AdT K H6 qx (1, nx)) ∨
            (i + 1 = 2 ∧ putP mi pl s' = ⟨sx1, sy1, 0, false⟩ ∧ ∃ qx qy, H6 D = some (.dK (sidesV (V.ref qx) (V.ref qy))) ∧ AdT K H6 qx (1, nx) ∧ AdT K H6 qy (2, ny))) := by
          rcases hcase with ⟨rfl, rfl, hk⟩ | ⟨rfl, rfl, qx, hk, hq⟩ | ⟨rfl, _, _⟩
          · refine ⟨1, sx1, nx, [], .inl rfl, (Option.some.inj hi).symm, h1, hk, Nat.zero_le _, fun H6 q tr hd hq => .inr (.inl ⟨rfl, rfl, q, ?_, hq⟩)⟩
            rw [hd]
            exact congrArg (fun z => some (HO.dK z)) put_sides0
          · refine ⟨2, sy1, ny, _, .inr rfl, (Option.some.inj hi).symm, h2, hk, (by show 1 ≤ 2; decide), fun H6 q tr hd hq' => .inr (.inr ⟨rfl, rfl, qx, q, ?_, tr _ _ hq, hq'⟩)⟩
            rw [hd]
            exact congrArg (fun z => some (HO.dK z)) put_sides1
          · cases hi
        subst ey
        obtain ⟨p', dx', dS', lR', vx', vy', vr', Gx', Gy', x', eG'⟩ := id hmi
        have ev' := x'.ev
        injection ev' with ev'
        subst ev'
        have hside := x'.side hpl
        obtain ⟨sp, sdx', slp, sla, svp, sF, sva, sx', _⟩ := id hside
        have hget := DGet.k (k := .inr (plS pl)) x'.sd
        rw [sides_val hpl] at hget
        refine ⟨rfl, _, rfl, _, rfl, p, c.M, dx', _, _, rfl, x'.ins, T.clM, T.nM1, fM_sides, _, rfl, dS', _, rfl, hget, sp, sdx', _, sx'.ev, sx'.ins, fS_noS, _, V.ref hA, n', pl, (0, 0), atP mi pl, s', _, rfl, hside, ⟨hA, rfl, Nat.zero_le _, sqH _⟩, hsent, fun H4 G4 q hs4 ch4 hq4 => ?_⟩
        obtain ⟨Gx4, Gy4, x4, ch5⟩ := x'.put T.ok hpl ch4 hs4
        rw [← eG'] at ch5
        have dold : H' D ≠ Option.none := by rw [hkv]; exact fun z => nomatch z
        have hkv4 : H4 D = some (.dK kvs) := ch5.keep _ _ hkv (.inl dGi)
        have d4 : D ∉ p :: dS' :: lR' :: (Gx4 ++ Gy4) := fun z => (ch5.new _ z).elim dGi dold
        have c6 : Chg c [D] H4 [D] (upd H4 D (.dK (putK kvs (.inr (plS pl)) (V.ref q)))) := Chg.write (by simp) hkv4 (fun z => z)
        refine ⟨kvs, .inr (plS pl), rfl, hkv4, small1000 (by omega), putP mi pl s', p :: dS' :: lR' :: (Gx4 ++ Gy4), ⟨p, dx', dS', lR', vx', vy', vr', Gx4, Gy4, x4.chg T.ok c6 (fun q hq z => ?_), rfl⟩, ?_, d4, hnext _ q (fun z a h => (h.chg ch5).chg c6) upd_same (hq4.chg c6)⟩
        · have e : q = D := by simpa using z
          rw [e] at hq
          exact d4 hq
        · have hDn : H D = Option.none := by
            cases e : H D with
            | none => rfl
            | some o =>
              by_cases hDp : D = p
              · rw [hDp] at hD
                rw [p10] at hD; cases hD
              · rw [cT.keep D o e (.inl (by simpa using hDp))] at hD
                cases hD
          exact (chi.trans ch5).fresh hDn
      · rintro H' ⟨mi, Gi, hmi, chi, dGi, hcase⟩
        rcases hcase with ⟨z, _, _⟩ | ⟨z, _, _⟩ | ⟨_, rfl, qx, qy, hk, hq1, hq2⟩
        · exact nomatch z
        · exact nomatch z
        · exact ⟨D, qx, qy, Gi, _, rfl, hmi, chi, hk, hq1, hq2, dGi⟩
    · rintro σ H' ⟨D, qx, qy, Gj, z4, rfl, ⟨p', dx', dS', lR', vx', vy', vr', Gx', Gy', x', eG'⟩, chj, hk, hq1, hq2, dG⟩
      have ev' := x'.ev
      injection ev' with ev'
      subst ev'
      have hside := x'.side (pl := 1) (.inl rfl)
      obtain ⟨sp, sdx', slp, sla, svp, sF, sva, sx', _⟩ := id hside
      have hget1 := DGet.k (k := .inr (plS 1)) x'.sd
      rw [sides_val (.inl rfl)] at hget1
      have hgy := DGet.k (k := .inr (plS 2)) hk
      rw [sides_val (.inr rfl)] at hgy
      refine ⟨_, rfl, p, c.M, dx', _, _, rfl, x'.ins, T.clM, T.nM1, fM_sides, dS', _, rfl, hget1, sp, sdx', _, sx'.ev, sx'.ins, fS_noL, _, rfl, D, _, rfl, hgy, _, V.ref qy, ny, 1, sx1, sx2, bx, _, rfl, hside, ⟨qy, rfl, hq2⟩, h3, fun H6 hs6 ch6 => ?_⟩
      obtain ⟨Gx6, Gy6, x6, ch7⟩ := x'.put (pl := 1) T.ok (.inl rfl) ch6 hs6
      rw [← eG'] at ch7
      have hk6 := ch7.keep _ _ hk (.inl dG)
      have hside2 := x6.side (pl := 2) (.inr rfl)
      obtain ⟨sp2, sdx2, slp2, sla2, svp2, sF2, sva2, sx2', _⟩ := id hside2
      have hget2 := DGet.k (k := .inr (plS 2)) x6.sd
      rw [sides_val (.inr rfl)] at hget2
      have hgx := DGet.k (k := .inr (plS 1)) hk6
      rw [sides_val (.inl rfl)] at hgx
      refine ⟨_, rfl, p, c.M, dx', _, _, rfl, x6.ins, T.clM, T.nM1, fM_sides, dS', _, rfl, hget2, sp2, sdx2, _, sx2'.ev, sx2'.ins, fS_noL, _, rfl, D, _, rfl, hgx, _, V.ref qx, nx, 2, sy1, sy2, by', _, rfl, hside2, ⟨qx, rfl, hq1.chg ch7⟩, h4, fun H8 hs8 ch8 => ?_⟩
      obtain ⟨Gx8, Gy8, x8, ch9⟩ := x6.put (pl := 2) T.ok (.inr rfl) ch8 hs8
      exact k H8 _ ⟨p, dx', dS', lR', vx', vy', vr', Gx8, Gy8, x8, rfl⟩ ((chj.trans ch7).trans ch9)
end
end QD
set_option Elab.async false
set_option linter.all false
set_option maxRecDepth 100000
set_option maxHeartbeats 8000000
namespace QD
open PySem PySem.Spec PyProof.Rows L2
theorem call_isiX {X : Cx} {K : PySem.W.Frag} (hK : X.K = K) : CallR X (.builtin "isinstance") (rIsi K) := by
  subst hK
  exact call_isi
/-- a walk over a tuple that stays, whatever a turn is -/
theorem tup_loop {K : PySem.W.Frag} {a : Addr} {xs : List V} {H1 : Hp} {Qd : Hp → Prop} {B : V → Hp → (Hp → Prop) → Prop} (Pv : Nat → Hp → Prop) (h0 : Pv 0 H1) (hl : ∀ i H, i ≤ xs.length → Pv i H → SqT K H a xs)
    (hs : ∀ i x H, xs[i]? = some x → Pv i H → B x H (Pv (i + 1))) (hd : ∀ H, Pv xs.length H → Qd H) : ∃ W : Nat → Nat → Hp → Prop, (∃ m, W 0 m H1) ∧ ∀ i m H, W i m H →
      ((Itt K a).stop i H ∧ Qd H) ∨ ((Itt K a).go i H ∧ ∃ Nx : Hp → Prop, (∀ H', Nx H' → ∃ m', m' < m ∧ W (i + 1) m' H') ∧ ∀ x H', (Itt K a).yld i H x H' → B x H' Nx) := by
  refine ⟨fun i m H => m = xs.length - i ∧ i ≤ xs.length ∧ Pv i H, ⟨xs.length, by simp, Nat.zero_le _, h0⟩, ?_⟩
  rintro i m H ⟨rfl, hi, p⟩
  have q := hl i H hi p
  by_cases hlt : i < xs.length
  · refine .inr ⟨⟨xs, xs[i], q, by simp [hlt]⟩, Pv (i + 1), fun H' p' => ⟨xs.length - (i + 1), by omega, rfl, hlt, p'⟩, fun x H' y => ?_⟩
    obtain ⟨e, y⟩ := y
    subst e
    exact hs i x _ (y xs q) p
  · have e : i = xs.length := by omega
    subst e
    exact .inl ⟨⟨xs, q, Nat.le_refl _⟩, hd H p⟩
theorem six_at {i j : Nat} {x y : V} (hi : [V.str "one", V.str "each"][i]? = some x) (hj : [V.str "any", V.str "house", V.str "door"][j]? = some y) : ∃ d, QM.six[3 * i + j]? = some d ∧ x = V.str (gS d) ∧ y = V.str (lS d) := by
  match i, hi, j, hj with
  | 0, hi, 0, hj => exact ⟨⟨false, 0⟩, rfl, (Option.some.inj hi).symm, (Option.some.inj hj).symm⟩
  | 0, hi, 1, hj => exact ⟨⟨false, 1⟩, rfl, (Option.some.inj hi).symm, (Option.some.inj hj).symm⟩
  | 0, hi, 2, hj => exact ⟨⟨false, 2⟩, rfl, (Option.some.inj hi).symm, (Option.some.inj hj).symm⟩
  | 1, hi, 0, hj => exact ⟨⟨true, 0⟩, rfl, (Option.some.inj hi).symm, (Option.some.inj hj).symm⟩
  | 1, hi, 1, hj => exact ⟨⟨true, 1⟩, rfl, (Option.some.inj hi).symm, (Option.some.inj hj).symm⟩
  | 1, hi, 2, hj => exact ⟨⟨true, 2⟩, rfl, (Option.some.inj hi).symm, (Option.some.inj hj).symm⟩
section
variable {P : Program} {w : World} {K : PySem.W.Frag} {mg : Str → Option Value} {base : Heap} {c : CL}
/-! ### is_filter, Door.__init__ -/
def spFil (c : CL) : Sp := fun vs H Q _ => ∃ (d : QM.Dr), vs = [.str (lS d)] ∧ Q (.bl true) H
theorem scFil : FnScope ["value"] ["value"] (defScope sIsFilter) := ⟨rfl, rfl, rfl, by decide +kernel, rfl, by decide +kernel, by decide +kernel⟩
theorem in_filters (d : QM.Dr) : inV (V.str (lS d)) [V.str "any", V.str "house", V.str "door"] = true := by
  unfold lS
  split
  · decide +kernel
  · decide +kernel
  · decide +kernel
theorem in_maps (d : QM.Dr) : inV (V.str (gS d)) [V.str "one", V.str "each"] = true := by
  unfold gS
  cases d.each with
  | true => exact (by decide +kernel : inV (V.str "each") [V.str "one", V.str "each"] = true)
  | false => exact (by decide +kernel : inV (V.str "one") [V.str "one", V.str "each"] = true)
theorem ok_fil {f : Addr} {fd : FuncData} (F : Fun K "is_filter" "is_filter" sIsFilter f fd) (T : Txt K mg c) : FnOk P w K mg base CX0 1 f fd ["value"] (spFil c) := by
  refine F.ok scFil (fun vs H Q E h => ?_) (fun cdv A outer s H vs Q E hr h => ?_)
  · obtain ⟨d, rfl, _⟩ := h
    rfl
  · obtain ⟨d, rfl, q⟩ := h
    obtain ⟨pA, mgA, sqA⟩ := T.filters
    refine ⟨_, pss_one (ps_ret (pe_and (pe_callB call_isi (by rfl) T.isi (by decide +kernel) (pa_cons (pv 0) (pa_cons (pe_bltn (v := V.ty "str") (by rfl) T.str (by decide +kernel) rfl) pa_nil)))
      (pe_one (pe_cmpR op_in_seq (pv 0) (pe_glob (v := V.ref pA) rfl mgA rfl) (by rfl))))), ?_⟩
    refine ⟨_, rfl, _, _, .type "str", .type "str", true, rfl, .ty "str", .base (.str _), kit_ty (by decide +kernel), _, rfl, iteT ?_⟩
    refine ⟨_, rfl, pA, _, rfl, .inr (sqA _), rfl, rfl, ?_⟩
    rw [if_neg Bool.false_ne_true, in_filters]
    exact q
def spDrI (c : CL) : Sp := fun vs H Q _ => ∃ (p dx : Addr) (d : QM.Dr), vs = [.ref p, .str (gS d), .str (lS d)] ∧ H p = some (.ins c.D dx []) ∧ ∀ H', H' p = some (.ins c.D dx (fD d)) → (∀ q o, q ≠ p → H q = some o → H' q = some o) → Q .non H'
theorem scDI : FnScope ["self", "gives", "lets"] ["self", "gives", "lets"] (defScope sDoorI) := ⟨rfl, rfl, rfl, by decide +kernel, rfl, by decide +kernel, by decide +kernel⟩
theorem ok_drI {f fF : Addr} {fd fdF : FuncData} (F : FunD K "__init__" "Door.__init__" (defArgs sDoorI) (defBody sDoorI) (defScope sDoorI) [.str "one", .str "any"] [] f fd) (T : Txt K mg c) (FF : Fun K "is_filter" "is_filter" sIsFilter fF fdF) (mgF : mg "is_filter" = some (.ref fF)) (bF : Binds K fdF ["value"] []) :
    FnOk P w K mg base CX0 2 f fd ["self", "gives", "lets"] (spDrI c) := by
  have GF : FnOk P w K mg base CX0 1 fF fdF ["value"] (spFil c) := ok_fil FF T
  refine F.ok scDI (fun vs H Q E h => ?_) (fun cdv A outer s H vs Q E hr h => ?_)
  · obtain ⟨p, dx, d, rfl, _⟩ := h
    rfl
  · obtain ⟨p, dx, d, rfl, hp, k⟩ := h
    obtain ⟨pA, mgA, sqA⟩ := T.maps
    refine ⟨_, pss_cons (ps_if (PW.pt (pw_or (pt_not (pt_val (pe_callB call_isi (by rfl) T.isi (by decide +kernel) (pa_cons (pv 1) (pa_cons (pe_bltn (v := V.ty "str") (by rfl) T.str (by decide +kernel) rfl) pa_nil)))))
        (pw_or1 (pt_cmpR op_notIn_seq (pv 1) (pe_glob (v := V.ref pA) rfl mgA rfl) (by rfl))))) (pss_one ps_never) pss_nil)
      (pss_cons (ps_if (pt_not (pt_val (pe_call GF hr rfl mgF FF.kp bF .nil pass0 (pa_cons (pv 2) pa_nil)))) (pss_one ps_never) pss_nil)
      (pss_cons (ps_fld (pv 0) (pv 1) rfl) (pss_one (ps_fld (pv 0) (pv 2) rfl)))), ?_⟩
    refine ⟨_, rfl, _, _, .type "str", .type "str", true, rfl, .ty "str", .base (.str _), kit_ty (by decide +kernel), _, rfl, iteF ?_⟩
    refine ⟨_, rfl, pA, _, rfl, .inr (sqA _), rfl, rfl, _, rfl, ?_⟩
    rw [if_pos rfl, in_maps]
    refine iteF ⟨_, rfl, d, rfl, _, rfl, iteF ?_⟩
    refine ⟨_, rfl, _, rfl, p, c.D, dx, [], rfl, hp, T.clD, T.nD1, (by show 0 < 1000; decide), ?_⟩
    refine ⟨_, rfl, _, rfl, p, c.D, dx, _, rfl, upd_same, T.clD, T.nD2, (by show 1 < 1000; decide), ?_⟩
    rw [fD_mk]
    exact k _ upd_same fun q o hq e => by rw [upd_ne hq, upd_ne hq]; exact e

/-! ### Door.six -/
def spSix (c : CL) : Sp := fun vs H Q _ => vs = [] ∧ ∀ H' t vt, H' t = some (.tup vt) → Paired (DoorAt c H') vt QM.six → Same H H' → Q (.ref t) H'
theorem scSix : FnScope ["gives", "lets"] [] (defScope sSix) := ⟨rfl, rfl, rfl, by decide +kernel, rfl, by decide +kernel, by decide +kernel⟩
theorem ok_six {f fI : Addr} {fd fdI : FuncData} (F : Fun K "six" "Door.six" sSix f fd) (T : Txt K mg c) (M : Mk K c.D fI) (GI : FnOk P w K mg base CX0 2 fI fdI ["self", "gives", "lets"] (spDrI c)) (bI : Binds K fdI ["self", "gives", "lets"] []) :
    FnOk P w K mg base CX0 4 f fd [] (spSix c) := by
  refine F.ok scSix (fun vs H Q E h => ?_) (fun cdv A outer s H vs Q E hr h => ?_)
  · obtain ⟨rfl, _⟩ := h
    rfl
  · obtain ⟨rfl, k⟩ := h
    obtain ⟨pA, mgA, sqA⟩ := T.maps
    obtain ⟨pB, mgB, sqB⟩ := T.filters
    refine ⟨_, pss_one (ps_ret (pe_callTy call_tuple_of (by rfl) T.tuple (by decide +kernel) (pa_cons (pe_lc2 (own := [("gives", 0), ("lets", 1)]) (vs1 := [1]) (g := gName 0) (tt := tYes) (g1 := gName 1) (tt1 := tYes) rfl scSix.nd (pi_tup (pe_glob (v := V.ref pA) rfl mgA rfl)) (blkOk_by (N := ["gives", "lets"]) (sc := defScope sSix) (by decide +kernel)) (by decide)
        (fun _ _ _ _ _ => pg_name (i := 0) scSix.nd rfl (Or.inl rfl)) (fun _ _ _ _ _ => pts_nil) (wi1 := iTup K (tC (.ref pB))) (fun _ _ _ _ _ => pi_tup (pe_glob (v := V.ref pB) rfl mgB rfl)) (fun _ _ _ _ _ => pg_name (i := 1) scSix.nd rfl (Or.inl rfl)) (fun _ _ _ _ _ => pts_nil)
        (fun _ _ _ _ _ => pe_make M GI hr (by rfl) T.mgD bI .nil pass0 (pa_cons (pv 0) (pa_cons (pv 1) pa_nil)))) pa_nil))), ?_⟩
    refine ⟨pA, rfl, ⟨_, sqA _⟩, fun D hD => ?_⟩
    have same0 : Same H (upd H D (.lst [])) := fun q o e => by rw [upd_ne (ne_of_none e hD)]; exact e
    refine tup_loop (K := K) (a := pA) (xs := [V.str "one", V.str "each"]) (fun i H' => ∃ vs, H' D = some (.lst vs) ∧ Paired (DoorAt c H') vs (QM.six.take (3 * i)) ∧ Same H H') ⟨[], upd_same, .nil, same0⟩ (fun _ _ _ _ => sqA _) ?_ ?_
    · rintro i x H1 hi ⟨vs, hv, hds, sm⟩
      refine ⟨rfl, ?_⟩
      refine ⟨pB, rfl, ⟨_, sqB _⟩, ?_⟩
      refine tup_loop (K := K) (a := pB) (xs := [V.str "any", V.str "house", V.str "door"]) (fun j H' => ∃ vs, H' D = some (.lst vs) ∧ Paired (DoorAt c H') vs (QM.six.take (3 * i + j)) ∧ Same H H') ⟨vs, hv, hds, sm⟩ (fun _ _ _ _ => sqB _) ?_ ?_
      · rintro j y H2 hj ⟨vs2, hv2, hds2, sm2⟩
        obtain ⟨d, hd, rfl, rfl⟩ := six_at hi hj
        refine ⟨rfl, _, rfl, _, rfl, fun x dx nx ndx ne => ⟨x, dx, d, rfl, upd_same, fun H3 hx keep => ⟨rfl, ?_⟩⟩⟩
        have sm3 : Same H2 H3 := fun q o e => keep q o (ne_of_none e nx) (by rw [upd_ne (ne_of_none e nx), upd_ne (ne_of_none e ndx)]; exact e)
        have hv3 := sm3 _ _ hv2
        have hlen : vs2.length ≤ 6 := by
          rw [Paired.length hds2, List.length_take]
          exact Nat.le_trans (Nat.min_le_right _ _) (Nat.le_refl _)
        refine ⟨vs2, hv3, small1000 (by omega), vs2 ++ [V.ref x], upd_same, ?_, fun q o e => ?_⟩
        · have ch : Chg c [D] H3 [D] (upd H3 D (.lst (vs2 ++ [V.ref x]))) := Chg.write (by simp) hv3 nI_l
          rw [show 3 * i + (j + 1) = (3 * i + j) + 1 from rfl, take_snoc hd]
          have xD : x ≠ D := fun z => by rw [z, hv2] at nx; cases nx
          exact Paired.snoc ((doors_chg T.ok hds2 (Chg.of_same (F := []) sm3)) |> fun z => doors_chg T.ok z ch) ⟨x, dx, rfl, by rw [upd_ne xD]; exact hx⟩
        · rw [upd_ne (ne_of_none e hD)]
          exact sm3 _ _ (sm2 _ _ e)
      · rintro H2 ⟨vs2, hv2, hds2, sm2⟩
        exact ⟨vs2, hv2, hds2, sm2⟩
    · rintro H1 ⟨vs, hv, hds, sm⟩
      refine ⟨D, _, rfl, .inl ⟨SqL.of hv, fun t ht => ?_⟩⟩
      have ch : Chg c [] H1 [] (upd H1 t (.tup vs)) := Chg.alloc ht
      exact k _ t vs upd_same (doors_chg T.ok hds ch) (sm.trans ch.same)
end
end QD
set_option Elab.async false
set_option linter.all false
set_option maxRecDepth 100000
set_option maxHeartbeats 8000000
namespace QD
open PySem PySem.Spec PyProof.Rows L2
section
variable {P : Program} {w : World} {K : PySem.W.Frag} {mg : Str → Option Value} {base : Heap} {c : CL}
/-! ### End.__init__ -/
/-- by the tuple of the doors -/
def spEnT (c : CL) : Sp := fun vs H Q _ => ∃ (p dx t : Addr) (ws : List V) (ds : List QM.Dr), vs = [.ref p, .ref t] ∧ H p = some (.ins c.E dx []) ∧ H t = some (.tup ws) ∧ Paired (DoorAt c H) ws ds ∧ 1 ≤ ds.length ∧ ds.length ≤ 3 ∧
  ∀ H', H' p = some (.ins c.E dx (fE t)) → (∀ q o, q ≠ p → H q = some o → H' q = some o) → Q .non H'
/-- by the doors -/
def spEn (c : CL) : Sp := fun vs H Q _ => ∃ (p dx : Addr) (ws : List V) (ds : List QM.Dr), vs = .ref p :: ws ∧ H p = some (.ins c.E dx []) ∧ Paired (DoorAt c H) ws ds ∧ 1 ≤ ds.length ∧ ds.length ≤ 3 ∧
  ∀ H', EndAt c H' (.ref p) ds → (∀ q o, q ≠ p → H q = some o → H' q = some o) → Q .non H'
theorem scEI : FnScope ["self", "doors", "door"] ["self", "doors"] (defScope sEndI) := ⟨rfl, rfl, rfl, by decide +kernel, rfl, by decide +kernel, by decide +kernel⟩
theorem door_ty {H : Hp} {v : V} {d : QM.Dr} (T : Txt K mg c) (h : DoorAt c H v d) : TyX K H v (.ref c.D) := by
  obtain ⟨p, dx, rfl, h1⟩ := h
  exact .base (.ins h1 T.clD T.isD.ha T.isD.hn T.isD.tk T.isD.hm)
theorem all_rep : ∀ n : Nat, (List.replicate n true).all id = true
  | 0 => rfl
  | n + 1 => by
    show (true && (List.replicate n true).all id) = true
    rw [all_rep n] <;> rfl
theorem ok_enI {f : Addr} {fd : FuncData} (F : Fun K "__init__" "End.__init__" sEndI f fd) (T : Txt K mg c) : FnR P w K mg base CX0 1 f (spEn c) := by
  obtain ⟨oc, od, kV, doc, pm, an, cdv, ct, osl, rfl, lk, hcd⟩ := F.ex
  have z : FnR P w K mg base CX0 1 f (fun vs H Q E => ∃ ws rest, vs = ws ++ rest ∧ ws.length = ["self"].length ∧ rest.length ≤ sizeLine ∧ ∀ p, H p = Option.none → spEnT c (ws ++ [V.ref p]) (upd H p (.tup rest)) Q E) := by
    refine StX.fn_star (ps := ["self"]) (pv := "doors") lk hcd scEI StX.cxUp_none (fun us rest hl => match us, rest, hl with | [_], [], _ => rfl | [_], _ :: _, _ => rfl) ?_
    intro A outer s H vs Q E hr h
    obtain ⟨p, dx, t, ws, ds, rfl, hp, ht, hds, h1, h3, k⟩ := h
    obtain ⟨mt, mgMost⟩ := T.most
    have hlen : ws.length = ds.length := Paired.length hds
    refine ⟨_, pss_cons (ps_if (PW.pt (pw_or (pt_not (pt_chain op_le op_le pe_int (pe_callB call_len_seq (by rfl) T.len PySem.boot_len (pa_cons (pv 1) pa_nil)) (pe_glob (v := V.int 3) rfl mgMost ⟨_, rfl⟩)))
        (pw_or1 (pt_not (pt_val (pe_callB (cr_all rfl) (by rfl) T.all (by decide +kernel) (pa_cons (pe_lc (own := [("door", 2)]) (g := gName 2) (tt := tYes) rfl scEI.nd (pi_tup (pv 1)) (blkOk_by (N := ["self", "doors", "door"]) (sc := defScope sEndI) (by decide +kernel))
          (fun _ _ _ _ _ => pg_name (i := 2) scEI.nd rfl (Or.inl rfl)) (fun _ _ _ _ _ => pts_nil) (fun _ _ _ _ _ => pe_callB (call_isiX (K := K) rfl) (by rfl) T.isi (by decide +kernel) (pa_cons (pv 2) (pa_cons (pe_glob (v := V.ref c.D) rfl T.mgD rfl) pa_nil)))) pa_nil)))))))
        (pss_one ps_never) pss_nil)
      (pss_one (ps_fld (pv 0) (pv 1) rfl)), ?_⟩
    refine ⟨_, rfl, t, _, rfl, .inr (SqT.of ht), _, _, rfl, rfl, _, rfl, ?_⟩
    rw [decide_eq_true (show (1 : Int) ≤ (ws.length : Int) by omega)]
    refine iteT ⟨_, _, rfl, rfl, _, rfl, ?_⟩
    rw [decide_eq_true (show (ws.length : Int) ≤ 3 by omega)]
    refine iteF ?_
    refine ⟨_, rfl, t, rfl, ⟨_, SqT.of ht⟩, fun D hD => ?_⟩
    refine lc_tup (K := K) (a := t) (xs := ws) (fun i H' => H' D = some (.lst (List.replicate i (V.bl true))) ∧ Same H H') ⟨upd_same, fun q o e => by rw [upd_ne (ne_of_none e hD)]; exact e⟩ (fun _ _ _ q => SqT.of (q.2 _ _ ht)) ?_ ?_
    · rintro i y H' hi ⟨hv, sm⟩
      obtain ⟨d, hd, hdo⟩ := paired_get hds hi
      have hdo' := hdo.chg T.ok (Chg.of_same (c := c) (F := []) sm)
      refine ⟨rfl, _, rfl, _, _, _, _, true, rfl, .own _, door_ty T hdo', T.isD.kit, _, hv, ?_, ?_, fun q o e => ?_⟩
      · rw [List.length_replicate]
        have := (List.getElem?_eq_some_iff.mp hi).1
        exact small1000 (by omega)
      · rw [upd_same, List.replicate_succ']
      · rw [upd_ne (ne_of_none e hD)]
        exact sm _ _ e
    · rintro H' ⟨hv, sm⟩
      refine ⟨D, List.replicate ws.length true, rfl, SqL.of (by rw [hv, List.map_replicate]), _, rfl, ?_⟩
      rw [all_rep]
      refine iteF ⟨_, rfl, _, rfl, p, c.E, dx, [], rfl, sm _ _ hp, T.clE, T.nE1, (by show 0 < 1000; decide), ?_⟩
      exact k _ upd_same fun q o hq e => by rw [upd_ne hq]; exact sm _ _ e
  refine z.imp fun vs H Q E h => ?_
  obtain ⟨p, dx, ws, ds, rfl, hp, hds, h1, h3, k⟩ := h
  refine ⟨[.ref p], ws, rfl, rfl, by rw [Paired.length hds]; exact Nat.le_of_lt (small1000 (by omega)), fun t ht => ?_⟩
  have pt : p ≠ t := ne_of_none hp ht
  have ch : Chg c [] H [] (upd H t (.tup ws)) := Chg.alloc ht
  refine ⟨p, dx, t, ws, ds, rfl, by rw [upd_ne pt]; exact hp, upd_same, doors_chg T.ok hds ch, h1, h3, fun H' hp' keep => ?_⟩
  have tp : t ≠ p := pt.symm
  refine k H' ⟨p, dx, t, ws, rfl, hp', keep _ _ tp upd_same, ?_, h3⟩ fun q o hq e => keep q o hq (by rw [upd_ne (ne_of_none e ht)]; exact e)
  refine Paired.mapP (doors_chg T.ok hds ch) fun v d ⟨pd, ddx, e, y⟩ => ⟨pd, ddx, e, keep _ _ (ne_of y (show (upd H t (.tup ws)) p = some (.ins c.E dx []) by rw [upd_ne pt]; exact hp) (fun z => ?_)) y⟩
  injection z with z1 z2 z3
  exact nomatch z3

/-! ### End.__add__ -/
def spAdd (c : CL) : Sp := fun vs H Q _ => ∃ (v1 v2 : V) (ds1 ds2 : List QM.Dr), vs = [v1, v2] ∧ EndAt c H v1 ds1 ∧ EndAt c H v2 ds2 ∧ 1 ≤ (ds1 ++ ds2).length ∧ (ds1 ++ ds2).length ≤ 3 ∧ ∀ H' v, EndAt c H' v (ds1 ++ ds2) → Same H H' → Q v H'
theorem scAd : FnScope ["self", "other", "doors"] ["self", "other"] (defScope sAdd) := ⟨rfl, rfl, rfl, by decide +kernel, rfl, by decide +kernel, by decide +kernel⟩
theorem paired_app {α β : Type} {F : α → β → Prop} : ∀ {xs xs' : List α} {ys ys' : List β}, Paired F xs ys → Paired F xs' ys' → Paired F (xs ++ xs') (ys ++ ys')
  | _, _, _, _, .nil, h => h
  | _, _, _, _, .cons h t, h' => .cons h (paired_app t h')
theorem ok_add {f fg pg fI : Addr} {fd fdg : FuncData} (F : Fun K "__add__" "End.__add__" sAdd f fd) (T : Txt K mg c) (pr : PropOf K c.E "doors" pg fg) (Gd : FnOk P w K mg base CX0 1 fg fdg ["self"] (getSp c.E "kept_doors")) (bg : Binds K fdg ["self"] [])
    (M : Mk K c.E fI) (GI : FnR P w K mg base CX0 1 fI (spEn c)) : FnOk P w K mg base CX0 3 f fd ["self", "other"] (spAdd c) := by
  refine F.ok scAd (fun vs H Q E h => ?_) (fun cdv A outer s H vs Q E hr h => ?_)
  · obtain ⟨v1, v2, ds1, ds2, rfl, _⟩ := h
    rfl
  · obtain ⟨v1, v2, ds1, ds2, rfl, h1, h2, hl1, hl3, k⟩ := h
    obtain ⟨p1, dx1, t1, ws1, rfl, e1, e2, e3, e4⟩ := id h1
    obtain ⟨p2, dx2, t2, ws2, rfl, g1, g2, g3, g4⟩ := id h2
    refine ⟨_, pss_cons (ps_if (pt_not (pt_val (pe_callB call_isi (by rfl) T.isi (by decide +kernel) (pa_cons (pv 1) (pa_cons (pe_glob (v := V.ref c.E) rfl T.mgE rfl) pa_nil))))) (pss_one ps_never) pss_nil)
      (pss_cons (ps_set (i := 2) scAd.nd rfl (Or.inl rfl) (pe_lst (StX.pa_star (pe_fld (pv 0) rfl) (StX.pa_star (pe_prop (pv 1) T.clE pr Gd hr bg .nil pass0 rfl) pa_nil))))
      (pss_one (ps_ret (pe_makeStar M GI hr (by rfl) T.mgE (pv 2))))), ?_⟩
    refine ⟨_, rfl, _, _, _, _, true, rfl, .own _, end_ty T h2, T.isE.kit, _, rfl, iteF ?_⟩
    refine ⟨_, rfl, p1, c.E, dx1, _, _, rfl, e1, T.clE, T.nE1, fE_doors _, t1, ws1, rfl, .inl (SqT.of e2), _, rfl, p2, dx2, _, rfl, g1, p2, dx2, _, _, rfl, g1, fE_doors _, t2, ws2, rfl, .inl (SqT.of g2), ?_⟩
    have hlen : (ws1 ++ (ws2 ++ [])).length ≤ 3 := by
      rw [List.append_nil, List.length_append, Paired.length e3, Paired.length g3, ← List.length_append]
      exact hl3
    refine ⟨Nat.le_of_lt (small1000 (Nat.le_trans hlen (by decide))), fun l hl => ?_⟩
    have ch : Chg c [] H [] (upd H l (.lst (ws1 ++ (ws2 ++ [])))) := Chg.alloc hl
    refine ⟨_, rfl, l, _, rfl, .inr (SqL.of upd_same), fun x dx nx ndx ne => ?_⟩
    have cm := made_chg (c := c) (C := c.E) nx ndx ne
    refine ⟨x, dx, _, ds1 ++ ds2, rfl, upd_same, ?_, hl1, hl3, fun H' hE keep => ⟨rfl, k H' _ hE fun q o e => ?_⟩⟩
    · rw [List.append_nil]
      have e3' := doors_chg T.ok (doors_chg T.ok e3 ch) cm
      have g3' := doors_chg T.ok (doors_chg T.ok g3 ch) cm
      rw [List.append_nil] at e3' g3'
      exact paired_app e3' g3'
    · have e' := ch.keep q o e (.inl (by simp))
      exact keep q o (ne_of_none e' nx) (cm.keep q o e' (.inl (by simp)))
end
end QD
set_option Elab.async false
set_option linter.all false
set_option maxRecDepth 100000
set_option maxHeartbeats 8000000
namespace QD
open PySem PySem.Spec PyProof.Rows L2
theorem playF_over : ∀ {f : Nat} {m m' : QM.Mt}, QM.playF f m = some m' → QM.over m = true → m' = m
  | 0, m, m', h, ho => by
    unfold QM.playF at h
    rw [if_pos ho] at h
    exact (Option.some.inj h).symm
  | f + 1, m, m', h, ho => by
    unfold QM.playF at h
    rw [if_pos ho] at h
    exact (Option.some.inj h).symm
theorem playF_on {f : Nat} {m m' : QM.Mt} (h : QM.playF f m = some m') (ho : QM.over m = false) : ∃ g m1 fx fy, f = g + 1 ∧ QM.roundM m = some (m1, fx, fy) ∧ QM.playF g m1 = some m' := by
  cases f with
  | zero =>
    unfold QM.playF at h
    rw [ho, if_neg Bool.false_ne_true] at h
    cases h
  | succ g =>
    unfold QM.playF at h
    rw [ho, if_neg Bool.false_ne_true] at h
    cases q : QM.roundM m with
    | none => rw [q] at h; cases h
    | some z =>
      obtain ⟨m1, fx, fy⟩ := z
      rw [q] at h
      exact ⟨g, m1, fx, fy, rfl, rfl, h⟩
section
variable {P : Program} {w : World} {K : PySem.W.Frag} {mg : Str → Option Value} {base : Heap} {c : CL}
theorem new_meet {H H' : Hp} {p dx : Addr} {G : List Addr} (np : H p = none) (ndx : H dx = none) (ne : dx ≠ p) (ch : Chg c [p] (upd (upd H dx (.own p)) p (.ins c.M dx [])) G H') : Chg c [] H G H' :=
  ((made_chg np ndx ne).less (F2 := [p]) fun q hq => by
    have e : q = p := by simpa using hq
    rw [e]
    exact .inr np).trans ch
def spPl (c : CL) (P : Program) (w : World) (K : PySem.W.Frag) : Sp := fun vs H Q _ => ∃ (xv yv : V) (dsx dsy : List QM.Dr) (m : QM.Mt), vs = [xv, yv] ∧ EndAt c H xv dsx ∧ EndAt c H yv dsy ∧ QM.play dsx dsy = some m ∧ ∀ H' v G, MeetAt c P w K H' v m G → Chg c [] H G H' → Q v H'
theorem scPl : FnScope ["x", "y", "found"] ["x", "y"] (defScope sPlayed) := ⟨rfl, rfl, rfl, by decide +kernel, rfl, by decide +kernel, by decide +kernel⟩
theorem ok_pl {f fI fO fR : Addr} {fd fdI fdO fdR : FuncData} (F : Fun K "played" "played" sPlayed f fd) (T : Txt K mg c) (M : Mk K c.M fI) (GI : FnOk P w K mg base CX0 5 fI fdI ["self", "x", "y"] (spMI c P w K)) (bI : Binds K fdI ["self", "x", "y"] [])
    (mO : Meth K c.M "is_over" fO) (GO : FnOk P w K mg base CX0 3 fO fdO ["self"] (spMO c P w K)) (bO : Binds K fdO ["self"] [])
    (mR : Meth K c.M "round" fR) (GR : FnOk P w K mg base CX0 5 fR fdR ["self"] (spMR c P w K)) (bR : Binds K fdR ["self"] []) : FnOk P w K mg base CX0 7 f fd ["x", "y"] (spPl c P w K) := by
  refine F.ok scPl (fun vs H Q E h => ?_) (fun cdv A outer s H vs Q E hr h => ?_)
  · obtain ⟨xv, yv, dsx, dsy, m, rfl, _⟩ := h
    rfl
  · obtain ⟨xv, yv, dsx, dsy, m, rfl, hx, hy, hp, k⟩ := h
    have hr3 : Room 3 _ := hr.mono (by decide)
    have hr5 : Room 5 _ := hr.mono (by decide)
    obtain ⟨m0, hs, hf⟩ : ∃ m0, QM.start dsx dsy = some m0 ∧ QM.playF 9 m0 = some m := by
      unfold QM.play at hp
      cases q : QM.start dsx dsy with
      | none => rw [q] at hp; cases hp
      | some m0 => rw [q] at hp; exact ⟨m0, rfl, hp⟩
    refine ⟨_, pss_cons (ps_set (i := 2) scPl.nd rfl (Or.inl rfl) (pe_make M GI hr (by rfl) T.mgM bI .nil pass0 (pa_cons (pv 0) (pa_cons (pv 1) pa_nil))))
      (pss_cons (ps_while PassesOwn.never (pt_not (pt_val (pe_meth0 (pv 2) T.clM mO GO hr3 bO .nil pass0))) (pss_one (ps_expr (pe_meth0 (pv 2) T.clM mR GR hr5 bR .nil pass0))))
      (pss_one (ps_ret (pv 2)))), ?_⟩
    refine ⟨_, rfl, _, rfl, fun p dx np ndx ne => ⟨p, dx, xv, yv, dsx, dsy, m0, rfl, upd_same, hx.chg T.ok (made_chg np ndx ne), hy.chg T.ok (made_chg np ndx ne), hs, fun H1 G hm ch => ⟨rfl, ?_⟩⟩⟩
    have ch0 := new_meet np ndx ne ch
    refine ⟨fun f σ H' => ∃ mi Gi, σ = [some xv, some yv, some (.ref p)] ∧ MeetAt c P w K H' (.ref p) mi Gi ∧ Chg c [] H Gi H' ∧ QM.playF f mi = some m, ⟨9, m0, G, rfl, hm, ch0, hf⟩, ?_⟩
    rintro f σ H' ⟨mi, Gi, rfl, hmi, chi, hfi⟩
    obtain ⟨p', dx', dS', lR', vx', vy', vr', Gx', Gy', x', eG'⟩ := id hmi
    have ev' := x'.ev
    injection ev' with ev'
    subst ev'
    refine ⟨_, rfl, p, dx', _, rfl, x'.ins, fM_noOver, V.ref p, mi, Gi, rfl, hmi, _, rfl, ?_⟩
    cases ho : QM.over mi with
    | true =>
      refine iteF ⟨_, rfl, ?_⟩
      have e := playF_over hfi ho
      rw [e] at k
      exact k H' _ Gi hmi chi
    | false =>
      obtain ⟨g, m1, fx, fy, rfl, hrd, hf1⟩ := playF_on hfi ho
      refine iteT ⟨fun σ H' => ∃ mi Gi, σ = [some xv, some yv, some (.ref p)] ∧ MeetAt c P w K H' (.ref p) mi Gi ∧ Chg c [] H Gi H' ∧ QM.playF g mi = some m, fun σ' H' h => ⟨g, Nat.lt_succ_self g, h⟩, ?_⟩
      exact ⟨_, rfl, p, dx', _, rfl, x'.ins, fM_noRound, V.ref p, mi, m1, fx, fy, Gi, rfl, hmi, ho, hrd, fun H2 G2 t vt hm2 ch2 _ _ => ⟨m1, G2, rfl, hm2, chi.trans ch2, hf1⟩⟩
def spMts (c : CL) : Sp := fun vs H Q _ => ∃ (xv yv : V) (dsx dsy : List QM.Dr) (m : QM.Mt), vs = [xv, yv] ∧ EndAt c H xv dsx ∧ EndAt c H yv dsy ∧ QM.play dsx dsy = some m ∧ ∀ H', Same H H' → Q (.bl (QM.both m)) H'
theorem scMts : FnScope ["x", "y", "found"] ["x", "y"] (defScope sMeets) := ⟨rfl, rfl, rfl, by decide +kernel, rfl, by decide +kernel, by decide +kernel⟩
theorem ok_mts {f fP fH : Addr} {fd fdP fdH : FuncData} (F : Fun K "meets" "meets" sMeets f fd) (T : Txt K mg c) (FP : Fun K "played" "played" sPlayed fP fdP) (mgP : mg "played" = some (.ref fP)) (GP : FnOk P w K mg base CX0 7 fP fdP ["x", "y"] (spPl c P w K)) (bP : Binds K fdP ["x", "y"] [])
    (mH : Meth K c.M "heard" fH) (GH : FnOk P w K mg base CX0 2 fH fdH ["self", "place"] (spMH c P w K)) (bH : Binds K fdH ["self", "place"] []) : FnOk P w K mg base CX0 8 f fd ["x", "y"] (spMts c) := by
  refine F.ok scMts (fun vs H Q E h => ?_) (fun cdv A outer s H vs Q E hr h => ?_)
  · obtain ⟨xv, yv, dsx, dsy, m, rfl, _⟩ := h
    rfl
  · obtain ⟨xv, yv, dsx, dsy, m, rfl, hx, hy, hp, k⟩ := h
    have hr2 : Room 2 _ := hr.mono (by decide)
    refine ⟨_, pss_cons (ps_set (i := 2) scMts.nd rfl (Or.inl rfl) (pe_call GP hr rfl mgP FP.kp bP .nil pass0 (pa_cons (pv 0) (pa_cons (pv 1) pa_nil))))
      (pss_one (ps_ret (pe_and (pe_meth (pv 2) T.clM mH GH hr2 bH .nil pass0 (pa_cons pe_str pa_nil)) (pe_one (pe_meth (pv 2) T.clM mH GH hr2 bH .nil pass0 (pa_cons pe_str pa_nil)))))), ?_⟩
    refine ⟨_, rfl, _, rfl, xv, yv, dsx, dsy, m, rfl, hx, hy, hp, fun H1 v G hm ch => ?_⟩
    obtain ⟨p, dx, dS, lR, vx, vy, vr, Gx, Gy, x, eG⟩ := id hm
    have ev := x.ev
    subst ev
    have sm : Same H H1 := fun q o e => ch.keep q o e (.inl (by simp))
    refine ⟨_, rfl, p, dx, _, rfl, x.ins, fM_noHeard, V.ref p, m, G, 1, rfl, .inl rfl, hm, _, rfl, ?_⟩
    have kk := k H1 sm
    unfold QM.both at kk
    cases h1 : m.x.hd with
    | false =>
      show if (m.x.hd) = true then _ else _
      rw [h1] at kk ⊢
      exact iteF kk
    | true =>
      show if (m.x.hd) = true then _ else _
      rw [h1] at kk ⊢
      exact iteT ⟨_, rfl, p, dx, _, rfl, x.ins, fM_noHeard, V.ref p, m, G, 2, rfl, .inr rfl, hm, kk⟩
def rnd? (m : QM.Mt) : V := if QM.both m = true then .int (m.n : Int) else .non
def spRds (c : CL) : Sp := fun vs H Q _ => ∃ (xv yv : V) (dsx dsy : List QM.Dr) (m : QM.Mt), vs = [xv, yv] ∧ EndAt c H xv dsx ∧ EndAt c H yv dsy ∧ QM.play dsx dsy = some m ∧ ∀ H', Same H H' → Q (rnd? m) H'
theorem scRds : FnScope ["x", "y", "found"] ["x", "y"] (defScope sRounds) := ⟨rfl, rfl, rfl, by decide +kernel, rfl, by decide +kernel, by decide +kernel⟩
theorem ok_rds {f fP fH fN : Addr} {fd fdP fdH fdN : FuncData} (F : Fun K "rounds" "rounds" sRounds f fd) (T : Txt K mg c) (FP : Fun K "played" "played" sPlayed fP fdP) (mgP : mg "played" = some (.ref fP)) (GP : FnOk P w K mg base CX0 7 fP fdP ["x", "y"] (spPl c P w K)) (bP : Binds K fdP ["x", "y"] [])
    (mH : Meth K c.M "heard" fH) (GH : FnOk P w K mg base CX0 2 fH fdH ["self", "place"] (spMH c P w K)) (bH : Binds K fdH ["self", "place"] [])
    (mN : Meth K c.M "__len__" fN) (GN : FnOk P w K mg base CX0 1 fN fdN ["self"] (spMN c P w K)) (bN : Binds K fdN ["self"] []) : FnOk P w K mg base CX0 8 f fd ["x", "y"] (spRds c) := by
  refine F.ok scRds (fun vs H Q E h => ?_) (fun cdv A outer s H vs Q E hr h => ?_)
  · obtain ⟨xv, yv, dsx, dsy, m, rfl, _⟩ := h
    rfl
  · obtain ⟨xv, yv, dsx, dsy, m, rfl, hx, hy, hp, k⟩ := h
    have hr2 : Room 2 _ := hr.mono (by decide)
    refine ⟨_, pss_cons (ps_set (i := 2) scRds.nd rfl (Or.inl rfl) (pe_call GP hr rfl mgP FP.kp bP .nil pass0 (pa_cons (pv 0) (pa_cons (pv 1) pa_nil))))
      (pss_one (ps_ret (pe_ifExp (PW.pt (pw_and (pt_val (pe_meth (pv 2) T.clM mH GH hr2 bH .nil pass0 (pa_cons pe_str pa_nil))) (pw_and1 (pt_val (pe_meth (pv 2) T.clM mH GH hr2 bH .nil pass0 (pa_cons pe_str pa_nil))))))
        (pe_callB (cr_lenOwn (C := c.M) GN hr2 bN mN.at_ mN.fn) (by rfl) T.len PySem.boot_len (pa_cons (pv 2) pa_nil)) pe_non))), ?_⟩
    refine ⟨_, rfl, _, rfl, xv, yv, dsx, dsy, m, rfl, hx, hy, hp, fun H1 v G hm ch => ?_⟩
    obtain ⟨p, dx, dS, lR, vx, vy, vr, Gx, Gy, x, eG⟩ := id hm
    have ev := x.ev
    subst ev
    have sm : Same H H1 := fun q o e => ch.keep q o e (.inl (by simp))
    refine ⟨_, rfl, p, dx, _, rfl, x.ins, fM_noHeard, V.ref p, m, G, 1, rfl, .inl rfl, hm, _, rfl, ?_⟩
    have kk := k H1 sm
    unfold rnd? QM.both at kk
    cases h1 : m.x.hd with
    | false =>
      show if (m.x.hd) = true then _ else _
      rw [h1] at kk ⊢
      exact iteF (iteF kk)
    | true =>
      show if (m.x.hd) = true then _ else _
      rw [h1] at kk ⊢
      refine iteT ⟨_, rfl, p, dx, _, rfl, x.ins, fM_noHeard, V.ref p, m, G, 2, rfl, .inr rfl, hm, _, rfl, ?_⟩
      cases h2 : m.y.hd with
      | false =>
        show if (m.y.hd) = true then _ else _
        rw [h2] at kk ⊢
        exact iteF kk
      | true =>
        show if (m.y.hd) = true then _ else _
        rw [h2] at kk ⊢
        have hn := x.rn
        exact iteT ⟨_, rfl, p, dx, _, rfl, x.ins, V.ref p, m, G, rfl, hm, m.n, rfl, by omega, kk⟩
end
end QD
set_option Elab.async false
set_option linter.all false
set_option maxRecDepth 100000
set_option maxHeartbeats 8000000
namespace QD
open PySem PySem.Spec PyProof.Rows L2
/-! ### the pool that the law draws from -/
structure PX (H : Hp) (lp la : Addr) (ns : List Int) (i1 i2 i3 i4 : Int) : Prop where
  hp : H lp = some (.lst [.ref la, .int i1, .int i2, .int i3, .int i4])
  ha : H la = some (.lst (ns.map V.int))
  ge : 0 ≤ i1
def PoolAt (H : Hp) (lp la : Addr) : Prop := ∃ ns i1 i2 i3 i4, PX H lp la ns i1 i2 i3 i4
section
variable {c : CL} {H H1 : Hp} {lp la : Addr} {ns : List Int} {i1 i2 i3 i4 : Int} {G G1 : List Addr}
theorem PX.ne (x : PX H lp la ns i1 i2 i3 i4) : la ≠ lp := fun z => by
  subst z
  have e := x.ha
  rw [x.hp] at e
  injection e with e
  injection e with e
  cases ns with
  | nil => cases e
  | cons n r => cases e
theorem PX.put (x : PX H lp la ns i1 i2 i3 i4) {j1 j2 j3 j4 : Int} (h : 0 ≤ j1) : PX (upd H lp (.lst [.ref la, .int j1, .int j2, .int j3, .int j4])) lp la ns j1 j2 j3 j4 :=
  ⟨upd_same, by rw [upd_ne x.ne]; exact x.ha, h⟩
theorem PX.chg (x : PX H lp la ns i1 i2 i3 i4) {o : HO} : Chg c [lp, la] H [lp, la] (upd H lp o) := Chg.write (by simp) x.hp nI_l
theorem PX.chgA (x : PX H lp la ns i1 i2 i3 i4) {o : HO} : Chg c [lp, la] H [lp, la] (upd H la o) := Chg.write (by simp) x.ha nI_l
theorem PX.putA (x : PX H lp la ns i1 i2 i3 i4) {n : Nat} {v : Int} : PX (upd H la (.lst ((ns.map V.int).set n (.int v)))) lp la (ns.set n v) i1 i2 i3 i4 :=
  ⟨by rw [upd_ne x.ne.symm]; exact x.hp, by rw [upd_same, List.map_set], x.ge⟩
theorem PX.same (x : PX H lp la ns i1 i2 i3 i4) (s : Same H H1) : PX H1 lp la ns i1 i2 i3 i4 := ⟨s _ _ x.hp, s _ _ x.ha, x.ge⟩
theorem PX.keep (x : PX H lp la ns i1 i2 i3 i4) (ch : Chg c G H G1 H1) (h1 : lp ∉ G) (h2 : la ∉ G) : PX H1 lp la ns i1 i2 i3 i4 := ⟨ch.keep _ _ x.hp (.inl h1), ch.keep _ _ x.ha (.inl h2), x.ge⟩
theorem PoolAt.same (x : PoolAt H lp la) (s : Same H H1) : PoolAt H1 lp la := by
  obtain ⟨ns, i1, i2, i3, i4, x⟩ := x
  exact ⟨ns, i1, i2, i3, i4, x.same s⟩
theorem ixN_nat {n m : Nat} (h : n < m) : ixN m (n : Int) = some n := by
  unfold ixN
  rw [if_pos (Int.natCast_nonneg n), if_pos (by omega)]
  rfl
end

section
variable {P : Program} {w : World} {K : PySem.W.Frag} {mg : Str → Option Value} {base : Heap} {c : CL}
/-! ### the beginning -/
def spBegin (K : PySem.W.Frag) : Sp := fun vs H Q _ => ∃ (a : Addr) (ns : List Int), vs = [.ref a] ∧ SqL K H a (ns.map V.int) ∧ ns.length ≤ 63 ∧ ∀ H' lp la, PoolAt H' lp la → Same H H' → Q (.ref lp) H'
theorem scBe : FnScope ["_law_script", "_law_seed", "_law_cell"] ["_law_script"] (defScope sBegin) := ⟨rfl, rfl, rfl, by decide +kernel, rfl, by decide +kernel, by decide +kernel⟩
theorem ok_begin {f : Addr} {fd : FuncData} (F : Fun K "_law_begin" "_law_begin" sBegin f fd) (T : Txt K mg c) : FnOk P w K mg base CX0 1 f fd ["_law_script"] (spBegin K) := by
  refine F.ok scBe (fun vs H Q E h => ?_) (fun cdv A outer s H vs Q E hr h => ?_)
  · obtain ⟨a, ns, rfl, _⟩ := h
    rfl
  · obtain ⟨a, ns, rfl, hS, hlen, k⟩ := h
    refine ⟨_, pss_cons (ps_set (i := 1) scBe.nd rfl (Or.inl rfl) pe_int)
      (pss_cons (ps_for PassesOwn.never rfl (pi_list (pe_slice sl_list (pv 0) po_none (po_some pe_int))) (pg_name (i := 2) scBe.nd rfl (Or.inl rfl))
        (pss_one (ps_set (i := 1) scBe.nd rfl (Or.inl rfl) (pe_op op_mod (pe_op op_add (pe_op op_add (pe_op op_mul (pv 1) pe_int) (pe_op op_mod (pe_callTy call_int1 (by rfl) T.int (by decide +kernel) (pa_cons (pv 2) pa_nil)) pe_int)) pe_int) pe_int))))
      (pss_one (ps_ret (pe_lst (pa_cons (pe_lc (own := [("_law_cell", 2)]) (g := gName 2) (tt := tYes) rfl scBe.nd (pi_list (pv 0)) (blkOk_by (N := ["_law_script", "_law_seed", "_law_cell"]) (sc := defScope sBegin) (by decide +kernel))
          (fun _ _ _ _ _ => pg_name (i := 2) scBe.nd rfl (Or.inl rfl)) (fun _ _ _ _ _ => pts_nil) (fun _ _ _ _ _ => pe_callB call_abs (by rfl) T.abs (by decide +kernel) (pa_cons (pe_callTy call_int1 (by rfl) T.int (by decide +kernel) (pa_cons (pv 2) pa_nil)) pa_nil)))
        (pa_cons pe_int (pa_cons pe_int (pa_cons (pv 1) (pa_cons pe_int pa_nil))))))))), ?_⟩
    refine ⟨_, rfl, 40, rfl, a, _, rfl, hS, fun p hp => ⟨p, rfl, ⟨_, SqL.of upd_same⟩, ?_⟩⟩
    have hS1 : SqL K (upd H p (.lst (cutV (ns.map V.int) none (some 40)))) a (ns.map V.int) := Same.seq (fun q o e => by rw [upd_ne (ne_of_none e hp)]; exact e) hS
    have s1 : Same H (upd H p (.lst (cutV (ns.map V.int) none (some 40)))) := fun q o e => by rw [upd_ne (ne_of_none e hp)]; exact e
    refine for_list (K := K) (a := p) (xs := cutV (ns.map V.int) none (some 40)) (fun i σ H' => ∃ (z : Int) (v : Option V), σ = [some (.ref a), some (.int z), v] ∧ H' = upd H p (.lst (cutV (ns.map V.int) none (some 40))))
      ⟨7, none, rfl, rfl⟩ (fun i σ H' _ ⟨_, _, _, e⟩ => by rw [e]; exact SqL.of upd_same) ?_ ?_
    · rintro i y σ H' hi ⟨z, v, rfl, rfl⟩
      obtain ⟨u, rfl⟩ : ∃ u, y = V.int u := by
        have hm : y ∈ ns.map V.int := List.mem_of_mem_drop (List.mem_of_mem_take (List.mem_of_getElem? hi))
        obtain ⟨u, _, e⟩ := List.mem_map.mp hm
        exact ⟨u, e.symm⟩
      refine ⟨_, rfl, _, _, rfl, rfl, .inr ⟨by decide, by decide⟩, _, rfl, .inl ⟨_, rfl, ?_⟩⟩
      refine ⟨_, _, rfl, rfl, (by show (0 : Int) < 2147483647; decide), ?_⟩
      refine ⟨_, _, rfl, rfl, _, _, rfl, rfl, _, _, rfl, rfl, (by show (0 : Int) < 2147483647; decide), ?_⟩
      exact ⟨_, _, rfl, rfl⟩
    · rintro σ H' ⟨z, v, rfl, rfl⟩
      refine ⟨_, rfl, a, rfl, ⟨_, hS1⟩, fun D hD => ?_⟩
      refine lc_list (K := K) (a := a) (xs := ns.map V.int) (fun i H' => ∃ ms : List Int, H' D = some (.lst (ms.map V.int)) ∧ ms.length = i ∧ Same (upd H p (.lst (cutV (ns.map V.int) none (some 40)))) H')
        ⟨[], upd_same, rfl, fun q o e => by rw [upd_ne (ne_of_none e hD)]; exact e⟩ (fun _ _ _ ⟨_, _, _, q⟩ => q.seq hS1) ?_ ?_
      · rintro i y H' hi ⟨ms, h1, h2, sm⟩
        obtain ⟨u, rfl⟩ : ∃ u, y = V.int u := by
          obtain ⟨u, _, e⟩ := List.mem_map.mp (List.mem_of_getElem? hi)
          exact ⟨u, e.symm⟩
        have hi63 : i < ns.length := by
          have q := (List.getElem?_eq_some_iff.mp hi).1
          rw [List.length_map] at q
          exact q
        refine ⟨rfl, _, rfl, .inl ⟨_, rfl, _, rfl, _, h1, small1000 (by rw [List.length_map]; omega), ?_⟩⟩
        refine ⟨ms ++ [if u < 0 then -u else u], by rw [upd_same, List.map_append] <;> rfl, by rw [List.length_append, h2] <;> rfl, fun q o e => ?_⟩
        have hne : q ≠ D := ne_of_none e hD
        rw [upd_ne hne]
        exact sm _ _ e
      · rintro H' ⟨ms, h1, h2, sm⟩
        refine ⟨_, rfl, (by show 5 ≤ sizeLine; decide), fun lp hlp => ?_⟩
        refine k _ lp D ⟨ms, 0, 0, z, 0, upd_same, by rw [upd_ne (ne_of_none h1 hlp)]; exact h1, Int.le_refl _⟩ fun q o e => ?_
        have e2 := sm _ _ (s1 _ _ e)
        rw [upd_ne (ne_of_none e2 hlp)]
        exact e2
/-! ### a mixed number -/
def spMixed (c : CL) : Sp := fun vs H Q _ => ∃ (lp la : Addr) (many : Int), vs = [.ref lp, .int many] ∧ PoolAt H lp la ∧ (many = 2 ∨ many = 6) ∧ ∀ H' (r : Int), PoolAt H' lp la → Chg c [lp, la] H [lp, la] H' → 0 ≤ r → r < many → Q (.int r) H'
theorem scMx : FnScope ["_law_pool", "_law_many", "_law_found", "_law_turn"] ["_law_pool", "_law_many"] (defScope sMixed) := ⟨rfl, rfl, rfl, by decide +kernel, rfl, by decide +kernel, by decide +kernel⟩
theorem len_many {many : Int} (h : many = 2 ∨ many = 6) : (Str.ofString (toString many)).length = 1 := by
  rcases h with rfl | rfl
  · decide +kernel
  · decide +kernel
theorem ok_mixed {f : Addr} {fd : FuncData} (F : Fun K "_law_mixed" "_law_mixed" sMixed f fd) (T : Txt K mg c) : FnOk P w K mg base CX0 1 f fd ["_law_pool", "_law_many"] (spMixed c) := by
  refine F.ok scMx (fun vs H Q E h => ?_) (fun cdv A outer s H vs Q E hr h => ?_)
  · obtain ⟨lp, la, many, rfl, _⟩ := h
    rfl
  · obtain ⟨lp, la, many, rfl, ⟨ns, i1, i2, i3, i4, x⟩, hm, k⟩ := h
    refine ⟨_, pss_cons (ps_asg (pe_op op_add (pe_ix ix_list (pv 0) pe_int (fun _ _ => rfl)) pe_int) (pg_sub (pv 0) pe_int set_list))
      (pss_cons (ps_set (i := 2) scMx.nd rfl (Or.inl rfl) (pe_ix ix_list (pv 0) pe_int (fun _ _ => rfl)))
      (pss_cons (ps_for PassesOwn.never rfl (pi_range1 rfl T.range (pa_cons (pe_op op_add pe_int (pe_op op_fdiv (pe_callB call_len_str (by rfl) T.len PySem.boot_len (pa_cons (pe_callTy call_str_int (by rfl) T.str (by decide +kernel) (pa_cons (pv 1) pa_nil)) pa_nil)) pe_int)) pa_nil)) (pg_name (i := 3) scMx.nd rfl (Or.inl rfl))
        (pss_cons (ps_asg (pe_op op_mod (pe_op op_add (pe_op op_add (pe_op op_mul (pe_ix ix_list (pv 0) pe_int (fun _ _ => rfl)) pe_int) (pe_op op_mul (pe_ix ix_list (pv 0) pe_int (fun _ _ => rfl)) pe_int)) pe_int) pe_int) (pg_sub (pv 0) pe_int set_list))
        (pss_one (ps_set (i := 2) scMx.nd rfl (Or.inl rfl) (pe_op op_add (pe_op op_mul (pv 2) pe_int) (pe_op op_fdiv (pe_ix ix_list (pv 0) pe_int (fun _ _ => rfl)) pe_int))))))
      (pss_one (ps_ret (pe_op op_mod (pv 2) (pv 1)))))), ?_⟩
    refine ⟨_, rfl, lp, _, _, _, rfl, rfl, SqL.of x.hp, rfl, _, _, rfl, rfl, _, rfl, lp, _, _, 2, rfl, rfl, x.hp, rfl, ?_⟩
    have x1 : PX (upd H lp (.lst [.ref la, .int i1, .int (i2 + 1), .int i3, .int i4])) lp la ns i1 (i2 + 1) i3 i4 := x.put x.ge
    have c1 : Chg c [lp, la] H [lp, la] (upd H lp (.lst [.ref la, .int i1, .int (i2 + 1), .int i3, .int i4])) := x.chg
    refine ⟨_, rfl, lp, _, _, _, rfl, rfl, SqL.of x1.hp, rfl, ?_⟩
    refine ⟨_, rfl, _, rfl, (by rcases hm with rfl | rfl <;> decide +kernel), _, rfl, (by rw [len_many hm]; decide), ?_⟩
    rw [len_many hm]
    refine ⟨_, _, rfl, rfl, ⟨by decide, by decide⟩, _, _, rfl, rfl, 1, rfl, by decide, by decide, ?_⟩
    refine for_range (n := 1) (fun i σ H' => ∃ (z : Int) (v : Option V) (j3 : Int), σ = [some (.ref lp), some (.int many), some (.int z), v] ∧ PX H' lp la ns i1 (i2 + 1) j3 i4 ∧ Chg c [lp, la] H [lp, la] H')
      ⟨i3, none, i3, rfl, x1, c1⟩ ?_ ?_
    · rintro i σ H' hi ⟨z, v, j3, rfl, x2, c2⟩
      refine ⟨_, rfl, lp, _, _, _, rfl, rfl, SqL.of x2.hp, rfl, _, _, rfl, rfl, .inr ⟨by decide, by decide⟩, _, rfl, lp, _, _, _, rfl, rfl, SqL.of x2.hp, rfl, _, _, rfl, rfl, .inr ⟨by decide, by decide⟩, ?_⟩
      refine ⟨_, _, rfl, rfl, _, _, rfl, rfl, _, _, rfl, rfl, (by show (0 : Int) < 2147483647; decide), _, rfl, lp, _, _, 3, rfl, rfl, x2.hp, rfl, ?_⟩
      refine ⟨_, rfl, _, _, rfl, rfl, .inr ⟨by decide, by decide⟩, ?_⟩
      have x3 := x2.put (j1 := i1) (j2 := i2 + 1) (j3 := (j3 * 48271 + (i2 + 1) * 12345 + 89126) % 2147483647) (j4 := i4) x2.ge
      have c3 := c2.trans (x2.chg (c := c) (o := .lst [.ref la, .int i1, .int (i2 + 1), .int ((j3 * 48271 + (i2 + 1) * 12345 + 89126) % 2147483647), .int i4]))
      exact ⟨_, rfl, lp, _, _, _, rfl, rfl, SqL.of x3.hp, rfl, _, _, rfl, rfl, ⟨by decide, by decide⟩, _, _, rfl, rfl, _, _, _, rfl, x3, c3⟩
    · rintro σ H' ⟨z, v, j3, rfl, x2, c2⟩
      have h0 : 0 < many := by omega
      exact ⟨_, rfl, _, rfl, _, _, rfl, rfl, h0, k _ _ ⟨_, _, _, _, _, x2⟩ c2 (Int.emod_nonneg _ (by omega)) (Int.emod_lt_of_pos _ h0)⟩
/-! ### a drawn number -/
theorem scDr : FnScope ["_law_pool", "_law_many", "_law_found"] ["_law_pool", "_law_many"] (defScope sDraw) := ⟨rfl, rfl, rfl, by decide +kernel, rfl, by decide +kernel, by decide +kernel⟩
theorem ok_draw {f fM : Addr} {fd fdM : FuncData} (F : Fun K "_law_draw" "_law_draw" sDraw f fd) (T : Txt K mg c) (FM : Fun K "_law_mixed" "_law_mixed" sMixed fM fdM) (mgM : mg "_law_mixed" = some (.ref fM)) (GM : FnOk P w K mg base CX0 1 fM fdM ["_law_pool", "_law_many"] (spMixed c)) (bM : Binds K fdM ["_law_pool", "_law_many"] []) :
    FnOk P w K mg base CX0 2 f fd ["_law_pool", "_law_many"] (spMixed c) := by
  refine F.ok scDr (fun vs H Q E h => ?_) (fun cdv A outer s H vs Q E hr h => ?_)
  · obtain ⟨lp, la, many, rfl, _⟩ := h
    rfl
  · obtain ⟨lp, la, many, rfl, ⟨ns, i1, i2, i3, i4, x⟩, hm, k⟩ := h
    have h0 : 0 < many := by omega
    refine ⟨_, pss_cons (ps_if (PW.pt (pw_or (pt_cmpR op_ge (pe_ix ix_list (pv 0) pe_int (fun _ _ => rfl)) (pe_callB call_len_seq (by rfl) T.len PySem.boot_len (pa_cons (pe_ix ix_list (pv 0) pe_int (fun _ _ => rfl)) pa_nil)) (nomark _)) (pw_or1 (pt_cmpR op_eq (pv 1) pe_int (nomark _)))))
        (pss_one (ps_ret (pe_ifExp (pt_cmpR op_gt (pv 1) pe_int (nomark _)) (pe_call GM hr rfl mgM FM.kp bM .nil pass0 (pa_cons (pv 0) (pa_cons (pv 1) pa_nil))) pe_int))) pss_nil)
      (pss_cons (ps_if (pt_cmpR op_lt (pe_ix ix_list (pe_ix ix_list (pv 0) pe_int (fun _ _ => rfl)) (pe_ix ix_list (pv 0) pe_int (fun _ _ => rfl)) (fun _ _ => rfl)) (pe_op op_pow pe_int pe_int) (nomark _))
        (pss_cons (ps_asg (pe_op op_mod (pe_op op_add (pe_op op_add (pe_op op_add (pe_op op_mul (pe_ix ix_list (pv 0) pe_int (fun _ _ => rfl)) pe_int) (pe_ix ix_list (pe_ix ix_list (pv 0) pe_int (fun _ _ => rfl)) (pe_ix ix_list (pv 0) pe_int (fun _ _ => rfl)) (fun _ _ => rfl))) (pe_ix ix_list (pv 0) pe_int (fun _ _ => rfl))) pe_int) pe_int) (pg_sub (pv 0) pe_int set_list))
        (pss_cons (ps_asg (pe_op op_add (pe_ix ix_list (pv 0) pe_int (fun _ _ => rfl)) pe_int) (pg_sub (pv 0) pe_int set_list))
        (pss_cons (ps_if (pt_cmpR op_eq (pe_op op_mod (pe_ix ix_list (pv 0) pe_int (fun _ _ => rfl)) pe_int) pe_int (nomark _))
          (pss_one (ps_asg (pe_op op_add (pe_ix ix_list (pv 0) pe_int (fun _ _ => rfl)) pe_int) (pg_sub (pv 0) pe_int set_list))) pss_nil)
        (pss_one (ps_ret (pe_call GM hr rfl mgM FM.kp bM .nil pass0 (pa_cons (pv 0) (pa_cons (pv 1) pa_nil)))))))) pss_nil)
      (pss_cons (ps_set (i := 2) scDr.nd rfl (Or.inl rfl) (pe_op op_mod (pe_ix ix_list (pe_ix ix_list (pv 0) pe_int (fun _ _ => rfl)) (pe_ix ix_list (pv 0) pe_int (fun _ _ => rfl)) (fun _ _ => rfl)) (pv 1)))
      (pss_cons (ps_asg (pe_op op_fdiv (pe_ix ix_list (pe_ix ix_list (pv 0) pe_int (fun _ _ => rfl)) (pe_ix ix_list (pv 0) pe_int (fun _ _ => rfl)) (fun _ _ => rfl)) (pv 1)) (pg_sub (pe_ix ix_list (pv 0) pe_int (fun _ _ => rfl)) (pe_ix ix_list (pv 0) pe_int (fun _ _ => rfl)) set_list))
      (pss_cons (ps_if (pt_cmpR op_eq (pe_ix ix_list (pe_ix ix_list (pv 0) pe_int (fun _ _ => rfl)) (pe_ix ix_list (pv 0) pe_int (fun _ _ => rfl)) (fun _ _ => rfl)) pe_int (nomark _))
          (pss_one (ps_asg (pe_op op_add (pe_ix ix_list (pv 0) pe_int (fun _ _ => rfl)) pe_int) (pg_sub (pv 0) pe_int set_list))) pss_nil)
      (pss_one (ps_ret (pv 2))))))), ?_⟩
    refine ⟨_, rfl, lp, _, _, _, rfl, rfl, SqL.of x.hp, rfl, _, rfl, lp, _, _, _, rfl, rfl, SqL.of x.hp, rfl, la, _, rfl, .inl (SqL.of x.ha), _, _, rfl, rfl, _, rfl, ?_⟩
    have ret0 : ∀ (H1 : Hp), PoolAt H1 lp la → Chg c [lp, la] H [lp, la] H1 → spMixed c [.ref lp, .int many] H1 Q E0 := fun H1 hp ch => ⟨lp, la, many, rfl, hp, hm, fun H2 r hp2 ch2 h1 h2 => k H2 r hp2 (ch.trans ch2) h1 h2⟩
    rw [List.length_map]
    by_cases q : ((ns.length : Nat) : Int) ≤ i1
    · rw [decide_eq_true q]
      refine iteT ?_
      refine ⟨_, rfl, _, _, rfl, rfl, _, rfl, ?_⟩
      rw [decide_eq_true (show (1 : Int) < many by omega)]
      exact iteT ⟨_, rfl, _, rfl, ret0 H ⟨_, _, _, _, _, x⟩ Chg.refl⟩
    · rw [decide_eq_false q]
      refine iteF ?_
      refine ⟨_, rfl, rfl, _, rfl, ?_⟩
      rw [decide_eq_false (show ¬ (V.int many = V.int 1) from fun z => by injection z with z; omega)]
      refine iteF ?_
      have ge := x.ge
      obtain ⟨n, rfl⟩ : ∃ n : Nat, i1 = (n : Int) := ⟨i1.toNat, by omega⟩
      have hn : n < ns.length := by omega
      have hx : atI (ns.map V.int) (n : Int) = some (V.int ns[n]) := atI_nat (by rw [List.getElem?_map, List.getElem?_eq_getElem hn] <;> rfl)
      refine ⟨_, rfl, lp, _, _, _, rfl, rfl, SqL.of x.hp, rfl, _, rfl, lp, _, _, _, rfl, rfl, SqL.of x.hp, rfl, la, _, _, _, rfl, rfl, SqL.of x.ha, hx, _, _, rfl, rfl, ⟨by decide, by decide, by decide⟩, _, _, rfl, rfl, _, rfl, ?_⟩
      refine ite2 (fun _ => ?_) (fun _ => ?_)
      · refine ⟨_, rfl, lp, _, _, _, rfl, rfl, SqL.of x.hp, rfl, _, _, rfl, rfl, .inr ⟨by decide, by decide⟩, ?_⟩
        refine ⟨_, rfl, lp, _, _, _, rfl, rfl, SqL.of x.hp, rfl, _, rfl, lp, _, _, _, rfl, rfl, SqL.of x.hp, rfl, la, _, _, _, rfl, rfl, SqL.of x.ha, hx, _, _, rfl, rfl, ?_⟩
        refine ⟨_, rfl, lp, _, _, _, rfl, rfl, SqL.of x.hp, rfl, _, _, rfl, rfl, _, _, rfl, rfl, _, _, rfl, rfl, (by show (0 : Int) < 2147483647; decide), _, rfl, lp, _, _, 3, rfl, rfl, x.hp, rfl, ?_⟩
        have x1 := x.put (j1 := (n : Int)) (j2 := i2) (j3 := (i3 * 31 + ns[n] + i2 + 1) % 2147483647) (j4 := i4) ge
        have c1 := x.chg (c := c) (o := .lst [.ref la, .int (n : Int), .int i2, .int ((i3 * 31 + ns[n] + i2 + 1) % 2147483647), .int i4])
        refine ⟨_, rfl, lp, _, _, _, rfl, rfl, SqL.of x1.hp, rfl, _, _, rfl, rfl, _, rfl, lp, _, _, 4, rfl, rfl, x1.hp, rfl, ?_⟩
        have x2 := x1.put (j1 := (n : Int)) (j2 := i2) (j3 := (i3 * 31 + ns[n] + i2 + 1) % 2147483647) (j4 := i4 + 1) ge
        have c2 := c1.trans (x1.chg (c := c) (o := .lst [.ref la, .int (n : Int), .int i2, .int ((i3 * 31 + ns[n] + i2 + 1) % 2147483647), .int (i4 + 1)]))
        refine ⟨_, rfl, lp, _, _, _, rfl, rfl, SqL.of x2.hp, rfl, _, _, rfl, rfl, (by show (0 : Int) < 3; decide), rfl, _, rfl, ?_⟩
        refine ite2 (fun _ => ?_) (fun _ => ?_)
        · refine ⟨_, rfl, lp, _, _, _, rfl, rfl, SqL.of x2.hp, rfl, _, _, rfl, rfl, _, rfl, lp, _, _, 1, rfl, rfl, x2.hp, rfl, ?_⟩
          have x3 := x2.put (j1 := (n : Int) + 1) (j2 := i2) (j3 := (i3 * 31 + ns[n] + i2 + 1) % 2147483647) (j4 := i4 + 1) (by omega)
          exact ⟨_, rfl, _, rfl, ret0 _ ⟨_, _, _, _, _, x3⟩ (c2.trans x2.chg)⟩
        · exact ⟨_, rfl, _, rfl, ret0 _ ⟨_, _, _, _, _, x2⟩ c2⟩
      · refine ⟨_, rfl, lp, _, _, _, rfl, rfl, SqL.of x.hp, rfl, _, rfl, lp, _, _, _, rfl, rfl, SqL.of x.hp, rfl, la, _, _, _, rfl, rfl, SqL.of x.ha, hx, _, rfl, _, _, rfl, rfl, h0, ?_⟩
        refine ⟨_, rfl, lp, _, _, _, rfl, rfl, SqL.of x.hp, rfl, _, rfl, lp, _, _, _, rfl, rfl, SqL.of x.hp, rfl, la, _, _, _, rfl, rfl, SqL.of x.ha, hx, _, rfl, _, _, rfl, rfl, ⟨h0, by omega⟩, ?_⟩
        refine ⟨_, rfl, lp, _, _, _, rfl, rfl, SqL.of x.hp, rfl, _, rfl, lp, _, _, _, rfl, rfl, SqL.of x.hp, rfl, la, _, _, n, rfl, rfl, x.ha, ixN_nat (by rw [List.length_map]; exact hn), ?_⟩
        have x1 := x.putA (n := n) (v := ns[n] / many)
        have c1 := x.chgA (c := c) (o := .lst ((ns.map V.int).set n (.int (ns[n] / many))))
        have hn1 : n < (ns.set n (ns[n] / many)).length := by rw [List.length_set]; exact hn
        have hx1 : atI ((ns.set n (ns[n] / many)).map V.int) (n : Int) = some (V.int (ns.set n (ns[n] / many))[n]) := atI_nat (by rw [List.getElem?_map, List.getElem?_eq_getElem hn1] <;> rfl)
        have fin : ∀ H1, PoolAt H1 lp la → Chg c [lp, la] H [lp, la] H1 → Q (.int (ns[n] % many)) H1 := fun H1 hp ch => k H1 _ hp ch (Int.emod_nonneg _ (by omega)) (Int.emod_lt_of_pos _ h0)
        refine ⟨_, rfl, lp, _, _, _, rfl, rfl, SqL.of x1.hp, rfl, _, rfl, lp, _, _, _, rfl, rfl, SqL.of x1.hp, rfl, la, _, _, _, rfl, rfl, SqL.of x1.ha, hx1, rfl, _, rfl, ?_⟩
        refine ite2 (fun _ => ?_) (fun _ => ?_)
        · refine ⟨_, rfl, lp, _, _, _, rfl, rfl, SqL.of x1.hp, rfl, _, _, rfl, rfl, _, rfl, lp, _, _, 1, rfl, rfl, x1.hp, rfl, ?_⟩
          have x3 := x1.put (j1 := (n : Int) + 1) (j2 := i2) (j3 := i3) (j4 := i4) (by omega)
          exact ⟨_, rfl, fin _ ⟨_, _, _, _, _, x3⟩ (c1.trans x1.chg)⟩
        · exact ⟨_, rfl, fin _ ⟨_, _, _, _, _, x1⟩ c1⟩
end
end QD
set_option Elab.async false
set_option linter.all false
set_option maxRecDepth 100000
set_option maxHeartbeats 8000000
namespace QD
open PySem PySem.Spec PyProof.Rows L2
/-- one or two of the six doors make an end of the list -/
theorem ends_has : ∀ {ds : List QM.Dr}, (ds.length = 1 ∨ ds.length = 2) → (∀ d ∈ ds, d ∈ QM.six) → ds ∈ QM.ends
  | [], h, _ => by rcases h with h | h <;> cases h
  | [d], _, a => List.mem_append_left _ (List.mem_map.mpr ⟨d, a d (by simp), rfl⟩)
  | [d, e], _, a => List.mem_append_right _ (List.mem_flatMap.mpr ⟨d, a d (by simp), List.mem_map.mpr ⟨e, a e (by simp), rfl⟩⟩)
  | _ :: _ :: _ :: _, h, _ => by rcases h with h | h <;> cases h
section
variable {P : Program} {w : World} {K : PySem.W.Frag} {mg : Str → Option Value} {base : Heap} {c : CL}
def spMkE (c : CL) : Sp := fun vs H Q _ => ∃ (ls : Addr) (ws : List V) (ds : List QM.Dr), vs = [.ref ls] ∧ H ls = some (.lst ws) ∧ Paired (DoorAt c H) ws ds ∧ (ds.length = 1 ∨ ds.length = 2) ∧ ∀ H' v, EndAt c H' v ds → Same H H' → Q v H'
theorem scME : FnScope ["_law_some"] ["_law_some"] (defScope sMkEnd) := ⟨rfl, rfl, rfl, by decide +kernel, rfl, by decide +kernel, by decide +kernel⟩
theorem ok_mkE {f fI : Addr} {fd : FuncData} (F : Fun K "_law_make_end" "_law_make_end" sMkEnd f fd) (T : Txt K mg c) (M : Mk K c.E fI) (GI : FnR P w K mg base CX0 1 fI (spEn c)) : FnOk P w K mg base CX0 3 f fd ["_law_some"] (spMkE c) := by
  refine F.ok scME (fun vs H Q E h => ?_) (fun cdv A outer s H vs Q E hr h => ?_)
  · obtain ⟨ls, ws, ds, rfl, _⟩ := h
    rfl
  · obtain ⟨ls, ws, ds, rfl, hl, hds, hlen, k⟩ := h
    refine ⟨_, pss_cons (ps_if (pt_cmpR op_eq (pe_callB call_len_seq (by rfl) T.len PySem.boot_len (pa_cons (pv 0) pa_nil)) pe_int (nomark _)) (pss_one (ps_ret (StX.pe_makeR M GI hr (by rfl) T.mgE pass0 (pa_cons (pe_ix ix_list (pv 0) pe_int (fun _ _ => rfl)) pa_nil)))) pss_nil)
      (pss_cons (ps_if (pt_cmpR op_eq (pe_callB call_len_seq (by rfl) T.len PySem.boot_len (pa_cons (pv 0) pa_nil)) pe_int (nomark _)) (pss_one (ps_ret (StX.pe_makeR M GI hr (by rfl) T.mgE pass0 (pa_cons (pe_ix ix_list (pv 0) pe_int (fun _ _ => rfl)) (pa_cons (pe_ix ix_list (pv 0) pe_int (fun _ _ => rfl)) pa_nil))))) pss_nil)
      pss_never), ?_⟩
    have hw : ws.length = ds.length := Paired.length hds
    have mk : ∀ (x dx : Addr), H x = none → H dx = none → dx ≠ x → spEn c (.ref x :: ws) (upd (upd H dx (.own x)) x (.ins c.E dx [])) (fun v H' => v = .non ∧ Q (.ref x) H') E0 := fun x dx nx ndx ne => by
      have cm := made_chg (c := c) (C := c.E) nx ndx ne
      refine ⟨x, dx, ws, ds, rfl, upd_same, doors_chg T.ok hds cm, by omega, by omega, fun H' hE keep => ⟨rfl, k H' _ hE fun q o e => ?_⟩⟩
      exact keep q o (ne_of_none e nx) (cm.keep q o e (.inl (by simp)))
    refine ⟨_, rfl, ls, _, rfl, .inl (SqL.of hl), rfl, _, rfl, ?_⟩
    rcases hlen with h | h
    · rw [h] at hw
      obtain ⟨w1, rfl⟩ := List.length_eq_one_iff.mp hw
      exact iteT ⟨_, rfl, ls, _, _, _, rfl, rfl, SqL.of hl, rfl, mk⟩
    · rw [h] at hw
      obtain ⟨w1, w2, rfl⟩ : ∃ w1 w2, ws = [w1, w2] := by
        cases ws with
        | nil => cases hw
        | cons w1 r =>
          obtain ⟨w2, rfl⟩ := List.length_eq_one_iff.mp (Nat.succ.inj hw)
          exact ⟨w1, w2, rfl⟩
      refine iteF ⟨_, rfl, ls, _, rfl, .inl (SqL.of hl), rfl, _, rfl, ?_⟩
      exact iteT ⟨_, rfl, ls, _, _, _, rfl, rfl, SqL.of hl, rfl, _, rfl, ls, _, _, _, rfl, rfl, SqL.of hl, rfl, mk⟩
def spEnd (c : CL) : Sp := fun vs H Q _ => ∃ (lp la : Addr), vs = [.ref lp] ∧ PoolAt H lp la ∧ ∀ H' v ds, EndAt c H' v ds → ds ∈ QM.ends → PoolAt H' lp la → Chg c [lp, la] H [lp, la] H' → Q v H'
theorem scEd : FnScope ["_law_pool", "_law_every", "_law_some", "_law_k"] ["_law_pool"] (defScope sEnd) := ⟨rfl, rfl, rfl, by decide +kernel, rfl, by decide +kernel, by decide +kernel⟩
theorem ok_end {f fD f6 fM : Addr} {mc : Value} {fd fdD fd6 fdM : FuncData} (F : Fun K "_law_end" "_law_end" sEnd f fd) (T : Txt K mg c)
    (FD : Fun K "_law_draw" "_law_draw" sDraw fD fdD) (mgDr : mg "_law_draw" = some (.ref fD)) (GD : FnOk P w K mg base CX0 2 fD fdD ["_law_pool", "_law_many"] (spMixed c)) (bD : Binds K fdD ["_law_pool", "_law_many"] [])
    (m6 : SMet K c.D mc "six" f6) (G6 : FnOk P w K mg base CX0 4 f6 fd6 [] (spSix c)) (b6 : Binds K fd6 [] [])
    (FM : Fun K "_law_make_end" "_law_make_end" sMkEnd fM fdM) (mgMk : mg "_law_make_end" = some (.ref fM)) (GM : FnOk P w K mg base CX0 3 fM fdM ["_law_some"] (spMkE c)) (bM : Binds K fdM ["_law_some"] []) :
    FnOk P w K mg base CX0 5 f fd ["_law_pool"] (spEnd c) := by
  refine F.ok scEd (fun vs H Q E h => ?_) (fun cdv A outer s H vs Q E hr h => ?_)
  · obtain ⟨lp, la, rfl, _⟩ := h
    rfl
  · obtain ⟨lp, la, rfl, hp, k⟩ := h
    have hr2 : Room 2 _ := hr.mono (by decide)
    have hr3 : Room 3 _ := hr.mono (by decide)
    refine ⟨_, pss_cons (ps_par (i := 1) (j := 2) rfl scEd.nd rfl rfl (by decide) rfl rfl (pa_cons (pe_smeth0 (pe_glob (v := V.ref c.D) rfl T.mgD rfl) m6 G6 hr b6) (pa_cons (pe_lst pa_nil) pa_nil)) (by rfl))
      (pss_cons (ps_for PassesOwn.never rfl (pi_range1 rfl T.range (pa_cons (pe_op op_add pe_int (pe_call GD hr2 rfl mgDr FD.kp bD .nil pass0 (pa_cons (pv 0) (pa_cons pe_int pa_nil)))) pa_nil)) (pg_name (i := 3) scEd.nd rfl (Or.inl rfl))
        (pss_one (ps_expr (pe_bm PySem.F.plainAttrs_list PySem.F.slot_list_append PySem.F.type_list_append mt_append (pv 2) (pa_cons (pe_ix ix_tup (pv 1) (pe_call GD hr2 rfl mgDr FD.kp bD .nil pass0 (pa_cons (pv 0) (pa_cons pe_int pa_nil))) (fun _ _ => rfl)) pa_nil)))))
      (pss_one (ps_ret (pe_call GM hr3 rfl mgMk FM.kp bM .nil pass0 (pa_cons (pv 2) pa_nil))))), ?_⟩
    refine ⟨rfl, rfl, fun H1 t vt ht hvt sm => ⟨Nat.zero_le _, fun l hl => ⟨_, _, rfl, ?_⟩⟩⟩
    have s1 : Same H (upd H1 l (.lst [])) := fun q o e => by rw [upd_ne (ne_of_none (sm _ _ e) hl)]; exact sm _ _ e
    have c1 : Chg c [lp, la] H [lp, la] (upd H1 l (.lst [])) := Chg.of_same s1
    have ct : Chg c [] H1 [] (upd H1 l (.lst [])) := Chg.alloc hl
    have hp1 : PoolAt (upd H1 l (.lst [])) lp la := hp.same s1
    have llp : l ≠ lp := fun z => by
      subst z
      obtain ⟨_, _, _, _, _, x⟩ := hp.same sm
      have := x.hp
      rw [hl] at this
      cases this
    have lla : l ≠ la := fun z => by
      subst z
      obtain ⟨_, _, _, _, _, x⟩ := hp.same sm
      have := x.ha
      rw [hl] at this
      cases this
    have l2 : (upd H1 l (.lst [])) l = some (.lst []) := upd_same
    have t2 : (upd H1 l (.lst [])) t = some (.tup vt) := ct.keep _ _ ht (.inl (by simp))
    have vt2 := doors_chg T.ok hvt ct
    have hnoH : H l = none := by
      cases e : H l with
      | none => rfl
      | some o =>
        rw [sm _ _ e] at hl
        cases hl
    generalize upd H1 l (.lst []) = H2 at s1 c1 ct hp1 l2 t2 vt2
    refine ⟨_, rfl, lp, la, 2, rfl, hp1, .inl rfl, fun H3 r hp3 c3 r0 r1 => ?_⟩
    have c3' := c1.trans c3
    have l3 : H3 l = some (.lst []) := c3.keep _ _ l2 (.inl (by simp [llp, lla]))
    have t3 : H3 t = some (.tup vt) := c3.keep _ _ t2 (.inr True.intro)
    have vt3 := doors_chg T.ok vt2 c3
    refine ⟨_, _, rfl, rfl, _, rfl, by omega, by omega, ?_⟩
    have hN : (1 + r).toNat = 1 ∨ (1 + r).toNat = 2 := by omega
    generalize (1 + r).toNat = N at hN
    refine for_range (n := N) (fun i σ H' => ∃ (v : Option V) (ws : List V) (ds : List QM.Dr), σ = [some (.ref lp), some (.ref t), some (.ref l), v] ∧ PoolAt H' lp la ∧ Chg c [lp, la] H [lp, la] H' ∧ H' l = some (.lst ws) ∧ Paired (DoorAt c H') ws ds ∧ ds.length = i ∧ (∀ d ∈ ds, d ∈ QM.six) ∧ H' t = some (.tup vt) ∧ Paired (DoorAt c H') vt QM.six)
      ⟨none, [], [], rfl, hp3, c3', l3, .nil, rfl, (fun _ z => nomatch z), t3, vt3⟩ ?_ ?_
    · rintro i σ H' hi ⟨v, ws, ds, rfl, hp4, c4, l4, d4, e4, a4, t4, vt4⟩
      refine ⟨_, rfl, .inl ⟨rfl, _, SqL.of l4⟩, _, rfl, _, rfl, lp, la, 6, rfl, hp4, .inr rfl, fun H5 r5 hp5 c5 r50 r51 => ?_⟩
      have l5 : H5 l = some (.lst ws) := c5.keep _ _ l4 (.inl (by simp [llp, lla]))
      have t5 : H5 t = some (.tup vt) := c5.keep _ _ t4 (.inr True.intro)
      have vt5 := doors_chg T.ok vt4 c5
      have d5 := doors_chg T.ok d4 c5
      obtain ⟨n, rfl⟩ : ∃ n : Nat, r5 = (n : Int) := ⟨r5.toNat, by omega⟩
      have hvl : vt.length = 6 := Paired.length vt5
      have hn : n < vt.length := by omega
      obtain ⟨d, hd, hdo⟩ := paired_get vt5 (List.getElem?_eq_getElem hn)
      refine ⟨t, _, _, _, rfl, rfl, SqT.of t5, atI_nat (List.getElem?_eq_getElem hn), ?_⟩
      have hwl : ws.length = ds.length := Paired.length d5
      refine ⟨l, _, _, rfl, rfl, l5, small1000 (by omega), ?_⟩
      have c6 : Chg c [l] H5 [l] (upd H5 l (.lst (ws ++ [vt[n]]))) := Chg.write (by simp) l5 nI_l
      obtain ⟨ns, i1, i2, i3, i4, x5⟩ := hp5
      refine ⟨_, ws ++ [vt[n]], ds ++ [d], rfl, ⟨ns, i1, i2, i3, i4, x5.keep c6 (by simp [llp.symm]) (by simp [lla.symm])⟩, (c4.trans c5).fresh hnoH, upd_same, ?_, by rw [List.length_append, e4] <;> rfl, ?_, c6.keep _ _ t5 (.inr True.intro), doors_chg T.ok vt5 c6⟩
      · exact Paired.snoc (doors_chg T.ok d5 c6) (hdo.chg T.ok c6)
      · intro d' hd'
        rcases List.mem_append.mp hd' with z | z
        · exact a4 d' z
        · rw [List.mem_singleton.mp z]
          exact List.mem_of_getElem? hd
    · rintro σ H' ⟨v, ws, ds, rfl, hp4, c4, l4, d4, e4, a4, t4, vt4⟩
      rw [← e4] at hN
      exact ⟨_, rfl, l, ws, ds, rfl, l4, d4, hN, fun H5 v5 hE sm5 => k H5 v5 ds hE (ends_has hN a4) (hp4.same sm5) (c4.trans (Chg.of_same sm5))⟩
end
end QD
set_option Elab.async false
set_option linter.all false
set_option maxRecDepth 100000
set_option maxHeartbeats 8000000
namespace QD
open PySem PySem.Spec PyProof.Rows L2
/-! ### the law's own look at the letters: the plain side -/
theorem hasN_mem {n : Nat} : ∀ {l : List Nat}, QM.hasN n l = true ↔ n ∈ l
  | [] => ⟨(fun h => nomatch h), (fun h => nomatch h)⟩
  | m :: r => by
    show (Nat.beq m n || QM.hasN n r) = true ↔ _
    rw [Bool.or_eq_true, hasN_mem (l := r), List.mem_cons]
    constructor
    · rintro (h | h)
      · exact .inl (Nat.eq_of_beq_eq_true h).symm
      · exact .inr h
    · rintro (h | h)
      · exact .inl (by rw [h]; exact Nat.beq_refl _)
      · exact .inr h
theorem hasN_sort {n : Nat} {l : List Nat} (h : QM.hasN n l = true) : QM.hasN n (QM.sortN l) = true := hasN_mem.mpr ((sortN_perm l).mem_iff.mpr (hasN_mem.mp h))
theorem goodL_mem {s : QM.Sd} {p : Nat × Nat} : ∀ {l : List (Nat × Nat)}, QM.goodL s l = true → p ∈ l → QM.hasN p.1 s.ad = true ∧ s.hd = true
  | [], _, h => nomatch h
  | (k, n) :: r, h, hp => by
    have h' : (QM.hasN k s.ad && s.hd && QM.goodL s r) = true := h
    rw [Bool.and_eq_true, Bool.and_eq_true] at h'
    rcases List.mem_cons.mp hp with z | z
    · subst z
      exact h'.1
    · exact goodL_mem h'.2 z
theorem rightF_over : ∀ {f : Nat} {m m' : QM.Mt}, QM.rightF f m = some m' → QM.over m = true → m' = m
  | 0, m, m', h, ho => by
    unfold QM.rightF at h
    rw [if_pos ho] at h
    exact (Option.some.inj h).symm
  | f + 1, m, m', h, ho => by
    unfold QM.rightF at h
    rw [if_pos ho] at h
    exact (Option.some.inj h).symm
theorem rightF_on {f : Nat} {m m' : QM.Mt} (h : QM.rightF f m = some m') (ho : QM.over m = false) : ∃ g m1 fx fy, f = g + 1 ∧ QM.roundM m = some (m1, fx, fy) ∧
    (∀ l ∈ fx.map (mkL 2) ++ fy.map (mkL 1), QM.hasN l.2.1 (atP m1 l.1).ad = true ∧ (atP m1 l.1).hd = true) ∧ m1.n ≤ 8 ∧ QM.rightF g m1 = some m' := by
  cases f with
  | zero =>
    unfold QM.rightF at h
    rw [ho, if_neg Bool.false_ne_true] at h
    cases h
  | succ g =>
    unfold QM.rightF at h
    rw [ho, if_neg Bool.false_ne_true] at h
    cases q : QM.roundM m with
    | none => rw [q] at h; cases h
    | some z =>
      obtain ⟨m1, fx, fy⟩ := z
      rw [q] at h
      dsimp only at h
      by_cases q2 : (QM.goodL m1.y fx && QM.goodL m1.x fy && Nat.ble m1.n 8) = true
      · rw [if_pos q2] at h
        rw [Bool.and_eq_true, Bool.and_eq_true] at q2
        refine ⟨g, m1, fx, fy, rfl, rfl, fun l hl => ?_, Nat.le_of_ble_eq_true q2.2, h⟩
        rcases List.mem_append.mp hl with z | z
        · obtain ⟨p, hp, rfl⟩ := List.mem_map.mp z
          exact goodL_mem q2.1.1 hp
        · obtain ⟨p, hp, rfl⟩ := List.mem_map.mp z
          exact goodL_mem q2.1.2 hp
      · rw [if_neg q2] at h
        cases h
theorem beqB_eq {a b : Bool} (h : QM.beqB a b = true) : a = b := by
  cases a <;> cases b <;> first | rfl | cases h
theorem oth_ne {g : Nat} (h : g = 1 ∨ g = 2) : decide (V.str (plS (otherP g)) = V.str (plS g)) = false := by
  refine decide_eq_false fun z => ?_
  have z2 : plS (otherP g) = plS g := by injection z
  rcases h with rfl | rfl
  · exact n_xy z2.symm
  · exact n_xy z2
section
variable {P : Program} {w : World} {K : PySem.W.Frag} {mg : Str → Option Value} {base : Heap} {c : CL}
def spRt (c : CL) : Sp := fun vs H Q _ => ∃ (xv yv : V) (dsx dsy : List QM.Dr) (m m2 : QM.Mt), vs = [xv, yv] ∧ EndAt c H xv dsx ∧ EndAt c H yv dsy ∧ QM.play dsx dsy = some m ∧ QM.right dsx dsy = some m2 ∧ QM.both m = QM.both m2 ∧ ∀ H', Same H H' → Q (.bl true) H'
theorem scRt : FnScope ["_law_x", "_law_y", "_law_made", "_law_source", "_law_goal"] ["_law_x", "_law_y"] (defScope sRight) := ⟨rfl, rfl, rfl, by decide +kernel, rfl, by decide +kernel, by decide +kernel⟩
theorem ok_rt {f fI fO fR fK fH fN fM : Addr} {fd fdI fdO fdR fdK fdH fdN fdM : FuncData} (F : Fun K "_law_letters_right" "_law_letters_right" sRight f fd) (T : Txt K mg c)
    (M : Mk K c.M fI) (GI : FnOk P w K mg base CX0 5 fI fdI ["self", "x", "y"] (spMI c P w K)) (bI : Binds K fdI ["self", "x", "y"] [])
    (mO : Meth K c.M "is_over" fO) (GO : FnOk P w K mg base CX0 3 fO fdO ["self"] (spMO c P w K)) (bO : Binds K fdO ["self"] [])
    (mR : Meth K c.M "round" fR) (GR : FnOk P w K mg base CX0 5 fR fdR ["self"] (spMR c P w K)) (bR : Binds K fdR ["self"] [])
    (mK : Meth K c.M "known" fK) (GK : FnOk P w K mg base CX0 2 fK fdK ["self", "place"] (spMK c P w K)) (bK : Binds K fdK ["self", "place"] [])
    (mH : Meth K c.M "heard" fH) (GH : FnOk P w K mg base CX0 2 fH fdH ["self", "place"] (spMH c P w K)) (bH : Binds K fdH ["self", "place"] [])
    (mN : Meth K c.M "__len__" fN) (GN : FnOk P w K mg base CX0 1 fN fdN ["self"] (spMN c P w K)) (bN : Binds K fdN ["self"] [])
    (FM : Fun K "meets" "meets" sMeets fM fdM) (mgMt : mg "meets" = some (.ref fM)) (GM : FnOk P w K mg base CX0 8 fM fdM ["x", "y"] (spMts c)) (bM : Binds K fdM ["x", "y"] []) :
    FnOk P w K mg base CX0 9 f fd ["_law_x", "_law_y"] (spRt c) := by
  refine F.ok scRt (fun vs H Q E h => ?_) (fun cdv A outer s H vs Q E hr h => ?_)
  · obtain ⟨xv, yv, dsx, dsy, m, m2, rfl, _⟩ := h
    rfl
  · obtain ⟨xv, yv, dsx, dsy, m, m2, rfl, hx, hy, hp, hrt, hbb, k⟩ := h
    have hr2 : Room 2 _ := hr.mono (by decide)
    have hr3 : Room 3 _ := hr.mono (by decide)
    have hr5 : Room 5 _ := hr.mono (by decide)
    have hr6 : Room 6 _ := hr.mono (by decide)
    obtain ⟨m0, hs, hf⟩ : ∃ m0, QM.start dsx dsy = some m0 ∧ QM.rightF 9 m0 = some m2 := by
      unfold QM.right at hrt
      cases q : QM.start dsx dsy with
      | none => rw [q] at hrt; cases hrt
      | some m0 => rw [q] at hrt; exact ⟨m0, rfl, hrt⟩
    refine ⟨_, pss_cons (ps_set (i := 2) scRt.nd rfl (Or.inl rfl) (pe_make M GI hr6 (by rfl) T.mgM bI .nil pass0 (pa_cons (pv 0) (pa_cons (pv 1) pa_nil))))
      (pss_cons (ps_while PassesOwn.never (pt_not (pt_val (pe_meth0 (pv 2) T.clM mO GO hr3 bO .nil pass0)))
        (pss_cons (ps_for PassesOwn.never rfl (pi_tup (pe_meth0 (pv 2) T.clM mR GR hr5 bR .nil pass0)) (pg_tup rfl (pgs_cons (pg_name (i := 3) scRt.nd rfl (Or.inl rfl)) (pgs_cons (pg_name (i := 4) scRt.nd rfl (Or.inl rfl)) pgs_nil)))
          (pss_one (ps_if (PW.pt (pw_or (pt_cmpR op_eq (pe_ix ix_tup (pv 3) pe_int (fun _ _ => rfl)) (pe_ix ix_tup (pv 4) pe_int (fun _ _ => rfl)) (nomark _))
              (pw_or (pt_cmpR (op_notInT (hu65 hr)) (pv 3) (pe_meth (pv 2) T.clM mK GK hr2 bK .nil pass0 (pa_cons (pe_ix ix_tup (pv 4) pe_int (fun _ _ => rfl)) pa_nil)) (by rfl))
              (pw_or1 (pt_cmpR op_notBl (pe_meth (pv 2) T.clM mH GH hr2 bH .nil pass0 (pa_cons (pe_ix ix_tup (pv 4) pe_int (fun _ _ => rfl)) pa_nil)) pe_bl (nomark _))))))
            (pss_one ps_never) pss_nil)))
        (pss_one (ps_if (pt_cmpR op_gt (pe_callB (cr_lenOwn (C := c.M) GN hr2 bN mN.at_ mN.fn) (by rfl) T.len PySem.boot_len (pa_cons (pv 2) pa_nil)) pe_int (nomark _)) (pss_one ps_never) pss_nil))))
      (pss_one (ps_ret (pe_cmpR op_eq (pe_call GM hr rfl mgMt FM.kp bM .nil pass0 (pa_cons (pv 0) (pa_cons (pv 1) pa_nil)))
        (pe_and (pe_meth (pv 2) T.clM mH GH hr2 bH .nil pass0 (pa_cons pe_str pa_nil)) (pe_one (pe_meth (pv 2) T.clM mH GH hr2 bH .nil pass0 (pa_cons pe_str pa_nil)))) (nomark _))))), ?_⟩
    refine ⟨_, rfl, _, rfl, fun p dx np ndx ne => ⟨p, dx, xv, yv, dsx, dsy, m0, rfl, upd_same, hx.chg T.ok (made_chg np ndx ne), hy.chg T.ok (made_chg np ndx ne), hs, fun H1 G hm ch => ⟨rfl, ?_⟩⟩⟩
    have ch0 := new_meet np ndx ne ch
    refine ⟨fun f σ H' => ∃ z3 z4 mi Gi, σ = [some xv, some yv, some (.ref p), z3, z4] ∧ MeetAt c P w K H' (.ref p) mi Gi ∧ Chg c [] H Gi H' ∧ QM.rightF f mi = some m2, ⟨9, _, _, m0, G, rfl, hm, ch0, hf⟩, ?_⟩
    rintro f σ H' ⟨z3, z4, mi, Gi, rfl, hmi, chi, hfi⟩
    obtain ⟨p', dx', dS', lR', vx', vy', vr', Gx', Gy', x', eG'⟩ := id hmi
    have ev' := x'.ev
    injection ev' with ev'
    subst ev'
    refine ⟨_, rfl, p, dx', _, rfl, x'.ins, fM_noOver, V.ref p, mi, Gi, rfl, hmi, _, rfl, ?_⟩
    cases ho : QM.over mi with
    | true =>
      refine iteF ?_
      have e := rightF_over hfi ho
      subst e
      have sm0 : Same H H' := chi.same
      refine ⟨_, rfl, _, rfl, xv, yv, dsx, dsy, m, rfl, hx.chg T.ok chi, hy.chg T.ok chi, hp, fun H2 sm => ?_⟩
      have ch2 : Chg c [] H' [] H2 := Chg.of_same sm
      have x2 := x'.chg T.ok ch2 (fun _ _ => by simp)
      have hm2 : MeetAt c P w K H2 (.ref p) m2 Gi := ⟨p, dx', dS', lR', vx', vy', vr', Gx', Gy', x2, eG'⟩
      refine ⟨_, rfl, p, dx', _, rfl, x2.ins, fM_noHeard, V.ref p, m2, Gi, 1, rfl, .inl rfl, hm2, _, rfl, ?_⟩
      have kk := k H2 (fun q o e => sm _ _ (sm0 _ _ e))
      have fin : ∀ b : Bool, QM.both m2 = b → scal (V.bl (QM.both m)) (V.bl b) = true ∧ Q (.bl (decide (V.bl (QM.both m) = V.bl b))) H2 := fun b hb => ⟨rfl, by rw [hbb, hb, decide_eq_true rfl]; exact kk⟩
      unfold QM.both at fin
      cases h1 : m2.x.hd with
      | false =>
        show if (m2.x.hd) = true then _ else _
        rw [h1] at fin ⊢
        exact iteF (fin false rfl)
      | true =>
        show if (m2.x.hd) = true then _ else _
        rw [h1] at fin ⊢
        exact iteT ⟨_, rfl, p, dx', _, rfl, x2.ins, fM_noHeard, V.ref p, m2, Gi, 2, rfl, .inr rfl, hm2, fin m2.y.hd rfl⟩
    | false =>
      obtain ⟨g, m1, fx, fy, rfl, hrd, hgood, h8, hf1⟩ := rightF_on hfi ho
      refine iteT ⟨fun σ H' => ∃ z3 z4 mi Gi, σ = [some xv, some yv, some (.ref p), z3, z4] ∧ MeetAt c P w K H' (.ref p) mi Gi ∧ Chg c [] H Gi H' ∧ QM.rightF g mi = some m2, fun σ' H' h => ⟨g, Nat.lt_succ_self g, h⟩, ?_⟩
      refine ⟨_, rfl, p, dx', _, rfl, x'.ins, fM_noRound, V.ref p, mi, m1, fx, fy, Gi, rfl, hmi, ho, hrd, fun H2 G2 t vt hm2 ch2 ht hlets => ?_⟩
      have chi2 := chi.trans ch2
      generalize fx.map (mkL 2) ++ fy.map (mkL 1) = ls at hgood hlets
      refine ⟨t, rfl, ⟨_, SqT.of ht⟩, for_tup (K := K) (a := t) (xs := vt) (fun i σ H' => ∃ z3 z4, σ = [some xv, some yv, some (.ref p), z3, z4] ∧ Same H2 H') ⟨_, _, rfl, fun _ _ e => e⟩ (fun _ _ _ _ ⟨_, _, _, sm⟩ => SqT.of (sm _ _ ht)) ?_ ?_⟩
      · rintro i y σ H3 hi ⟨y3, y4, rfl, sm⟩
        obtain ⟨⟨gp, kk, n⟩, hl, hlet⟩ := paired_get hlets hi
        have hgd := hgood _ (List.mem_of_getElem? hl)
        have ch3 : Chg c [] H2 [] H3 := Chg.of_same sm
        obtain ⟨hg, tp, vs, vg, rfl, hsq, has, hgv⟩ := hlet.chg ch3
        have hg : gp = 1 ∨ gp = 2 := hg
        have has : AdAt K H3 vs (otherP gp, kk) := has
        have hgv : AdAt K H3 vg (gp, n) := hgv
        obtain ⟨ag, rfl, hag⟩ := id hgv
        obtain ⟨as, rfl, hasT⟩ := id has
        obtain ⟨p2, dx2, dS2, lR2, vx2, vy2, vr2, Gx2, Gy2, x2, eG2⟩ := id hm2
        have ev2 := x2.ev
        injection ev2 with ev2
        subst ev2
        have x3 := x2.chg T.ok ch3 (fun _ _ => by simp)
        have hm3 : MeetAt c P w K H3 (.ref p) m1 G2 := ⟨p, dx2, dS2, lR2, vx2, vy2, vr2, Gx2, Gy2, x3, eG2⟩
        refine ⟨tp, _, rfl, hsq, rfl, _, _, rfl, _, _, rfl, rfl, ?_⟩
        refine ⟨_, rfl, as, _, 0, _, rfl, rfl, hasT.2, rfl, _, rfl, ag, _, 0, _, rfl, rfl, hag.2, rfl, rfl, _, rfl, ?_⟩
        show if decide (V.str (plS (otherP gp)) = V.str (plS gp)) = true then _ else _
        rw [oth_ne hg]
        refine iteF ?_
        refine ⟨_, rfl, _, rfl, p, dx2, _, rfl, x3.ins, fM_noKnown, _, rfl, ag, _, 0, _, rfl, rfl, hag.2, rfl, V.ref p, m1, G2, gp, rfl, hg, hm3, fun H4 t4 vt4 sm4 ht4 hads => ?_⟩
        have ch4 : Chg c [] H3 [] H4 := Chg.of_same sm4
        have hle : (otherP gp, kk).1 ≤ 2 := has.le
        refine ⟨adD (otherP gp, kk), ((QM.sortN (atP m1 gp).ad).map fun n => (otherP gp, n)).map adD, (has.chg ch4).dp, .tup (SqT.of ht4) hads.dps, adD_shaped _, adDs_shapedT _, _, rfl, ?_⟩
        rw [hads.has hle, hasN_ad, hasN_sort hgd.1]
        refine iteF ?_
        have x4 := x3.chg T.ok ch4 (fun _ _ => by simp)
        have hm4 : MeetAt c P w K H4 (.ref p) m1 G2 := ⟨p, dx2, dS2, lR2, vx2, vy2, vr2, Gx2, Gy2, x4, eG2⟩
        have hag4 : AdAt K H4 (.ref ag) (gp, n) := hgv.chg ch4
        obtain ⟨ag4, e4, hag4⟩ := hag4
        injection e4 with e4
        subst e4
        refine ⟨_, rfl, p, dx2, _, rfl, x4.ins, fM_noHeard, _, rfl, ag, _, 0, _, rfl, rfl, hag4.2, rfl, V.ref p, m1, G2, gp, rfl, hg, hm4, _, _, rfl, rfl, _, rfl, ?_⟩
        rw [hgd.2]
        exact iteF ⟨_, _, rfl, fun q o e => sm4 _ _ (sm _ _ e)⟩
      · rintro σ H3 ⟨y3, y4, rfl, sm⟩
        have ch3 : Chg c [] H2 [] H3 := Chg.of_same sm
        obtain ⟨p2, dx2, dS2, lR2, vx2, vy2, vr2, Gx2, Gy2, x2, eG2⟩ := id hm2
        have ev2 := x2.ev
        injection ev2 with ev2
        subst ev2
        have x3 := x2.chg T.ok ch3 (fun _ _ => by simp)
        have hm3 : MeetAt c P w K H3 (.ref p) m1 G2 := ⟨p, dx2, dS2, lR2, vx2, vy2, vr2, Gx2, Gy2, x3, eG2⟩
        refine ⟨_, rfl, p, dx2, _, rfl, x3.ins, V.ref p, m1, G2, rfl, hm3, m1.n, rfl, by omega, _, _, rfl, rfl, _, rfl, ?_⟩
        rw [decide_eq_false (show ¬ ((8 : Int) < (m1.n : Int)) by omega)]
        exact iteF ⟨_, _, m1, G2, rfl, hm3, chi2.trans (Chg.of_same sm), hf1⟩
end
end QD
set_option Elab.async false
set_option linter.all false
set_option maxRecDepth 100000
set_option maxHeartbeats 8000000
namespace QD
open PySem PySem.Spec PyProof.Rows L2
/-! ### what the check of all the ends says -/
structure Good (x y : List QM.Dr) (m m1 m2 m3 m4 m5 m6 : QM.Mt) : Prop where
  p0 : QM.play x y = some m
  p1 : QM.play y x = some m1
  p2 : QM.right x y = some m2
  p3 : QM.play (QM.free :: x) y = some m3
  p4 : QM.play x (QM.free :: y) = some m4
  p5 : QM.play x [QM.free] = some m5
  p6 : QM.play [QM.free] (QM.free :: y) = some m6
  b1 : QM.both m = QM.both m1
  r1 : rnd? m = rnd? m1
  b2 : QM.both m = QM.both m2
  b3 : QM.both m3 = QM.both m
  r3 : rnd? m3 = rnd? m
  b4 : QM.both m4 = QM.both m
  b5 : QM.both m5 = true
  b6 : QM.both m6 = true
theorem same_eq {a b : QM.Mt} (h : QM.same a b = true) : QM.both a = QM.both b ∧ rnd? a = rnd? b := by
  unfold QM.same at h
  rw [Bool.and_eq_true] at h
  have e := beqB_eq h.1
  refine ⟨e, ?_⟩
  unfold rnd?
  rw [← e]
  cases q : QM.both a with
  | false => rfl
  | true =>
    have h2 := h.2
    rw [q] at h2
    have e2 : a.n = b.n := Nat.eq_of_beq_eq_true h2
    rw [e2]
theorem good_of {x y : List QM.Dr} (h : QM.ok x y = true) : ∃ m m1 m2 m3 m4 m5 m6, Good x y m m1 m2 m3 m4 m5 m6 := by
  unfold QM.ok at h
  cases q0 : QM.play x y with
  | none => rw [q0] at h; cases h
  | some m =>
  rw [q0] at h
  dsimp only at h
  cases q1 : QM.play y x with
  | none => rw [q1] at h; cases h
  | some m1 =>
  rw [q1] at h
  dsimp only at h
  cases q2 : QM.right x y with
  | none => rw [q2] at h; cases h
  | some m2 =>
  rw [q2] at h
  dsimp only at h
  cases q3 : QM.play (QM.free :: x) y with
  | none => rw [q3] at h; cases h
  | some m3 =>
  rw [q3] at h
  dsimp only at h
  cases q4 : QM.play x (QM.free :: y) with
  | none => rw [q4] at h; cases h
  | some m4 =>
  rw [q4] at h
  dsimp only at h
  cases q5 : QM.play x [QM.free] with
  | none => rw [q5] at h; cases h
  | some m5 =>
  rw [q5] at h
  dsimp only at h
  cases q6 : QM.play [QM.free] (QM.free :: y) with
  | none => rw [q6] at h; cases h
  | some m6 =>
  rw [q6] at h
  dsimp only at h
  rw [Bool.and_eq_true, Bool.and_eq_true, Bool.and_eq_true, Bool.and_eq_true, Bool.and_eq_true] at h
  obtain ⟨⟨⟨⟨⟨h1, h2⟩, h3⟩, h4⟩, h5⟩, h6⟩ := h
  exact ⟨m, m1, m2, m3, m4, m5, m6, q0, q1, q2, q3, q4, q5, q6, (same_eq h1).1, (same_eq h1).2, beqB_eq h2, (same_eq h3).1.symm, (same_eq h3).2.symm, (beqB_eq h4).symm, h5, h6⟩
theorem ends_good {x y : List QM.Dr} (hx : x ∈ QM.ends) (hy : y ∈ QM.ends) : ∃ m m1 m2 m3 m4 m5 m6, Good x y m m1 m2 m3 m4 m5 m6 :=
  good_of (List.all_eq_true.mp (List.all_eq_true.mp QM.all_ok x hx) y hy)
theorem ends_len_all : (QM.ends.all fun x => Nat.beq x.length 1 || Nat.beq x.length 2) = true := by decide +kernel
theorem ends_len {x : List QM.Dr} (hx : x ∈ QM.ends) : 1 ≤ x.length ∧ x.length ≤ 2 := by
  have h : (Nat.beq x.length 1 || Nat.beq x.length 2) = true := List.all_eq_true.mp ends_len_all x hx
  rw [Bool.or_eq_true] at h
  rcases h with h | h
  · have := Nat.eq_of_beq_eq_true h
    omega
  · have := Nat.eq_of_beq_eq_true h
    omega
theorem scal_rnd (m : QM.Mt) : scal (rnd? m) (rnd? m) = true := by
  unfold rnd?
  split <;> rfl
section
variable {P : Program} {w : World} {K : PySem.W.Frag} {mg : Str → Option Value} {base : Heap} {c : CL}
theorem EndAt.same {H H' : Hp} {v : V} {ds : List QM.Dr} (ok : c.Ok) (h : EndAt c H v ds) (s : Same H H') : EndAt c H' v ds := h.chg ok (Chg.of_same (F := []) s)
theorem end_ins {H : Hp} {p : Addr} {ds : List QM.Dr} (h : EndAt c H (.ref p) ds) : ∃ dx t, H p = some (.ins c.E dx (fE t)) := by
  obtain ⟨p', dx, t, ws, e, h1, _⟩ := h
  injection e with e
  subst e
  exact ⟨dx, t, h1⟩
theorem end_ref {H : Hp} {v : V} {ds : List QM.Dr} (h : EndAt c H v ds) : ∃ p, v = .ref p := by
  obtain ⟨p', dx, t, ws, e, h1, _⟩ := h
  exact ⟨p', e⟩
def spLaw (K : PySem.W.Frag) : Sp := fun vs H Q _ => ∃ (a : Addr) (ns : List Int), vs = [.ref a] ∧ SqL K H a (ns.map V.int) ∧ ns.length ≤ 63 ∧ ∀ H', Q (.bl true) H'
theorem scLw : FnScope ["_law_script", "_law_pool", "_law_turn", "_law_x", "_law_y", "_law_free"] ["_law_script"] (defScope sLaw) := ⟨rfl, rfl, rfl, by decide +kernel, rfl, by decide +kernel, by decide +kernel⟩
theorem ok_law {f fB fE fM fR fL fD fI fA : Addr} {fd fdB fdE fdM fdR fdL fdD fdA : FuncData} (F : Fun K "law" "law" sLaw f fd) (T : Txt K mg c)
    (FB : Fun K "_law_begin" "_law_begin" sBegin fB fdB) (mgB : mg "_law_begin" = some (.ref fB)) (GB : FnOk P w K mg base CX0 1 fB fdB ["_law_script"] (spBegin K)) (bB : Binds K fdB ["_law_script"] [])
    (FE : Fun K "_law_end" "_law_end" sEnd fE fdE) (mgEd : mg "_law_end" = some (.ref fE)) (GE : FnOk P w K mg base CX0 5 fE fdE ["_law_pool"] (spEnd c)) (bE : Binds K fdE ["_law_pool"] [])
    (FM : Fun K "meets" "meets" sMeets fM fdM) (mgMt : mg "meets" = some (.ref fM)) (GM : FnOk P w K mg base CX0 8 fM fdM ["x", "y"] (spMts c)) (bM : Binds K fdM ["x", "y"] [])
    (FR : Fun K "rounds" "rounds" sRounds fR fdR) (mgRd : mg "rounds" = some (.ref fR)) (GR : FnOk P w K mg base CX0 8 fR fdR ["x", "y"] (spRds c)) (bR : Binds K fdR ["x", "y"] [])
    (FL : Fun K "_law_letters_right" "_law_letters_right" sRight fL fdL) (mgLr : mg "_law_letters_right" = some (.ref fL)) (GL : FnOk P w K mg base CX0 9 fL fdL ["_law_x", "_law_y"] (spRt c)) (bL : Binds K fdL ["_law_x", "_law_y"] [])
    (MD : Mk K c.D fD) (GD : FnOk P w K mg base CX0 2 fD fdD ["self", "gives", "lets"] (spDrI c)) (bD : Binds K fdD ["self", "gives", "lets"] [])
    (ME : Mk K c.E fI) (GI : FnR P w K mg base CX0 1 fI (spEn c))
    (mA : Meth K c.E "__add__" fA) (sA : PySem.W.selfFirst K c.E = true) (GA : FnOk P w K mg base CX0 3 fA fdA ["self", "other"] (spAdd c)) (bA : Binds K fdA ["self", "other"] []) :
    FnOk P w K mg base CX0 10 f fd ["_law_script"] (spLaw K) := by
  refine F.ok scLw (fun vs H Q E h => ?_) (fun cdv A outer s H vs Q E hr h => ?_)
  · obtain ⟨a, ns, rfl, _⟩ := h
    rfl
  · obtain ⟨a, ns, rfl, hS, hlen, k⟩ := h
    have hr1 : Room 1 _ := hr.mono (by decide)
    have hr2 : Room 2 _ := hr.mono (by decide)
    have hr3 : Room 3 _ := hr.mono (by decide)
    have hr5 : Room 5 _ := hr.mono (by decide)
    have hr8 : Room 8 _ := hr.mono (by decide)
    refine ⟨_, pss_cons (ps_set (i := 1) scLw.nd rfl (Or.inl rfl) (pe_call GB hr1 rfl mgB FB.kp bB .nil pass0 (pa_cons (pv 0) pa_nil)))
      (pss_cons (ps_for PassesOwn.never rfl (pi_range1 rfl T.range (pa_cons pe_int pa_nil)) (pg_name (i := 2) scLw.nd rfl (Or.inl rfl))
        (pss_cons (ps_par (i := 3) (j := 4) rfl scLw.nd rfl rfl (by decide) rfl rfl (pa_cons (pe_call GE hr5 rfl mgEd FE.kp bE .nil pass0 (pa_cons (pv 1) pa_nil)) (pa_cons (pe_call GE hr5 rfl mgEd FE.kp bE .nil pass0 (pa_cons (pv 1) pa_nil)) pa_nil)) (by rfl))
        (pss_cons (ps_if (PW.pt (pw_or (pt_cmpR op_ne (pe_call GM hr8 rfl mgMt FM.kp bM .nil pass0 (pa_cons (pv 3) (pa_cons (pv 4) pa_nil))) (pe_call GM hr8 rfl mgMt FM.kp bM .nil pass0 (pa_cons (pv 4) (pa_cons (pv 3) pa_nil))) (nomark _))
            (pw_or (pt_cmpR op_ne (pe_call GR hr8 rfl mgRd FR.kp bR .nil pass0 (pa_cons (pv 3) (pa_cons (pv 4) pa_nil))) (pe_call GR hr8 rfl mgRd FR.kp bR .nil pass0 (pa_cons (pv 4) (pa_cons (pv 3) pa_nil))) (nomark _))
            (pw_or1 (pt_not (pt_val (pe_call GL hr rfl mgLr FL.kp bL .nil pass0 (pa_cons (pv 3) (pa_cons (pv 4) pa_nil)))))))))
          (pss_one ps_never) pss_nil)
        (pss_cons (ps_set (i := 5) scLw.nd rfl (Or.inl rfl) (StX.pe_makeR ME GI hr2 (by rfl) T.mgE pass0 (pa_cons (pe_make MD GD hr3 (by rfl) T.mgD bD .nil pass0 (pa_cons pe_str (pa_cons pe_str pa_nil))) pa_nil)))
        (pss_cons (ps_if (PW.pt (pw_or (pt_cmpR op_ne (pe_call GM hr8 rfl mgMt FM.kp bM .nil pass0 (pa_cons (pe_op (op_addOwn (C := c.E) GA hr3 bA sA mA.at_ mA.fn) (pv 5) (pv 3)) (pa_cons (pv 4) pa_nil))) (pe_call GM hr8 rfl mgMt FM.kp bM .nil pass0 (pa_cons (pv 3) (pa_cons (pv 4) pa_nil))) (nomark _))
            (pw_or1 (pt_cmpR op_ne (pe_call GM hr8 rfl mgMt FM.kp bM .nil pass0 (pa_cons (pv 3) (pa_cons (pe_op (op_addOwn (C := c.E) GA hr3 bA sA mA.at_ mA.fn) (pv 5) (pv 4)) pa_nil))) (pe_call GM hr8 rfl mgMt FM.kp bM .nil pass0 (pa_cons (pv 3) (pa_cons (pv 4) pa_nil))) (nomark _)))))
          (pss_one ps_never) pss_nil)
        (pss_cons (ps_if (pt_cmpR op_ne (pe_call GR hr8 rfl mgRd FR.kp bR .nil pass0 (pa_cons (pe_op (op_addOwn (C := c.E) GA hr3 bA sA mA.at_ mA.fn) (pv 5) (pv 3)) (pa_cons (pv 4) pa_nil))) (pe_call GR hr8 rfl mgRd FR.kp bR .nil pass0 (pa_cons (pv 3) (pa_cons (pv 4) pa_nil))) (nomark _))
          (pss_one ps_never) pss_nil)
        (pss_one (ps_if (PW.pt (pw_or (pt_cmpR op_notBl (pe_call GM hr8 rfl mgMt FM.kp bM .nil pass0 (pa_cons (pv 3) (pa_cons (pv 5) pa_nil))) pe_bl (nomark _))
            (pw_or1 (pt_cmpR op_notBl (pe_call GM hr8 rfl mgMt FM.kp bM .nil pass0 (pa_cons (pv 5) (pa_cons (pe_op (op_addOwn (C := c.E) GA hr3 bA sA mA.at_ mA.fn) (pv 5) (pv 4)) pa_nil))) pe_bl (nomark _)))))
          (pss_one ps_never) pss_nil))))))))
      (pss_one (ps_ret pe_bl))), ?_⟩
    refine ⟨_, rfl, a, ns, rfl, hS, hlen, fun H1 lp la hp1 _ => ⟨6, rfl, by decide, by decide, ?_⟩⟩
    refine for_range (n := 6) (fun i σ H' => ∃ z2 z3 z4 z5, σ = [some (.ref a), some (.ref lp), z2, z3, z4, z5] ∧ PoolAt H' lp la) ⟨_, _, _, _, rfl, hp1⟩ ?_ (fun σ H' _ => k H')
    rintro i σ H2 hi ⟨z2, z3, z4, z5, rfl, hp2⟩
    refine ⟨_, rfl, lp, la, rfl, hp2, fun H3 xv dsx hx hxe hp3 c3 => ⟨_, rfl, lp, la, rfl, hp3, fun H4 yv dsy hy hye hp4 c4 => ⟨_, _, rfl, ?_⟩⟩⟩
    replace hx := hx.chg T.ok c4
    obtain ⟨m, m1, m2, m3, m4, m5, m6, g⟩ := ends_good hxe hye
    obtain ⟨lx1, lx2⟩ := ends_len hxe
    obtain ⟨ly1, ly2⟩ := ends_len hye
    clear c3 c4 hp3 hp2 hxe hye hS
    obtain ⟨xp, rfl⟩ := end_ref hx
    obtain ⟨yp, rfl⟩ := end_ref hy
    -- both ways about
    refine ⟨_, rfl, _, rfl, V.ref xp, V.ref yp, dsx, dsy, m, rfl, hx, hy, g.p0, fun H5 s5 => ?_⟩
    replace hx := hx.same T.ok s5
    replace hy := hy.same T.ok s5
    replace hp4 := hp4.same s5
    refine ⟨_, rfl, _, rfl, V.ref yp, V.ref xp, dsy, dsx, m1, rfl, hy, hx, g.p1, fun H6 s6 => ⟨rfl, _, rfl, ?_⟩⟩
    replace hx := hx.same T.ok s6
    replace hy := hy.same T.ok s6
    replace hp4 := hp4.same s6
    rw [← g.b1, decide_eq_true rfl]
    refine iteF ⟨_, rfl, _, rfl, V.ref xp, V.ref yp, dsx, dsy, m, rfl, hx, hy, g.p0, fun H7 s7 => ?_⟩
    replace hx := hx.same T.ok s7
    replace hy := hy.same T.ok s7
    replace hp4 := hp4.same s7
    refine ⟨_, rfl, _, rfl, V.ref yp, V.ref xp, dsy, dsx, m1, rfl, hy, hx, g.p1, fun H8 s8 => ?_⟩
    replace hx := hx.same T.ok s8
    replace hy := hy.same T.ok s8
    replace hp4 := hp4.same s8
    rw [← g.r1]
    refine ⟨scal_rnd m, _, rfl, ?_⟩
    rw [decide_eq_true rfl]
    refine iteF ⟨_, rfl, _, rfl, V.ref xp, V.ref yp, dsx, dsy, m, m2, rfl, hx, hy, g.p0, g.p2, g.b2, fun H9 s9 => ⟨_, rfl, iteF ?_⟩⟩
    replace hx := hx.same T.ok s9
    replace hy := hy.same T.ok s9
    replace hp4 := hp4.same s9
    clear s5 s6 s7 s8 s9
    -- the free one
    refine fun d ddx nd nddx ned => ⟨d, ddx, QM.free, rfl, upd_same, fun H10 hd keep => ⟨rfl, fun e edx ne nedx nee => ?_⟩⟩
    have s10 : Same H9 H10 := fun q o h => keep q o (ne_of_none h nd) (by rw [upd_ne (ne_of_none h nd), upd_ne (ne_of_none h nddx)]; exact h)
    have cm := made_chg (c := c) (C := c.E) ne nedx nee
    refine ⟨e, edx, [.ref d], [QM.free], rfl, upd_same, doors_chg T.ok (.cons ⟨d, ddx, rfl, hd⟩ .nil) cm, Nat.le_refl _, by decide, fun H11 hf keep2 => ⟨rfl, ?_⟩⟩
    have s11 : Same H9 H11 := fun q o h => by
      have h2 := s10 _ _ h
      exact keep2 q o (ne_of_none h2 ne) (cm.keep q o h2 (.inl (by simp)))
    replace hx := hx.same T.ok s11
    replace hy := hy.same T.ok s11
    replace hp4 := hp4.same s11
    clear s10 cm keep keep2 hd
    have lfx1 : 1 ≤ ([QM.free] ++ dsx).length := by simp
    have lfx3 : ([QM.free] ++ dsx).length ≤ 3 := by simp; omega
    have lfy1 : 1 ≤ ([QM.free] ++ dsy).length := by simp
    have lfy3 : ([QM.free] ++ dsy).length ≤ 3 := by simp; omega
    obtain ⟨dxa, ta, ia⟩ := end_ins hf
    obtain ⟨dxb, tb, ib⟩ := end_ins hx
    refine ⟨_, rfl, _, rfl, e, xp, dxa, dxb, _, _, rfl, rfl, ia, ib, V.ref e, V.ref xp, [QM.free], dsx, rfl, hf, hx, lfx1, lfx3, fun H12 fx hfx s12 => ?_⟩
    replace hx := hx.same T.ok s12
    replace hy := hy.same T.ok s12
    replace hf := hf.same T.ok s12
    replace hp4 := hp4.same s12
    refine ⟨_, rfl, fx, V.ref yp, ([QM.free] ++ dsx), dsy, m3, rfl, hfx, hy, g.p3, fun H13 s13 => ?_⟩
    replace hx := hx.same T.ok s13
    replace hy := hy.same T.ok s13
    replace hf := hf.same T.ok s13
    replace hp4 := hp4.same s13
    refine ⟨_, rfl, _, rfl, V.ref xp, V.ref yp, dsx, dsy, m, rfl, hx, hy, g.p0, fun H14 s14 => ⟨rfl, _, rfl, ?_⟩⟩
    replace hx := hx.same T.ok s14
    replace hy := hy.same T.ok s14
    replace hf := hf.same T.ok s14
    replace hp4 := hp4.same s14
    rw [g.b3, decide_eq_true rfl]
    obtain ⟨dxa, ta, ia⟩ := end_ins hf
    obtain ⟨dxb, tb, ib⟩ := end_ins hy
    refine iteF ⟨_, rfl, _, rfl, _, rfl, e, yp, dxa, dxb, _, _, rfl, rfl, ia, ib, V.ref e, V.ref yp, [QM.free], dsy, rfl, hf, hy, lfy1, lfy3, fun H15 fy hfy s15 => ?_⟩
    replace hx := hx.same T.ok s15
    replace hy := hy.same T.ok s15
    replace hf := hf.same T.ok s15
    replace hp4 := hp4.same s15
    refine ⟨V.ref xp, fy, dsx, ([QM.free] ++ dsy), m4, rfl, hx, hfy, g.p4, fun H16 s16 => ?_⟩
    replace hx := hx.same T.ok s16
    replace hy := hy.same T.ok s16
    replace hf := hf.same T.ok s16
    replace hp4 := hp4.same s16
    refine ⟨_, rfl, _, rfl, V.ref xp, V.ref yp, dsx, dsy, m, rfl, hx, hy, g.p0, fun H17 s17 => ⟨rfl, _, rfl, ?_⟩⟩
    replace hx := hx.same T.ok s17
    replace hy := hy.same T.ok s17
    replace hf := hf.same T.ok s17
    replace hp4 := hp4.same s17
    rw [g.b4, decide_eq_true rfl]
    obtain ⟨dxa, ta, ia⟩ := end_ins hf
    obtain ⟨dxb, tb, ib⟩ := end_ins hx
    refine iteF ⟨_, rfl, _, rfl, e, xp, dxa, dxb, _, _, rfl, rfl, ia, ib, V.ref e, V.ref xp, [QM.free], dsx, rfl, hf, hx, lfx1, lfx3, fun H18 fx2 hfx2 s18 => ?_⟩
    replace hx := hx.same T.ok s18
    replace hy := hy.same T.ok s18
    replace hf := hf.same T.ok s18
    replace hp4 := hp4.same s18
    refine ⟨_, rfl, fx2, V.ref yp, ([QM.free] ++ dsx), dsy, m3, rfl, hfx2, hy, g.p3, fun H19 s19 => ?_⟩
    replace hx := hx.same T.ok s19
    replace hy := hy.same T.ok s19
    replace hf := hf.same T.ok s19
    replace hp4 := hp4.same s19
    refine ⟨_, rfl, _, rfl, V.ref xp, V.ref yp, dsx, dsy, m, rfl, hx, hy, g.p0, fun H20 s20 => ?_⟩
    replace hx := hx.same T.ok s20
    replace hy := hy.same T.ok s20
    replace hf := hf.same T.ok s20
    replace hp4 := hp4.same s20
    rw [g.r3]
    refine ⟨scal_rnd m, _, rfl, ?_⟩
    rw [decide_eq_true rfl]
    refine iteF ⟨_, rfl, _, rfl, V.ref xp, V.ref e, dsx, [QM.free], m5, rfl, hx, hf, g.p5, fun H21 s21 => ?_⟩
    replace hx := hx.same T.ok s21
    replace hy := hy.same T.ok s21
    replace hf := hf.same T.ok s21
    replace hp4 := hp4.same s21
    rw [g.b5]
    refine ⟨_, _, rfl, rfl, _, rfl, ?_⟩
    rw [decide_eq_true rfl]
    obtain ⟨dxa, ta, ia⟩ := end_ins hf
    obtain ⟨dxb, tb, ib⟩ := end_ins hy
    refine iteF ⟨_, rfl, _, rfl, _, rfl, e, yp, dxa, dxb, _, _, rfl, rfl, ia, ib, V.ref e, V.ref yp, [QM.free], dsy, rfl, hf, hy, lfy1, lfy3, fun H22 fy2 hfy2 s22 => ?_⟩
    replace hf := hf.same T.ok s22
    replace hp4 := hp4.same s22
    refine ⟨V.ref e, fy2, [QM.free], ([QM.free] ++ dsy), m6, rfl, hf, hfy2, g.p6, fun H23 s23 => ?_⟩
    rw [g.b6]
    refine ⟨_, _, rfl, rfl, _, rfl, ?_⟩
    rw [decide_eq_true rfl]
    exact iteF ⟨_, _, _, _, rfl, hp4.same s23⟩
end
end QD
set_option Elab.async false
set_option linter.all false
set_option maxRecDepth 100000
set_option maxHeartbeats 8000000
namespace QD
open PySem PySem.Spec PyProof.Rows L2
/-! ### what the top has written -/
theorem kit_self {K : PySem.W.Frag} {C : Addr} : PySem.W.kitOne K (.ref C) (.ref C) = some true := by
  unfold PySem.W.kitOne
  rw [if_pos]
  exact beq_self_eq_true _
theorem tup_at {K : PySem.W.Frag} {a : Addr} {od : Option Addr} {its : Array Value} {n : Nat} {sl : Array (Option Value)} {xs : List V} (e : K.lookup a = some ⟨.type "tuple", od, .seq its n, sl⟩) (z : its.size ≤ 1000) (v : Vals xs its.toList) : ∀ H, SqT K H a xs :=
  fun H => .inr ⟨_, its, n, e, rfl, rfl, Nat.le_of_lt (small1000 z), v⟩
theorem all_mk {l : PySem.W.OpenLaw} {w : World} {K : PySem.W.Frag} {h : Heap} {mg : Str → Option Value} {fa : Addr}
    {cD cE cP cS cM : Addr}
    {f_fil : Addr} {od_fil an_fil : Option Addr} {sl_fil : Array (Option Value)} {oc_fil kV_fil dc_fil pm_fil cd_fil ct_fil : Value}
    {f_drI : Addr} {od_drI an_drI : Option Addr} {sl_drI : Array (Option Value)} {oc_drI kV_drI dc_drI pm_drI cd_drI ct_drI : Value}
    {tD : Addr} {ocT : Value} {odT : Option Addr} {itT : Array Value} {nT : Nat} {slT : Array (Option Value)}
    {f_gv : Addr} {od_gv an_gv : Option Addr} {sl_gv : Array (Option Value)} {oc_gv kV_gv dc_gv pm_gv cd_gv ct_gv : Value}
    {p_gv : Addr} {rs_gv : List Value}
    {f_lt : Addr} {od_lt an_lt : Option Addr} {sl_lt : Array (Option Value)} {oc_lt kV_lt dc_lt pm_lt cd_lt ct_lt : Value}
    {p_lt : Addr} {rs_lt : List Value}
    {f_six : Addr} {od_six an_six : Option Addr} {sl_six : Array (Option Value)} {oc_six kV_six dc_six pm_six cd_six ct_six : Value}
    {p_six : Addr} {rs_six : List Value}
    {f_enI : Addr} {od_enI an_enI : Option Addr} {sl_enI : Array (Option Value)} {oc_enI kV_enI dc_enI pm_enI cd_enI ct_enI : Value}
    {f_ds : Addr} {od_ds an_ds : Option Addr} {sl_ds : Array (Option Value)} {oc_ds kV_ds dc_ds pm_ds cd_ds ct_ds : Value}
    {p_ds : Addr} {rs_ds : List Value}
    {f_ad : Addr} {od_ad an_ad : Option Addr} {sl_ad : Array (Option Value)} {oc_ad kV_ad dc_ad pm_ad cd_ad ct_ad : Value}
    {f_paI : Addr} {od_paI an_paI : Option Addr} {sl_paI : Array (Option Value)} {oc_paI kV_paI dc_paI pm_paI cd_paI ct_paI : Value}
    {f_paS : Addr} {od_paS an_paS : Option Addr} {sl_paS : Array (Option Value)} {oc_paS kV_paS dc_paS pm_paS cd_paS ct_paS : Value}
    {f_paC : Addr} {od_paC an_paC : Option Addr} {sl_paC : Array (Option Value)} {oc_paC kV_paC dc_paC pm_paC cd_paC ct_paC : Value}
    {f_siI : Addr} {od_siI an_siI : Option Addr} {sl_siI : Array (Option Value)} {oc_siI kV_siI dc_siI pm_siI cd_siI ct_siI : Value}
    {f_siS : Addr} {od_siS an_siS : Option Addr} {sl_siS : Array (Option Value)} {oc_siS kV_siS dc_siS pm_siS cd_siS ct_siS : Value}
    {f_siL : Addr} {od_siL an_siL : Option Addr} {sl_siL : Array (Option Value)} {oc_siL kV_siL dc_siL pm_siL cd_siL ct_siL : Value}
    {f_siN : Addr} {od_siN an_siN : Option Addr} {sl_siN : Array (Option Value)} {oc_siN kV_siN dc_siN pm_siN cd_siN ct_siN : Value}
    {f_meI : Addr} {od_meI an_meI : Option Addr} {sl_meI : Array (Option Value)} {oc_meI kV_meI dc_meI pm_meI cd_meI ct_meI : Value}
    {f_meS : Addr} {od_meS an_meS : Option Addr} {sl_meS : Array (Option Value)} {oc_meS kV_meS dc_meS pm_meS cd_meS ct_meS : Value}
    {f_meK : Addr} {od_meK an_meK : Option Addr} {sl_meK : Array (Option Value)} {oc_meK kV_meK dc_meK pm_meK cd_meK ct_meK : Value}
    {f_meH : Addr} {od_meH an_meH : Option Addr} {sl_meH : Array (Option Value)} {oc_meH kV_meH dc_meH pm_meH cd_meH ct_meH : Value}
    {f_meO : Addr} {od_meO an_meO : Option Addr} {sl_meO : Array (Option Value)} {oc_meO kV_meO dc_meO pm_meO cd_meO ct_meO : Value}
    {f_meN : Addr} {od_meN an_meN : Option Addr} {sl_meN : Array (Option Value)} {oc_meN kV_meN dc_meN pm_meN cd_meN ct_meN : Value}
    {f_meR : Addr} {od_meR an_meR : Option Addr} {sl_meR : Array (Option Value)} {oc_meR kV_meR dc_meR pm_meR cd_meR ct_meR : Value}
    {f_pl : Addr} {od_pl an_pl : Option Addr} {sl_pl : Array (Option Value)} {oc_pl kV_pl dc_pl pm_pl cd_pl ct_pl : Value}
    {f_mts : Addr} {od_mts an_mts : Option Addr} {sl_mts : Array (Option Value)} {oc_mts kV_mts dc_mts pm_mts cd_mts ct_mts : Value}
    {f_rds : Addr} {od_rds an_rds : Option Addr} {sl_rds : Array (Option Value)} {oc_rds kV_rds dc_rds pm_rds cd_rds ct_rds : Value}
    {f_beg : Addr} {od_beg an_beg : Option Addr} {sl_beg : Array (Option Value)} {oc_beg kV_beg dc_beg pm_beg cd_beg ct_beg : Value}
    {f_mix : Addr} {od_mix an_mix : Option Addr} {sl_mix : Array (Option Value)} {oc_mix kV_mix dc_mix pm_mix cd_mix ct_mix : Value}
    {f_drw : Addr} {od_drw an_drw : Option Addr} {sl_drw : Array (Option Value)} {oc_drw kV_drw dc_drw pm_drw cd_drw ct_drw : Value}
    {f_mkE : Addr} {od_mkE an_mkE : Option Addr} {sl_mkE : Array (Option Value)} {oc_mkE kV_mkE dc_mkE pm_mkE cd_mkE ct_mkE : Value}
    {f_end : Addr} {od_end an_end : Option Addr} {sl_end : Array (Option Value)} {oc_end kV_end dc_end pm_end cd_end ct_end : Value}
    {f_rt : Addr} {od_rt an_rt : Option Addr} {sl_rt : Array (Option Value)} {oc_rt kV_rt dc_rt pm_rt cd_rt ct_rt : Value}
    {f_law : Addr} {od_law an_law : Option Addr} {sl_law : Array (Option Value)} {oc_law kV_law dc_law pm_law cd_law ct_law : Value}
    {a_hou : Addr} {od_hou : Option Addr} {it_hou : Array Value} {n_hou : Nat} {sl_hou : Array (Option Value)}
    {a_plc : Addr} {od_plc : Option Addr} {it_plc : Array Value} {n_plc : Nat} {sl_plc : Array (Option Value)}
    {a_map : Addr} {od_map : Option Addr} {it_map : Array Value} {n_map : Nat} {sl_map : Array (Option Value)}
    {a_flt : Addr} {od_flt : Option Addr} {it_flt : Array Value} {n_flt : Nat} {sl_flt : Array (Option Value)}
    {mt : Tok} (X : K.In h) (G : h.Ns mainGlobals mg) (hfa : mg "law" = some (.ref fa))
    (aD : PySem.W.nsIn K mainGlobals "Door" = some (some (.ref cD)))
    (aE : PySem.W.nsIn K mainGlobals "End" = some (some (.ref cE)))
    (aP : PySem.W.nsIn K mainGlobals "Passage" = some (some (.ref cP)))
    (aS : PySem.W.nsIn K mainGlobals "Side" = some (some (.ref cS)))
    (aM : PySem.W.nsIn K mainGlobals "Meeting" = some (some (.ref cM)))
    (a_fil : PySem.W.nsIn K mainGlobals "is_filter" = some (some (.ref f_fil)))
    (l_fil : K.lookup f_fil = some ⟨oc_fil, od_fil, .func (PySem.W.fnOf "is_filter" "is_filter" (defArgs sIsFilter) (defBody sIsFilter) (defScope sIsFilter) .none kV_fil dc_fil pm_fil an_fil cd_fil ct_fil), sl_fil⟩)
    (c_fil : PySem.W.codeIn K cd_fil "is_filter" = true)
    (k_fil : PySem.W.keepIn K (.ref f_fil) = true)
    (a_drI : PySem.W.findIn K (.ref cD) "__init__" = some (some (.ref f_drI)))
    (i_drI : PySem.W.isFn K (.ref f_drI) = true)
    (l_drI : K.lookup f_drI = some ⟨oc_drI, od_drI, .func (PySem.W.fnOf "__init__" "Door.__init__" (defArgs sDoorI) (defBody sDoorI) (defScope sDoorI) (.ref tD) kV_drI dc_drI pm_drI an_drI cd_drI ct_drI), sl_drI⟩)
    (c_drI : PySem.W.codeIn K cd_drI "Door.__init__" = true)
    (k_drI : PySem.W.keepIn K (.ref f_drI) = true)
    (lT : K.lookup tD = some ⟨ocT, odT, .seq itT nT, slT⟩)
    (vT : Vals [.str "one", .str "any"] itT.toList)
    (a_gv : PySem.W.findIn K (.ref cD) "gives" = some (some (.ref p_gv)))
    (g_gv : PySem.W.specialIn K (.ref p_gv) "__get__" = some (some (.builtin "property.__get__")))
    (t_gv : PySem.W.takesIn K (.ref p_gv) = some true)
    (r_gv : PySem.W.recIn K p_gv "property" = some (.ref f_gv :: rs_gv))
    (l_gv : K.lookup f_gv = some ⟨oc_gv, od_gv, .func (PySem.W.fnOf "gives" "Door.gives" (defArgs sGives) (defBody sGives) (defScope sGives) .none kV_gv dc_gv pm_gv an_gv cd_gv ct_gv), sl_gv⟩)
    (c_gv : PySem.W.codeIn K cd_gv "Door.gives" = true)
    (k_gv : PySem.W.keepIn K (.ref f_gv) = true)
    (a_lt : PySem.W.findIn K (.ref cD) "lets" = some (some (.ref p_lt)))
    (g_lt : PySem.W.specialIn K (.ref p_lt) "__get__" = some (some (.builtin "property.__get__")))
    (t_lt : PySem.W.takesIn K (.ref p_lt) = some true)
    (r_lt : PySem.W.recIn K p_lt "property" = some (.ref f_lt :: rs_lt))
    (l_lt : K.lookup f_lt = some ⟨oc_lt, od_lt, .func (PySem.W.fnOf "lets" "Door.lets" (defArgs sLets) (defBody sLets) (defScope sLets) .none kV_lt dc_lt pm_lt an_lt cd_lt ct_lt), sl_lt⟩)
    (c_lt : PySem.W.codeIn K cd_lt "Door.lets" = true)
    (k_lt : PySem.W.keepIn K (.ref f_lt) = true)
    (e_six : PySem.W.readsIn K cD (.type "type") = true)
    (g_six : PySem.W.specialIn K (.ref cD) "__getattribute__" = some (some (.builtin "type.__getattribute__")))
    (a_six : PySem.W.findCls K (.ref cD) (.type "type") "six" = some (.get (.builtin "staticmethod.__get__") (.ref p_six) .none (.ref cD)))
    (r_six : PySem.W.recIn K p_six "staticmethod" = some (.ref f_six :: rs_six))
    (l_six : K.lookup f_six = some ⟨oc_six, od_six, .func (PySem.W.fnOf "six" "Door.six" (defArgs sSix) (defBody sSix) (defScope sSix) .none kV_six dc_six pm_six an_six cd_six ct_six), sl_six⟩)
    (c_six : PySem.W.codeIn K cd_six "Door.six" = true)
    (k_six : PySem.W.keepIn K (.ref f_six) = true)
    (a_enI : PySem.W.findIn K (.ref cE) "__init__" = some (some (.ref f_enI)))
    (i_enI : PySem.W.isFn K (.ref f_enI) = true)
    (l_enI : K.lookup f_enI = some ⟨oc_enI, od_enI, .func (PySem.W.fnOf "__init__" "End.__init__" (defArgs sEndI) (defBody sEndI) (defScope sEndI) .none kV_enI dc_enI pm_enI an_enI cd_enI ct_enI), sl_enI⟩)
    (c_enI : PySem.W.codeIn K cd_enI "End.__init__" = true)
    (k_enI : PySem.W.keepIn K (.ref f_enI) = true)
    (a_ds : PySem.W.findIn K (.ref cE) "doors" = some (some (.ref p_ds)))
    (g_ds : PySem.W.specialIn K (.ref p_ds) "__get__" = some (some (.builtin "property.__get__")))
    (t_ds : PySem.W.takesIn K (.ref p_ds) = some true)
    (r_ds : PySem.W.recIn K p_ds "property" = some (.ref f_ds :: rs_ds))
    (l_ds : K.lookup f_ds = some ⟨oc_ds, od_ds, .func (PySem.W.fnOf "doors" "End.doors" (defArgs sDoors) (defBody sDoors) (defScope sDoors) .none kV_ds dc_ds pm_ds an_ds cd_ds ct_ds), sl_ds⟩)
    (c_ds : PySem.W.codeIn K cd_ds "End.doors" = true)
    (k_ds : PySem.W.keepIn K (.ref f_ds) = true)
    (a_ad : PySem.W.findIn K (.ref cE) "__add__" = some (some (.ref f_ad)))
    (i_ad : PySem.W.isFn K (.ref f_ad) = true)
    (l_ad : K.lookup f_ad = some ⟨oc_ad, od_ad, .func (PySem.W.fnOf "__add__" "End.__add__" (defArgs sAdd) (defBody sAdd) (defScope sAdd) .none kV_ad dc_ad pm_ad an_ad cd_ad ct_ad), sl_ad⟩)
    (c_ad : PySem.W.codeIn K cd_ad "End.__add__" = true)
    (k_ad : PySem.W.keepIn K (.ref f_ad) = true)
    (a_paI : PySem.W.findIn K (.ref cP) "__init__" = some (some (.ref f_paI)))
    (i_paI : PySem.W.isFn K (.ref f_paI) = true)
    (l_paI : K.lookup f_paI = some ⟨oc_paI, od_paI, .func (PySem.W.fnOf "__init__" "Passage.__init__" (defArgs sPasI) (defBody sPasI) (defScope sPasI) .none kV_paI dc_paI pm_paI an_paI cd_paI ct_paI), sl_paI⟩)
    (c_paI : PySem.W.codeIn K cd_paI "Passage.__init__" = true)
    (k_paI : PySem.W.keepIn K (.ref f_paI) = true)
    (a_paS : PySem.W.findIn K (.ref cP) "sent" = some (some (.ref f_paS)))
    (i_paS : PySem.W.isFn K (.ref f_paS) = true)
    (l_paS : K.lookup f_paS = some ⟨oc_paS, od_paS, .func (PySem.W.fnOf "sent" "Passage.sent" (defArgs sPasS) (defBody sPasS) (defScope sPasS) .none kV_paS dc_paS pm_paS an_paS cd_paS ct_paS), sl_paS⟩)
    (c_paS : PySem.W.codeIn K cd_paS "Passage.sent" = true)
    (k_paS : PySem.W.keepIn K (.ref f_paS) = true)
    (a_paC : PySem.W.findIn K (.ref cP) "came" = some (some (.ref f_paC)))
    (i_paC : PySem.W.isFn K (.ref f_paC) = true)
    (l_paC : K.lookup f_paC = some ⟨oc_paC, od_paC, .func (PySem.W.fnOf "came" "Passage.came" (defArgs sPasC) (defBody sPasC) (defScope sPasC) .none kV_paC dc_paC pm_paC an_paC cd_paC ct_paC), sl_paC⟩)
    (c_paC : PySem.W.codeIn K cd_paC "Passage.came" = true)
    (k_paC : PySem.W.keepIn K (.ref f_paC) = true)
    (a_siI : PySem.W.findIn K (.ref cS) "__init__" = some (some (.ref f_siI)))
    (i_siI : PySem.W.isFn K (.ref f_siI) = true)
    (l_siI : K.lookup f_siI = some ⟨oc_siI, od_siI, .func (PySem.W.fnOf "__init__" "Side.__init__" (defArgs sSideI) (defBody sSideI) (defScope sSideI) .none kV_siI dc_siI pm_siI an_siI cd_siI ct_siI), sl_siI⟩)
    (c_siI : PySem.W.codeIn K cd_siI "Side.__init__" = true)
    (k_siI : PySem.W.keepIn K (.ref f_siI) = true)
    (a_siS : PySem.W.findIn K (.ref cS) "sent" = some (some (.ref f_siS)))
    (i_siS : PySem.W.isFn K (.ref f_siS) = true)
    (l_siS : K.lookup f_siS = some ⟨oc_siS, od_siS, .func (PySem.W.fnOf "sent" "Side.sent" (defArgs sSideS) (defBody sSideS) (defScope sSideS) .none kV_siS dc_siS pm_siS an_siS cd_siS ct_siS), sl_siS⟩)
    (c_siS : PySem.W.codeIn K cd_siS "Side.sent" = true)
    (k_siS : PySem.W.keepIn K (.ref f_siS) = true)
    (a_siL : PySem.W.findIn K (.ref cS) "lets_in" = some (some (.ref f_siL)))
    (i_siL : PySem.W.isFn K (.ref f_siL) = true)
    (l_siL : K.lookup f_siL = some ⟨oc_siL, od_siL, .func (PySem.W.fnOf "lets_in" "Side.lets_in" (defArgs sSideL) (defBody sSideL) (defScope sSideL) .none kV_siL dc_siL pm_siL an_siL cd_siL ct_siL), sl_siL⟩)
    (c_siL : PySem.W.codeIn K cd_siL "Side.lets_in" = true)
    (k_siL : PySem.W.keepIn K (.ref f_siL) = true)
    (a_siN : PySem.W.findIn K (.ref cS) "learns" = some (some (.ref f_siN)))
    (i_siN : PySem.W.isFn K (.ref f_siN) = true)
    (l_siN : K.lookup f_siN = some ⟨oc_siN, od_siN, .func (PySem.W.fnOf "learns" "Side.learns" (defArgs sSideN) (defBody sSideN) (defScope sSideN) .none kV_siN dc_siN pm_siN an_siN cd_siN ct_siN), sl_siN⟩)
    (c_siN : PySem.W.codeIn K cd_siN "Side.learns" = true)
    (k_siN : PySem.W.keepIn K (.ref f_siN) = true)
    (a_meI : PySem.W.findIn K (.ref cM) "__init__" = some (some (.ref f_meI)))
    (i_meI : PySem.W.isFn K (.ref f_meI) = true)
    (l_meI : K.lookup f_meI = some ⟨oc_meI, od_meI, .func (PySem.W.fnOf "__init__" "Meeting.__init__" (defArgs sMeetI) (defBody sMeetI) (defScope sMeetI) .none kV_meI dc_meI pm_meI an_meI cd_meI ct_meI), sl_meI⟩)
    (c_meI : PySem.W.codeIn K cd_meI "Meeting.__init__" = true)
    (k_meI : PySem.W.keepIn K (.ref f_meI) = true)
    (a_meS : PySem.W.findIn K (.ref cM) "side" = some (some (.ref f_meS)))
    (i_meS : PySem.W.isFn K (.ref f_meS) = true)
    (l_meS : K.lookup f_meS = some ⟨oc_meS, od_meS, .func (PySem.W.fnOf "side" "Meeting.side" (defArgs sMeetS) (defBody sMeetS) (defScope sMeetS) .none kV_meS dc_meS pm_meS an_meS cd_meS ct_meS), sl_meS⟩)
    (c_meS : PySem.W.codeIn K cd_meS "Meeting.side" = true)
    (k_meS : PySem.W.keepIn K (.ref f_meS) = true)
    (a_meK : PySem.W.findIn K (.ref cM) "known" = some (some (.ref f_meK)))
    (i_meK : PySem.W.isFn K (.ref f_meK) = true)
    (l_meK : K.lookup f_meK = some ⟨oc_meK, od_meK, .func (PySem.W.fnOf "known" "Meeting.known" (defArgs sMeetK) (defBody sMeetK) (defScope sMeetK) .none kV_meK dc_meK pm_meK an_meK cd_meK ct_meK), sl_meK⟩)
    (c_meK : PySem.W.codeIn K cd_meK "Meeting.known" = true)
    (k_meK : PySem.W.keepIn K (.ref f_meK) = true)
    (a_meH : PySem.W.findIn K (.ref cM) "heard" = some (some (.ref f_meH)))
    (i_meH : PySem.W.isFn K (.ref f_meH) = true)
    (l_meH : K.lookup f_meH = some ⟨oc_meH, od_meH, .func (PySem.W.fnOf "heard" "Meeting.heard" (defArgs sMeetH) (defBody sMeetH) (defScope sMeetH) .none kV_meH dc_meH pm_meH an_meH cd_meH ct_meH), sl_meH⟩)
    (c_meH : PySem.W.codeIn K cd_meH "Meeting.heard" = true)
    (k_meH : PySem.W.keepIn K (.ref f_meH) = true)
    (a_meO : PySem.W.findIn K (.ref cM) "is_over" = some (some (.ref f_meO)))
    (i_meO : PySem.W.isFn K (.ref f_meO) = true)
    (l_meO : K.lookup f_meO = some ⟨oc_meO, od_meO, .func (PySem.W.fnOf "is_over" "Meeting.is_over" (defArgs sMeetO) (defBody sMeetO) (defScope sMeetO) .none kV_meO dc_meO pm_meO an_meO cd_meO ct_meO), sl_meO⟩)
    (c_meO : PySem.W.codeIn K cd_meO "Meeting.is_over" = true)
    (k_meO : PySem.W.keepIn K (.ref f_meO) = true)
    (a_meN : PySem.W.findIn K (.ref cM) "__len__" = some (some (.ref f_meN)))
    (i_meN : PySem.W.isFn K (.ref f_meN) = true)
    (l_meN : K.lookup f_meN = some ⟨oc_meN, od_meN, .func (PySem.W.fnOf "__len__" "Meeting.__len__" (defArgs sMeetN) (defBody sMeetN) (defScope sMeetN) .none kV_meN dc_meN pm_meN an_meN cd_meN ct_meN), sl_meN⟩)
    (c_meN : PySem.W.codeIn K cd_meN "Meeting.__len__" = true)
    (k_meN : PySem.W.keepIn K (.ref f_meN) = true)
    (a_meR : PySem.W.findIn K (.ref cM) "round" = some (some (.ref f_meR)))
    (i_meR : PySem.W.isFn K (.ref f_meR) = true)
    (l_meR : K.lookup f_meR = some ⟨oc_meR, od_meR, .func (PySem.W.fnOf "round" "Meeting.round" (defArgs sMeetR) (defBody sMeetR) (defScope sMeetR) .none kV_meR dc_meR pm_meR an_meR cd_meR ct_meR), sl_meR⟩)
    (c_meR : PySem.W.codeIn K cd_meR "Meeting.round" = true)
    (k_meR : PySem.W.keepIn K (.ref f_meR) = true)
    (a_pl : PySem.W.nsIn K mainGlobals "played" = some (some (.ref f_pl)))
    (l_pl : K.lookup f_pl = some ⟨oc_pl, od_pl, .func (PySem.W.fnOf "played" "played" (defArgs sPlayed) (defBody sPlayed) (defScope sPlayed) .none kV_pl dc_pl pm_pl an_pl cd_pl ct_pl), sl_pl⟩)
    (c_pl : PySem.W.codeIn K cd_pl "played" = true)
    (k_pl : PySem.W.keepIn K (.ref f_pl) = true)
    (a_mts : PySem.W.nsIn K mainGlobals "meets" = some (some (.ref f_mts)))
    (l_mts : K.lookup f_mts = some ⟨oc_mts, od_mts, .func (PySem.W.fnOf "meets" "meets" (defArgs sMeets) (defBody sMeets) (defScope sMeets) .none kV_mts dc_mts pm_mts an_mts cd_mts ct_mts), sl_mts⟩)
    (c_mts : PySem.W.codeIn K cd_mts "meets" = true)
    (k_mts : PySem.W.keepIn K (.ref f_mts) = true)
    (a_rds : PySem.W.nsIn K mainGlobals "rounds" = some (some (.ref f_rds)))
    (l_rds : K.lookup f_rds = some ⟨oc_rds, od_rds, .func (PySem.W.fnOf "rounds" "rounds" (defArgs sRounds) (defBody sRounds) (defScope sRounds) .none kV_rds dc_rds pm_rds an_rds cd_rds ct_rds), sl_rds⟩)
    (c_rds : PySem.W.codeIn K cd_rds "rounds" = true)
    (k_rds : PySem.W.keepIn K (.ref f_rds) = true)
    (a_beg : PySem.W.nsIn K mainGlobals "_law_begin" = some (some (.ref f_beg)))
    (l_beg : K.lookup f_beg = some ⟨oc_beg, od_beg, .func (PySem.W.fnOf "_law_begin" "_law_begin" (defArgs sBegin) (defBody sBegin) (defScope sBegin) .none kV_beg dc_beg pm_beg an_beg cd_beg ct_beg), sl_beg⟩)
    (c_beg : PySem.W.codeIn K cd_beg "_law_begin" = true)
    (k_beg : PySem.W.keepIn K (.ref f_beg) = true)
    (a_mix : PySem.W.nsIn K mainGlobals "_law_mixed" = some (some (.ref f_mix)))
    (l_mix : K.lookup f_mix = some ⟨oc_mix, od_mix, .func (PySem.W.fnOf "_law_mixed" "_law_mixed" (defArgs sMixed) (defBody sMixed) (defScope sMixed) .none kV_mix dc_mix pm_mix an_mix cd_mix ct_mix), sl_mix⟩)
    (c_mix : PySem.W.codeIn K cd_mix "_law_mixed" = true)
    (k_mix : PySem.W.keepIn K (.ref f_mix) = true)
    (a_drw : PySem.W.nsIn K mainGlobals "_law_draw" = some (some (.ref f_drw)))
    (l_drw : K.lookup f_drw = some ⟨oc_drw, od_drw, .func (PySem.W.fnOf "_law_draw" "_law_draw" (defArgs sDraw) (defBody sDraw) (defScope sDraw) .none kV_drw dc_drw pm_drw an_drw cd_drw ct_drw), sl_drw⟩)
    (c_drw : PySem.W.codeIn K cd_drw "_law_draw" = true)
    (k_drw : PySem.W.keepIn K (.ref f_drw) = true)
    (a_mkE : PySem.W.nsIn K mainGlobals "_law_make_end" = some (some (.ref f_mkE)))
    (l_mkE : K.lookup f_mkE = some ⟨oc_mkE, od_mkE, .func (PySem.W.fnOf "_law_make_end" "_law_make_end" (defArgs sMkEnd) (defBody sMkEnd) (defScope sMkEnd) .none kV_mkE dc_mkE pm_mkE an_mkE cd_mkE ct_mkE), sl_mkE⟩)
    (c_mkE : PySem.W.codeIn K cd_mkE "_law_make_end" = true)
    (k_mkE : PySem.W.keepIn K (.ref f_mkE) = true)
    (a_end : PySem.W.nsIn K mainGlobals "_law_end" = some (some (.ref f_end)))
    (l_end : K.lookup f_end = some ⟨oc_end, od_end, .func (PySem.W.fnOf "_law_end" "_law_end" (defArgs sEnd) (defBody sEnd) (defScope sEnd) .none kV_end dc_end pm_end an_end cd_end ct_end), sl_end⟩)
    (c_end : PySem.W.codeIn K cd_end "_law_end" = true)
    (k_end : PySem.W.keepIn K (.ref f_end) = true)
    (a_rt : PySem.W.nsIn K mainGlobals "_law_letters_right" = some (some (.ref f_rt)))
    (l_rt : K.lookup f_rt = some ⟨oc_rt, od_rt, .func (PySem.W.fnOf "_law_letters_right" "_law_letters_right" (defArgs sRight) (defBody sRight) (defScope sRight) .none kV_rt dc_rt pm_rt an_rt cd_rt ct_rt), sl_rt⟩)
    (c_rt : PySem.W.codeIn K cd_rt "_law_letters_right" = true)
    (k_rt : PySem.W.keepIn K (.ref f_rt) = true)
    (a_law : PySem.W.nsIn K mainGlobals "law" = some (some (.ref f_law)))
    (l_law : K.lookup f_law = some ⟨oc_law, od_law, .func (PySem.W.fnOf "law" "law" (defArgs sLaw) (defBody sLaw) (defScope sLaw) .none kV_law dc_law pm_law an_law cd_law ct_law), sl_law⟩)
    (c_law : PySem.W.codeIn K cd_law "law" = true)
    (k_law : PySem.W.keepIn K (.ref f_law) = true)
    (pgD : PySem.W.plainGet K cD Str.empty = true)
    (hdD : PySem.W.hasDictIn K cD = true)
    (poD : PySem.W.plainOver K cD = true)
    (saD : PySem.W.findIn K (.ref cD) "__setattr__" = some (some (.builtin "object.__setattr__")))
    (mkD : PySem.W.makesIn K cD = true)
    (kcD : PySem.W.keepIn K (.ref cD) = true)
    (nD_kept_gives : PySem.W.findIn K (.ref cD) "kept_gives" = some none)
    (nD_kept_lets : PySem.W.findIn K (.ref cD) "kept_lets" = some none)
    (pgE : PySem.W.plainGet K cE Str.empty = true)
    (hdE : PySem.W.hasDictIn K cE = true)
    (poE : PySem.W.plainOver K cE = true)
    (saE : PySem.W.findIn K (.ref cE) "__setattr__" = some (some (.builtin "object.__setattr__")))
    (mkE : PySem.W.makesIn K cE = true)
    (kcE : PySem.W.keepIn K (.ref cE) = true)
    (nE_kept_doors : PySem.W.findIn K (.ref cE) "kept_doors" = some none)
    (pgP : PySem.W.plainGet K cP Str.empty = true)
    (hdP : PySem.W.hasDictIn K cP = true)
    (poP : PySem.W.plainOver K cP = true)
    (saP : PySem.W.findIn K (.ref cP) "__setattr__" = some (some (.builtin "object.__setattr__")))
    (mkP : PySem.W.makesIn K cP = true)
    (kcP : PySem.W.keepIn K (.ref cP) = true)
    (nP_door : PySem.W.findIn K (.ref cP) "door" = some none)
    (nP_inner_of : PySem.W.findIn K (.ref cP) "inner_of" = some none)
    (nP_by_key : PySem.W.findIn K (.ref cP) "by_key" = some none)
    (nP_sent_to : PySem.W.findIn K (.ref cP) "sent_to" = some none)
    (pgS : PySem.W.plainGet K cS Str.empty = true)
    (hdS : PySem.W.hasDictIn K cS = true)
    (poS : PySem.W.plainOver K cS = true)
    (saS : PySem.W.findIn K (.ref cS) "__setattr__" = some (some (.builtin "object.__setattr__")))
    (mkS : PySem.W.makesIn K cS = true)
    (kcS : PySem.W.keepIn K (.ref cS) = true)
    (nS_place : PySem.W.findIn K (.ref cS) "place" = some none)
    (nS_passages : PySem.W.findIn K (.ref cS) "passages" = some none)
    (nS_addresses : PySem.W.findIn K (.ref cS) "addresses" = some none)
    (nS_has_heard : PySem.W.findIn K (.ref cS) "has_heard" = some none)
    (pgM : PySem.W.plainGet K cM Str.empty = true)
    (hdM : PySem.W.hasDictIn K cM = true)
    (poM : PySem.W.plainOver K cM = true)
    (saM : PySem.W.findIn K (.ref cM) "__setattr__" = some (some (.builtin "object.__setattr__")))
    (mkM : PySem.W.makesIn K cM = true)
    (kcM : PySem.W.keepIn K (.ref cM) = true)
    (nM_sides : PySem.W.findIn K (.ref cM) "sides" = some none)
    (nM_own_rounds : PySem.W.findIn K (.ref cM) "own_rounds" = some none)
    (nM_is_stuck : PySem.W.findIn K (.ref cM) "is_stuck" = some none)
    (haD : PySem.W.findIn K (.ref cD) "__class__" = some (some (.builtin "object.__class__")))
    (hmD : PySem.W.mroIn K cD (.type "object") = some true)
    (haE : PySem.W.findIn K (.ref cE) "__class__" = some (some (.builtin "object.__class__")))
    (hmE : PySem.W.mroIn K cE (.type "object") = some true)
    (hn : PySem.W.specialIn K (.builtin "object.__class__") "__get__" = some (some (.builtin "getset_descriptor.__get__")))
    (tk : PySem.W.takesIn K (.builtin "object.__class__") = some true)
    (sf : PySem.W.selfFirst K cE = true)
    (z_len : PySem.W.nsIn K mainGlobals "len" = some none)
    (z_isinstance : PySem.W.nsIn K mainGlobals "isinstance" = some none)
    (z_str : PySem.W.nsIn K mainGlobals "str" = some none)
    (z_int : PySem.W.nsIn K mainGlobals "int" = some none)
    (z_abs : PySem.W.nsIn K mainGlobals "abs" = some none)
    (z_range : PySem.W.nsIn K mainGlobals "range" = some none)
    (z_all : PySem.W.nsIn K mainGlobals "all" = some none)
    (z_tuple : PySem.W.nsIn K mainGlobals "tuple" = some none)
    (z_sorted : PySem.W.nsIn K mainGlobals "sorted" = some none)
    (m_hou : PySem.W.nsIn K mainGlobals "HOUSE" = some (some (.ref a_hou)))
    (l_hou : K.lookup a_hou = some ⟨.type "tuple", od_hou, .seq it_hou n_hou, sl_hou⟩)
    (s_hou : it_hou.size = 2)
    (v_hou : Vals [.str "house", .int 0] it_hou.toList)
    (m_plc : PySem.W.nsIn K mainGlobals "PLACES" = some (some (.ref a_plc)))
    (l_plc : K.lookup a_plc = some ⟨.type "tuple", od_plc, .seq it_plc n_plc, sl_plc⟩)
    (s_plc : it_plc.size = 2)
    (v_plc : Vals [.str "x", .str "y"] it_plc.toList)
    (m_map : PySem.W.nsIn K mainGlobals "MAPS" = some (some (.ref a_map)))
    (l_map : K.lookup a_map = some ⟨.type "tuple", od_map, .seq it_map n_map, sl_map⟩)
    (s_map : it_map.size = 2)
    (v_map : Vals [.str "one", .str "each"] it_map.toList)
    (m_flt : PySem.W.nsIn K mainGlobals "FILTERS" = some (some (.ref a_flt)))
    (l_flt : K.lookup a_flt = some ⟨.type "tuple", od_flt, .seq it_flt n_flt, sl_flt⟩)
    (s_flt : it_flt.size = 3)
    (v_flt : Vals [.str "any", .str "house", .str "door"] it_flt.toList)
    (m_most : PySem.W.nsIn K mainGlobals "MOST_DOORS" = some (some (.int 3 mt)))
    (qDS : cD ≠ cS)
    (qDM : cD ≠ cM)
    (qES : cE ≠ cS)
    (qEM : cE ≠ cM)
    (qPS : cP ≠ cS)
    (qPM : cP ≠ cM)
    (qDE : cD ≠ cE)
    : ∃ fd : FuncData, (∀ (s : Shared) (v : Value), BindsTo s fd ⟨[v], []⟩ [("_law_script", v)]) ∧ ∀ base : Heap, K.In base → base.Ns mainGlobals mg → FnOk l.prog w K mg base CX0 10 fa fd ["_law_script"] (spLaw K) := by
  have e := hfa.symm.trans (PySem.W.mg_of X G a_law)
  cases e
  have T : Txt K mg ⟨cD, cE, cP, cS, cM⟩ := ⟨⟨qDS, qDM, qES, qEM, qPS, qPM, qDE⟩,
    ⟨pgD, hdD, poD, saD⟩,
    ⟨pgE, hdE, poE, saE⟩,
    ⟨pgP, hdP, poP, saP⟩,
    ⟨pgS, hdS, poS, saS⟩,
    ⟨pgM, hdM, poM, saM⟩,
    nD_kept_gives,
    nD_kept_lets,
    nE_kept_doors,
    nP_door,
    nP_inner_of,
    nP_by_key,
    nP_sent_to,
    nS_place,
    nS_passages,
    nS_addresses,
    nS_has_heard,
    nM_sides,
    nM_own_rounds,
    nM_is_stuck,
    ⟨haE, hn, tk, hmE, kit_self⟩,
    ⟨haD, hn, tk, hmD, kit_self⟩,
    PySem.W.mg_of X G aD,
    PySem.W.mg_of X G aE,
    PySem.W.mg_of X G aP,
    PySem.W.mg_of X G aS,
    PySem.W.mg_of X G aM,
    PySem.W.mg_none_of X G z_len,
    PySem.W.mg_none_of X G z_isinstance,
    PySem.W.mg_none_of X G z_str,
    PySem.W.mg_none_of X G z_int,
    PySem.W.mg_none_of X G z_abs,
    PySem.W.mg_none_of X G z_range,
    PySem.W.mg_none_of X G z_all,
    PySem.W.mg_none_of X G z_tuple,
    PySem.W.mg_none_of X G z_sorted,
    ⟨a_hou, PySem.W.mg_of X G m_hou, tup_at l_hou (by rw [s_hou]; decide) v_hou⟩,
    ⟨a_plc, PySem.W.mg_of X G m_plc, tup_at l_plc (by rw [s_plc]; decide) v_plc⟩,
    ⟨a_map, PySem.W.mg_of X G m_map, tup_at l_map (by rw [s_map]; decide) v_map⟩,
    ⟨a_flt, PySem.W.mg_of X G m_flt, tup_at l_flt (by rw [s_flt]; decide) v_flt⟩,
    ⟨mt, PySem.W.mg_of X G m_most⟩⟩
  have F_fil := fun_mk (x := "is_filter") (qual := "is_filter") (st := sIsFilter) l_fil c_fil k_fil
  have b_fil := F_fil.binds (ps := ["value"]) fun _ _ _ _ _ _ us hl => match us, hl with | [_], _ => rfl
  have mg_fil := PySem.W.mg_of X G a_fil
  have F_drI : FunD K "__init__" "Door.__init__" (defArgs sDoorI) (defBody sDoorI) (defScope sDoorI) [.str "one", .str "any"] [] f_drI _ := ⟨⟨_, _, _, _, _, _, _, _, _, _, rfl, l_drI, c_drI, .inr ⟨(fun z => nomatch z), tD, _, itT.toList, nT, rfl, lT, rfl, vT⟩, .inl rfl⟩, k_drI⟩
  obtain ⟨ds, vds, b_drI⟩ := F_drI.binds1 (ps := ["self", "gives", "lets"]) 3 2 (fun z => nomatch z) rfl (fun T kV doc pm an cdv ct us its hu hi => match us, its, hu, hi with | [_, _, _], [_, _], _, _ => ⟨_, rfl, rfl⟩)
  cases vds
  have F_gv := fun_mk (x := "gives") (qual := "Door.gives") (st := sGives) l_gv c_gv k_gv
  have b_gv := F_gv.binds (ps := ["self"]) fun _ _ _ _ _ _ us hl => match us, hl with | [_], _ => rfl
  have p_gv' : PropOf K cD "gives" p_gv f_gv := ⟨a_gv, g_gv, t_gv, rs_gv, r_gv⟩
  have F_lt := fun_mk (x := "lets") (qual := "Door.lets") (st := sLets) l_lt c_lt k_lt
  have b_lt := F_lt.binds (ps := ["self"]) fun _ _ _ _ _ _ us hl => match us, hl with | [_], _ => rfl
  have p_lt' : PropOf K cD "lets" p_lt f_lt := ⟨a_lt, g_lt, t_lt, rs_lt, r_lt⟩
  have F_six := fun_mk (x := "six") (qual := "Door.six") (st := sSix) l_six c_six k_six
  have b_six := F_six.binds (ps := []) fun _ _ _ _ _ _ us hl => match us, hl with | [], _ => rfl
  have s_six : SMet K cD (.type "type") "six" f_six := ⟨e_six, g_six, ⟨p_six, a_six, rs_six, r_six⟩, k_six⟩
  have F_enI := fun_mk (x := "__init__") (qual := "End.__init__") (st := sEndI) l_enI c_enI k_enI
  have F_ds := fun_mk (x := "doors") (qual := "End.doors") (st := sDoors) l_ds c_ds k_ds
  have b_ds := F_ds.binds (ps := ["self"]) fun _ _ _ _ _ _ us hl => match us, hl with | [_], _ => rfl
  have p_ds' : PropOf K cE "doors" p_ds f_ds := ⟨a_ds, g_ds, t_ds, rs_ds, r_ds⟩
  have F_ad := fun_mk (x := "__add__") (qual := "End.__add__") (st := sAdd) l_ad c_ad k_ad
  have b_ad := F_ad.binds (ps := ["self", "other"]) fun _ _ _ _ _ _ us hl => match us, hl with | [_, _], _ => rfl
  have m_ad : Meth K cE "__add__" f_ad := ⟨a_ad, i_ad, k_ad⟩
  have F_paI := fun_mk (x := "__init__") (qual := "Passage.__init__") (st := sPasI) l_paI c_paI k_paI
  have b_paI := F_paI.binds (ps := ["self", "door"]) fun _ _ _ _ _ _ us hl => match us, hl with | [_, _], _ => rfl
  have m_paI : Meth K cP "__init__" f_paI := ⟨a_paI, i_paI, k_paI⟩
  have F_paS := fun_mk (x := "sent") (qual := "Passage.sent") (st := sPasS) l_paS c_paS k_paS
  have b_paS := F_paS.binds (ps := ["self", "inner", "address"]) fun _ _ _ _ _ _ us hl => match us, hl with | [_, _, _], _ => rfl
  have m_paS : Meth K cP "sent" f_paS := ⟨a_paS, i_paS, k_paS⟩
  have F_paC := fun_mk (x := "came") (qual := "Passage.came") (st := sPasC) l_paC c_paC k_paC
  have b_paC := F_paC.binds (ps := ["self", "number", "address"]) fun _ _ _ _ _ _ us hl => match us, hl with | [_, _, _], _ => rfl
  have m_paC : Meth K cP "came" f_paC := ⟨a_paC, i_paC, k_paC⟩
  have F_siI := fun_mk (x := "__init__") (qual := "Side.__init__") (st := sSideI) l_siI c_siI k_siI
  have b_siI := F_siI.binds (ps := ["self", "end", "place"]) fun _ _ _ _ _ _ us hl => match us, hl with | [_, _, _], _ => rfl
  have m_siI : Meth K cS "__init__" f_siI := ⟨a_siI, i_siI, k_siI⟩
  have F_siS := fun_mk (x := "sent") (qual := "Side.sent") (st := sSideS) l_siS c_siS k_siS
  have b_siS := F_siS.binds (ps := ["self", "address"]) fun _ _ _ _ _ _ us hl => match us, hl with | [_, _], _ => rfl
  have m_siS : Meth K cS "sent" f_siS := ⟨a_siS, i_siS, k_siS⟩
  have F_siL := fun_mk (x := "lets_in") (qual := "Side.lets_in") (st := sSideL) l_siL c_siL k_siL
  have b_siL := F_siL.binds (ps := ["self", "number", "address"]) fun _ _ _ _ _ _ us hl => match us, hl with | [_, _, _], _ => rfl
  have m_siL : Meth K cS "lets_in" f_siL := ⟨a_siL, i_siL, k_siL⟩
  have F_siN := fun_mk (x := "learns") (qual := "Side.learns") (st := sSideN) l_siN c_siN k_siN
  have b_siN := F_siN.binds (ps := ["self", "address"]) fun _ _ _ _ _ _ us hl => match us, hl with | [_, _], _ => rfl
  have m_siN : Meth K cS "learns" f_siN := ⟨a_siN, i_siN, k_siN⟩
  have F_meI := fun_mk (x := "__init__") (qual := "Meeting.__init__") (st := sMeetI) l_meI c_meI k_meI
  have b_meI := F_meI.binds (ps := ["self", "x", "y"]) fun _ _ _ _ _ _ us hl => match us, hl with | [_, _, _], _ => rfl
  have m_meI : Meth K cM "__init__" f_meI := ⟨a_meI, i_meI, k_meI⟩
  have F_meS := fun_mk (x := "side") (qual := "Meeting.side") (st := sMeetS) l_meS c_meS k_meS
  have b_meS := F_meS.binds (ps := ["self", "place"]) fun _ _ _ _ _ _ us hl => match us, hl with | [_, _], _ => rfl
  have m_meS : Meth K cM "side" f_meS := ⟨a_meS, i_meS, k_meS⟩
  have F_meK := fun_mk (x := "known") (qual := "Meeting.known") (st := sMeetK) l_meK c_meK k_meK
  have b_meK := F_meK.binds (ps := ["self", "place"]) fun _ _ _ _ _ _ us hl => match us, hl with | [_, _], _ => rfl
  have m_meK : Meth K cM "known" f_meK := ⟨a_meK, i_meK, k_meK⟩
  have F_meH := fun_mk (x := "heard") (qual := "Meeting.heard") (st := sMeetH) l_meH c_meH k_meH
  have b_meH := F_meH.binds (ps := ["self", "place"]) fun _ _ _ _ _ _ us hl => match us, hl with | [_, _], _ => rfl
  have m_meH : Meth K cM "heard" f_meH := ⟨a_meH, i_meH, k_meH⟩
  have F_meO := fun_mk (x := "is_over") (qual := "Meeting.is_over") (st := sMeetO) l_meO c_meO k_meO
  have b_meO := F_meO.binds (ps := ["self"]) fun _ _ _ _ _ _ us hl => match us, hl with | [_], _ => rfl
  have m_meO : Meth K cM "is_over" f_meO := ⟨a_meO, i_meO, k_meO⟩
  have F_meN := fun_mk (x := "__len__") (qual := "Meeting.__len__") (st := sMeetN) l_meN c_meN k_meN
  have b_meN := F_meN.binds (ps := ["self"]) fun _ _ _ _ _ _ us hl => match us, hl with | [_], _ => rfl
  have m_meN : Meth K cM "__len__" f_meN := ⟨a_meN, i_meN, k_meN⟩
  have F_meR := fun_mk (x := "round") (qual := "Meeting.round") (st := sMeetR) l_meR c_meR k_meR
  have b_meR := F_meR.binds (ps := ["self"]) fun _ _ _ _ _ _ us hl => match us, hl with | [_], _ => rfl
  have m_meR : Meth K cM "round" f_meR := ⟨a_meR, i_meR, k_meR⟩
  have F_pl := fun_mk (x := "played") (qual := "played") (st := sPlayed) l_pl c_pl k_pl
  have b_pl := F_pl.binds (ps := ["x", "y"]) fun _ _ _ _ _ _ us hl => match us, hl with | [_, _], _ => rfl
  have mg_pl := PySem.W.mg_of X G a_pl
  have F_mts := fun_mk (x := "meets") (qual := "meets") (st := sMeets) l_mts c_mts k_mts
  have b_mts := F_mts.binds (ps := ["x", "y"]) fun _ _ _ _ _ _ us hl => match us, hl with | [_, _], _ => rfl
  have mg_mts := PySem.W.mg_of X G a_mts
  have F_rds := fun_mk (x := "rounds") (qual := "rounds") (st := sRounds) l_rds c_rds k_rds
  have b_rds := F_rds.binds (ps := ["x", "y"]) fun _ _ _ _ _ _ us hl => match us, hl with | [_, _], _ => rfl
  have mg_rds := PySem.W.mg_of X G a_rds
  have F_beg := fun_mk (x := "_law_begin") (qual := "_law_begin") (st := sBegin) l_beg c_beg k_beg
  have b_beg := F_beg.binds (ps := ["_law_script"]) fun _ _ _ _ _ _ us hl => match us, hl with | [_], _ => rfl
  have mg_beg := PySem.W.mg_of X G a_beg
  have F_mix := fun_mk (x := "_law_mixed") (qual := "_law_mixed") (st := sMixed) l_mix c_mix k_mix
  have b_mix := F_mix.binds (ps := ["_law_pool", "_law_many"]) fun _ _ _ _ _ _ us hl => match us, hl with | [_, _], _ => rfl
  have mg_mix := PySem.W.mg_of X G a_mix
  have F_drw := fun_mk (x := "_law_draw") (qual := "_law_draw") (st := sDraw) l_drw c_drw k_drw
  have b_drw := F_drw.binds (ps := ["_law_pool", "_law_many"]) fun _ _ _ _ _ _ us hl => match us, hl with | [_, _], _ => rfl
  have mg_drw := PySem.W.mg_of X G a_drw
  have F_mkE := fun_mk (x := "_law_make_end") (qual := "_law_make_end") (st := sMkEnd) l_mkE c_mkE k_mkE
  have b_mkE := F_mkE.binds (ps := ["_law_some"]) fun _ _ _ _ _ _ us hl => match us, hl with | [_], _ => rfl
  have mg_mkE := PySem.W.mg_of X G a_mkE
  have F_end := fun_mk (x := "_law_end") (qual := "_law_end") (st := sEnd) l_end c_end k_end
  have b_end := F_end.binds (ps := ["_law_pool"]) fun _ _ _ _ _ _ us hl => match us, hl with | [_], _ => rfl
  have mg_end := PySem.W.mg_of X G a_end
  have F_rt := fun_mk (x := "_law_letters_right") (qual := "_law_letters_right") (st := sRight) l_rt c_rt k_rt
  have b_rt := F_rt.binds (ps := ["_law_x", "_law_y"]) fun _ _ _ _ _ _ us hl => match us, hl with | [_, _], _ => rfl
  have mg_rt := PySem.W.mg_of X G a_rt
  have F_law := fun_mk (x := "law") (qual := "law") (st := sLaw) l_law c_law k_law
  have b_law := F_law.binds (ps := ["_law_script"]) fun _ _ _ _ _ _ us hl => match us, hl with | [_], _ => rfl
  have mg_law := PySem.W.mg_of X G a_law
  have MD : Mk K cD f_drI := ⟨mkD, a_drI, i_drI, kcD⟩
  have ME : Mk K cE f_enI := ⟨mkE, a_enI, i_enI, kcE⟩
  have MP : Mk K cP f_paI := ⟨mkP, a_paI, i_paI, kcP⟩
  have MS : Mk K cS f_siI := ⟨mkS, a_siI, i_siI, kcS⟩
  have MM : Mk K cM f_meI := ⟨mkM, a_meI, i_meI, kcM⟩
  refine ⟨PySem.W.fnOf "law" "law" (defArgs sLaw) (defBody sLaw) (defScope sLaw) .none kV_law dc_law pm_law an_law cd_law ct_law, fun s v => .of_eq rfl, fun base _ _ => ?_⟩
  have G_gv := ok_gives (P := l.prog) (w := w) (base := base) F_gv T 
  have G_lt := ok_lets (P := l.prog) (w := w) (base := base) F_lt T 
  have G_ds := ok_doors (P := l.prog) (w := w) (base := base) F_ds T 
  have G_paI := ok_pasI (P := l.prog) (w := w) (base := base) F_paI T 
  have G_paS := ok_pasS (P := l.prog) (w := w) (base := base) F_paS T p_gv' G_gv b_gv
  have G_paC := ok_pasC (P := l.prog) (w := w) (base := base) F_paC T p_lt' G_lt b_lt
  have G_siN := ok_sideN (P := l.prog) (w := w) (base := base) F_siN T 
  have G_siL := ok_sideL (P := l.prog) (w := w) (base := base) F_siL T m_paC G_paC b_paC
  have G_siS := ok_sideS (P := l.prog) (w := w) (base := base) F_siS T m_paS G_paS b_paS
  have G_siI := ok_sideI (P := l.prog) (w := w) (base := base) F_siI T p_ds' G_ds b_ds MP G_paI b_paI
  have G_meS := ok_mS (P := l.prog) (w := w) (base := base) F_meS T 
  have G_meH := ok_mH (P := l.prog) (w := w) (base := base) F_meH T m_meS G_meS b_meS
  have G_meK := ok_mK (P := l.prog) (w := w) (base := base) F_meK T m_meS G_meS b_meS
  have G_meO := ok_mO (P := l.prog) (w := w) (base := base) F_meO T m_meH G_meH b_meH
  have G_meN := ok_mN (P := l.prog) (w := w) (base := base) F_meN T 
  have G_meR := ok_mR (P := l.prog) (w := w) (base := base) F_meR T m_meO G_meO b_meO m_meK G_meK b_meK m_siS G_siS b_siS m_siL G_siL b_siL m_siN G_siN b_siN
  have G_meI := ok_mI (P := l.prog) (w := w) (base := base) F_meI T MS G_siI b_siI m_siS G_siS b_siS m_siN G_siN b_siN
  have G_drI := ok_drI (P := l.prog) (w := w) (base := base) F_drI T F_fil mg_fil b_fil
  have G_six := ok_six (P := l.prog) (w := w) (base := base) F_six T MD G_drI b_drI
  have G_enI := ok_enI (P := l.prog) (w := w) (base := base) F_enI T 
  have G_ad := ok_add (P := l.prog) (w := w) (base := base) F_ad T p_ds' G_ds b_ds ME G_enI
  have G_pl := ok_pl (P := l.prog) (w := w) (base := base) F_pl T MM G_meI b_meI m_meO G_meO b_meO m_meR G_meR b_meR
  have G_mts := ok_mts (P := l.prog) (w := w) (base := base) F_mts T F_pl mg_pl G_pl b_pl m_meH G_meH b_meH
  have G_rds := ok_rds (P := l.prog) (w := w) (base := base) F_rds T F_pl mg_pl G_pl b_pl m_meH G_meH b_meH m_meN G_meN b_meN
  have G_beg := ok_begin (P := l.prog) (w := w) (base := base) F_beg T 
  have G_mix := ok_mixed (P := l.prog) (w := w) (base := base) F_mix T 
  have G_drw := ok_draw (P := l.prog) (w := w) (base := base) F_drw T F_mix mg_mix G_mix b_mix
  have G_mkE := ok_mkE (P := l.prog) (w := w) (base := base) F_mkE T ME G_enI
  have G_end := ok_end (P := l.prog) (w := w) (base := base) F_end T F_drw mg_drw G_drw b_drw s_six G_six b_six F_mkE mg_mkE G_mkE b_mkE
  have G_rt := ok_rt (P := l.prog) (w := w) (base := base) F_rt T MM G_meI b_meI m_meO G_meO b_meO m_meR G_meR b_meR m_meK G_meK b_meK m_meH G_meH b_meH m_meN G_meN b_meN F_mts mg_mts G_mts b_mts
  exact ok_law F_law T F_beg mg_beg G_beg b_beg F_end mg_end G_end b_end F_mts mg_mts G_mts b_mts F_rds mg_rds G_rds b_rds F_rt mg_rt G_rt b_rt MD G_drI b_drI ME G_enI m_ad sf G_ad b_ad
theorem walk {l : PySem.W.OpenLaw} {q : Program} {loose : List Str} {XP : (Str → Option Value) → Heap → Prop} {YP : World → Heap → Prop} {d : DefRec} {K : Params → PySem.W.Frag} (hn : l.most = some 63) (hdf : d.params.defaults = [])
    (hY : ∀ (w : World) (h : Heap), YP w h → (K w.params).In h)
    (F : ∀ (w : World) (mg : Str → Option Value) (fa : Addr) (h : Heap), (K w.params).In h → h.Ns mainGlobals mg → mg d.name = some (.ref fa) →
      ∃ fd : FuncData, (∀ (s : Shared) (u : Value), BindsTo s fd ⟨[u], []⟩ [("_law_script", u)]) ∧ ∀ base : Heap, (K w.params).In base → base.Ns mainGlobals mg → FnOk l.prog w (K w.params) mg base CX0 10 fa fd ["_law_script"] (spLaw (K w.params))) :
    PySem.W.WalkO q loose XP YP l.row.toRowW d [] (fun f vs => PySem.call f vs) :=
  L2.walk_of (n := 63) (k := 10) (x := "_law_script") (CX := fun _ => CX0) (sp := fun w => spLaw (K w.params)) hn (by decide) hdf ⟨rfl, by decide, by decide⟩ hY F (fun _ _ a ns hl _ hS => ⟨a, ns, rfl, hS, hl, fun _ => rfl⟩) fun _ _ _ _ _ z => z
end QD
set_option Elab.async false
open PySem PySem.W PyProof.Rows in
set_option maxRecDepth 100000 in
set_option maxHeartbeats 0 in
theorem PySem.Challenge.cw_quietdoors_k76_whole_meeting_both_ways_holds : PySem.Challenge.rw_quietdoors_k76_whole_meeting_both_ways.Holds := by
  w_on; o_law; k_head; (case hw => w_witness2)
  k_fill
  refine QD.walk (l := PySem.Challenge.rw_quietdoors_k76_whole_meeting_both_ways) rfl rfl (fun w h Y => PySem.W.kIn_of Y) ?F
  case F =>
    intro w mg fa h KX G hmg
    refine' QD.all_mk KX G hmg ?aD ?aE ?aP ?aS ?aM ?a_fil ?l_fil ?c_fil ?k_fil ?a_drI ?i_drI ?l_drI ?c_drI ?k_drI ?lT ?vT ?a_gv ?g_gv ?t_gv ?r_gv ?l_gv ?c_gv ?k_gv ?a_lt ?g_lt ?t_lt ?r_lt ?l_lt ?c_lt ?k_lt ?e_six ?g_six ?a_six ?r_six ?l_six ?c_six ?k_six ?a_enI ?i_enI ?l_enI ?c_enI ?k_enI ?a_ds ?g_ds ?t_ds ?r_ds ?l_ds ?c_ds ?k_ds ?a_ad ?i_ad ?l_ad ?c_ad ?k_ad ?a_paI ?i_paI ?l_paI ?c_paI ?k_paI ?a_paS ?i_paS ?l_paS ?c_paS ?k_paS ?a_paC ?i_paC ?l_paC ?c_paC ?k_paC ?a_siI ?i_siI ?l_siI ?c_siI ?k_siI ?a_siS ?i_siS ?l_siS ?c_siS ?k_siS ?a_siL ?i_siL ?l_siL ?c_siL ?k_siL ?a_siN ?i_siN ?l_siN ?c_siN ?k_siN ?a_meI ?i_meI ?l_meI ?c_meI ?k_meI ?a_meS ?i_meS ?l_meS ?c_meS ?k_meS ?a_meK ?i_meK ?l_meK ?c_meK ?k_meK ?a_meH ?i_meH ?l_meH ?c_meH ?k_meH ?a_meO ?i_meO ?l_meO ?c_meO ?k_meO ?a_meN ?i_meN ?l_meN ?c_meN ?k_meN ?a_meR ?i_meR ?l_meR ?c_meR ?k_meR ?a_pl ?l_pl ?c_pl ?k_pl ?a_mts ?l_mts ?c_mts ?k_mts ?a_rds ?l_rds ?c_rds ?k_rds ?a_beg ?l_beg ?c_beg ?k_beg ?a_mix ?l_mix ?c_mix ?k_mix ?a_drw ?l_drw ?c_drw ?k_drw ?a_mkE ?l_mkE ?c_mkE ?k_mkE ?a_end ?l_end ?c_end ?k_end ?a_rt ?l_rt ?c_rt ?k_rt ?a_law ?l_law ?c_law ?k_law ?pgD ?hdD ?poD ?saD ?mkD ?kcD ?nD_kept_gives ?nD_kept_lets ?pgE ?hdE ?poE ?saE ?mkE ?kcE ?nE_kept_doors ?pgP ?hdP ?poP ?saP ?mkP ?kcP ?nP_door ?nP_inner_of ?nP_by_key ?nP_sent_to ?pgS ?hdS ?poS ?saS ?mkS ?kcS ?nS_place ?nS_passages ?nS_addresses ?nS_has_heard ?pgM ?hdM ?poM ?saM ?mkM ?kcM ?nM_sides ?nM_own_rounds ?nM_is_stuck ?haD ?hmD ?haE ?hmE ?hn ?tk ?sf ?z_len ?z_isinstance ?z_str ?z_int ?z_abs ?z_range ?z_all ?z_tuple ?z_sorted ?m_hou ?l_hou ?s_hou ?v_hou ?m_plc ?l_plc ?s_plc ?v_plc ?m_map ?l_map ?s_map ?v_map ?m_flt ?l_flt ?s_flt ?v_flt ?m_most ?qDS ?qDM ?qES ?qEM ?qPS ?qPM ?qDE
    (case aD => k_is)
    (case aE => k_is)
    (case aP => k_is)
    (case aS => k_is)
    (case aM => k_is)
    (case a_fil => k_is)
    (case l_fil => k_is)
    (case c_fil => k_is)
    (case k_fil => k_is)
    (case a_drI => k_is)
    (case i_drI => k_is)
    (case l_drI => k_is)
    (case c_drI => k_is)
    (case k_drI => k_is)
    (case lT => k_is)
    (case vT => exact .cons ⟨_, rfl⟩ (.cons ⟨_, rfl⟩ .nil))
    (case a_gv => k_is)
    (case g_gv => k_is)
    (case t_gv => k_is)
    (case r_gv => k_is)
    (case l_gv => k_is)
    (case c_gv => k_is)
    (case k_gv => k_is)
    (case a_lt => k_is)
    (case g_lt => k_is)
    (case t_lt => k_is)
    (case r_lt => k_is)
    (case l_lt => k_is)
    (case c_lt => k_is)
    (case k_lt => k_is)
    (case e_six => k_is)
    (case g_six => k_is)
    (case a_six => k_is)
    (case r_six => k_is)
    (case l_six => k_is)
    (case c_six => k_is)
    (case k_six => k_is)
    (case a_enI => k_is)
    (case i_enI => k_is)
    (case l_enI => k_is)
    (case c_enI => k_is)
    (case k_enI => k_is)
    (case a_ds => k_is)
    (case g_ds => k_is)
    (case t_ds => k_is)
    (case r_ds => k_is)
    (case l_ds => k_is)
    (case c_ds => k_is)
    (case k_ds => k_is)
    (case a_ad => k_is)
    (case i_ad => k_is)
    (case l_ad => k_is)
    (case c_ad => k_is)
    (case k_ad => k_is)
    (case a_paI => k_is)
    (case i_paI => k_is)
    (case l_paI => k_is)
    (case c_paI => k_is)
    (case k_paI => k_is)
    (case a_paS => k_is)
    (case i_paS => k_is)
    (case l_paS => k_is)
    (case c_paS => k_is)
    (case k_paS => k_is)
    (case a_paC => k_is)
    (case i_paC => k_is)
    (case l_paC => k_is)
    (case c_paC => k_is)
    (case k_paC => k_is)
    (case a_siI => k_is)
    (case i_siI => k_is)
    (case l_siI => k_is)
    (case c_siI => k_is)
    (case k_siI => k_is)
    (case a_siS => k_is)
    (case i_siS => k_is)
    (case l_siS => k_is)
    (case c_siS => k_is)
    (case k_siS => k_is)
    (case a_siL => k_is)
    (case i_siL => k_is)
    (case l_siL => k_is)
    (case c_siL => k_is)
    (case k_siL => k_is)
    (case a_siN => k_is)
    (case i_siN => k_is)
    (case l_siN => k_is)
    (case c_siN => k_is)
    (case k_siN => k_is)
    (case a_meI => k_is)
    (case i_meI => k_is)
    (case l_meI => k_is)
    (case c_meI => k_is)
    (case k_meI => k_is)
    (case a_meS => k_is)
    (case i_meS => k_is)
    (case l_meS => k_is)
    (case c_meS => k_is)
    (case k_meS => k_is)
    (case a_meK => k_is)
    (case i_meK => k_is)
    (case l_meK => k_is)
    (case c_meK => k_is)
    (case k_meK => k_is)
    (case a_meH => k_is)
    (case i_meH => k_is)
    (case l_meH => k_is)
    (case c_meH => k_is)
    (case k_meH => k_is)
    (case a_meO => k_is)
    (case i_meO => k_is)
    (case l_meO => k_is)
    (case c_meO => k_is)
    (case k_meO => k_is)
    (case a_meN => k_is)
    (case i_meN => k_is)
    (case l_meN => k_is)
    (case c_meN => k_is)
    (case k_meN => k_is)
    (case a_meR => k_is)
    (case i_meR => k_is)
    (case l_meR => k_is)
    (case c_meR => k_is)
    (case k_meR => k_is)
    (case a_pl => k_is)
    (case l_pl => k_is)
    (case c_pl => k_is)
    (case k_pl => k_is)
    (case a_mts => k_is)
    (case l_mts => k_is)
    (case c_mts => k_is)
    (case k_mts => k_is)
    (case a_rds => k_is)
    (case l_rds => k_is)
    (case c_rds => k_is)
    (case k_rds => k_is)
    (case a_beg => k_is)
    (case l_beg => k_is)
    (case c_beg => k_is)
    (case k_beg => k_is)
    (case a_mix => k_is)
    (case l_mix => k_is)
    (case c_mix => k_is)
    (case k_mix => k_is)
    (case a_drw => k_is)
    (case l_drw => k_is)
    (case c_drw => k_is)
    (case k_drw => k_is)
    (case a_mkE => k_is)
    (case l_mkE => k_is)
    (case c_mkE => k_is)
    (case k_mkE => k_is)
    (case a_end => k_is)
    (case l_end => k_is)
    (case c_end => k_is)
    (case k_end => k_is)
    (case a_rt => k_is)
    (case l_rt => k_is)
    (case c_rt => k_is)
    (case k_rt => k_is)
    (case a_law => k_is)
    (case l_law => k_is)
    (case c_law => k_is)
    (case k_law => k_is)
    (case pgD => k_is)
    (case hdD => k_is)
    (case poD => k_is)
    (case saD => k_is)
    (case mkD => k_is)
    (case kcD => k_is)
    (case nD_kept_gives => k_is)
    (case nD_kept_lets => k_is)
    (case pgE => k_is)
    (case hdE => k_is)
    (case poE => k_is)
    (case saE => k_is)
    (case mkE => k_is)
    (case kcE => k_is)
    (case nE_kept_doors => k_is)
    (case pgP => k_is)
    (case hdP => k_is)
    (case poP => k_is)
    (case saP => k_is)
    (case mkP => k_is)
    (case kcP => k_is)
    (case nP_door => k_is)
    (case nP_inner_of => k_is)
    (case nP_by_key => k_is)
    (case nP_sent_to => k_is)
    (case pgS => k_is)
    (case hdS => k_is)
    (case poS => k_is)
    (case saS => k_is)
    (case mkS => k_is)
    (case kcS => k_is)
    (case nS_place => k_is)
    (case nS_passages => k_is)
    (case nS_addresses => k_is)
    (case nS_has_heard => k_is)
    (case pgM => k_is)
    (case hdM => k_is)
    (case poM => k_is)
    (case saM => k_is)
    (case mkM => k_is)
    (case kcM => k_is)
    (case nM_sides => k_is)
    (case nM_own_rounds => k_is)
    (case nM_is_stuck => k_is)
    (case haD => k_is)
    (case hmD => k_is)
    (case haE => k_is)
    (case hmE => k_is)
    (case hn => k_is)
    (case tk => k_is)
    (case sf => k_is)
    (case z_len => k_is)
    (case z_isinstance => k_is)
    (case z_str => k_is)
    (case z_int => k_is)
    (case z_abs => k_is)
    (case z_range => k_is)
    (case z_all => k_is)
    (case z_tuple => k_is)
    (case z_sorted => k_is)
    (case m_hou => k_is)
    (case l_hou => k_is)
    (case s_hou => rfl)
    (case v_hou => exact .cons ⟨_, rfl⟩ (.cons ⟨_, rfl⟩ .nil))
    (case m_plc => k_is)
    (case l_plc => k_is)
    (case s_plc => rfl)
    (case v_plc => exact .cons ⟨_, rfl⟩ (.cons ⟨_, rfl⟩ .nil))
    (case m_map => k_is)
    (case l_map => k_is)
    (case s_map => rfl)
    (case v_map => exact .cons ⟨_, rfl⟩ (.cons ⟨_, rfl⟩ .nil))
    (case m_flt => k_is)
    (case l_flt => k_is)
    (case s_flt => rfl)
    (case v_flt => exact .cons ⟨_, rfl⟩ (.cons ⟨_, rfl⟩ (.cons ⟨_, rfl⟩ .nil)))
    (case m_most => k_is)
    (case qDS => decide)
    (case qDM => decide)
    (case qES => decide)
    (case qEM => decide)
    (case qPS => decide)
    (case qPM => decide)
    (case qDE => decide)
#print axioms PySem.Challenge.cw_quietdoors_k76_whole_meeting_both_ways_holds
