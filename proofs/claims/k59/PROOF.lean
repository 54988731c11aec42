import PyProof.Rows.All
import Wide.All
import OpenK.AllK
import Wide.FinOn
import HandS.ForMost
import HandS.Deep
import HandS.SortInts
import HandS.SetFor
import HandS.Strs
import HandS.Walk
import HandS.Style
import HandS.TupAny
import HandS.RaiseMore
import HandS.Wide
import HandS.Conv
import KE.SortData
import KE.GoesEnum
import KE.DataFind
import KE.DataMinMax
import HandS.Gcd
import HandS.Ends
import PyProof.ReprRoads
import PySem.Challenge.RW_blowntrees_k59_roots_of_rows
import PyProof.ReprLen
set_option Elab.async false
set_option maxRecDepth 100000
set_option maxHeartbeats 4000000
/-! U1: rules by values that serve several kinds of values at once; rules that were lacking (sorted of data, sorted of a set of any size, count, ==). -/
namespace U
open PySem PySem.Spec PyProof.Rows L2

section
variable {X : Cx}
/-! ### subscripts -/
def rIxD : R2 := fun x y H Q => ∃ a v, x = .ref a ∧ DGet H a y (some v) ∧ Q v H
theorem ix_dict (hu : X.A.units + 1 < cLine) : IxR X rIxD := by
  intro value slice pins s σ H x y v u Q I rx ry h hs
  obtain ⟨a, z, rfl, g, q⟩ := h
  obtain rfl : v = Value.ref a := rx
  exact tail_any (dict_typeIs I g) PySem.F.slot_dict_getitem.lookup (d_getItem hu I g ry fun w' s3 I3 rw' => ⟨z, H, I3, rw', q⟩) hs
def rIxU (K : PySem.W.Frag) : R2 := fun x y H Q => rIxL K x y H Q ∨ rIxT K x y H Q ∨ rIxD x y H Q
theorem ix_u (hu : X.A.units + 1 < cLine) : IxR X (rIxU X.K) := ix_list.or (ix_tup.or (ix_dict hu))

theorem PSet.or {t t' : TSet} (h : PSet X t) (h' : PSet X t') : PSet X (fun o i v H Q => t o i v H Q ∨ t' o i v H Q) := by
  intro pins s σ H o i v ov iv u Q I ro ri rv q
  rcases q with q | q
  · exact h pins s σ H o i v ov iv u Q I ro ri rv q
  · exact h' pins s σ H o i v ov iv u Q I ro ri rv q
def rSetD : V → V → V → Hp → (Hp → Prop) → Prop := fun o i v H Q => ∃ a H', o = .ref a ∧ DPut H a i v H' ∧ Q H'
theorem set_dict (hu : X.A.units + 1 < cLine) : PSet X rSetD := by
  intro pins s σ H o i v ov iv u Q I ro ri rv h
  obtain ⟨a, H', rfl, g, q⟩ := h
  obtain rfl : ov = Value.ref a := ro
  exact d_setItem hu I g ri rv fun s4 I4 => ⟨H', I4, q⟩
def rSetU : V → V → V → Hp → (Hp → Prop) → Prop := fun o i v H Q => rSetL o i v H Q ∨ rSetD o i v H Q
theorem set_u (hu : X.A.units + 1 < cLine) : PSet X rSetU := PSet.or set_list (set_dict hu)

/-! ### operators -/
def rAddU (K : PySem.W.Frag) : R2 := fun x y H Q => rI0 (fun i j => .int (i + j)) x y H Q ∨ rCat x y H Q ∨ rCatA K x y H Q
theorem op_addU : OpR X (binaryOp .Add) (rAddU X.K) := op_add.or (op_cat.or op_catA)
def CDivU (i j : Int) : Prop := CDivW i j
def rSlU (K : PySem.W.Frag) : V → Option Int → Option Int → Hp → VK → Prop := fun x lo hi H Q => rSlL K x lo hi H Q ∨ rSlA K x lo hi H Q
theorem sl_u : SlR X (rSlU X.K) := SlR.or sl_list sl_tupA

/-! ### == of data, the lesser depth bounded -/
def rEqM (K : PySem.W.Frag) (n : Nat) : R2 := fun x y H Q => ∃ d e, Dp K H x d ∧ Dp K H y e ∧ d.canLay0 = true ∧ e.canLay0 = true ∧ min d.depth e.depth ≤ n ∧ Q (.bl (PyData.eqv d e)) H
def rNeM (K : PySem.W.Frag) (n : Nat) : R2 := fun x y H Q => ∃ d e, Dp K H x d ∧ Dp K H y e ∧ d.canLay0 = true ∧ e.canLay0 = true ∧ min d.depth e.depth ≤ n ∧ Q (.bl (!PyData.eqv d e)) H
theorem op_eqM {n : Nat} (hu : X.A.units + n < cLine) : OpR X (compareOp .Eq) (rEqM X.K n) := by
  intro pins s σ H x y v u Q I rx ry h
  obtain ⟨d, e, hd, he, sd, se, hn, q⟩ := h
  obtain ⟨as, r1⟩ := Dp.reads I d x v hd rx
  obtain ⟨bs, r2⟩ := Dp.reads I e y u he ry
  exact SeqAt.compareEq_reads r1 r2 sd se (by omega) ⟨.bl _, H, I, rfl, q⟩
theorem op_neM {n : Nat} (hu : X.A.units + n < cLine) : OpR X (compareOp .NotEq) (rNeM X.K n) := by
  intro pins s σ H x y v u Q I rx ry h
  obtain ⟨d, e, hd, he, sd, se, hn, q⟩ := h
  obtain ⟨as, r1⟩ := Dp.reads I d x v hd rx
  obtain ⟨bs, r2⟩ := Dp.reads I e y u he ry
  exact SeqAt.compareNe_reads r1 r2 sd se (by omega) ⟨.bl _, H, I, rfl, q⟩
def rEqU (K : PySem.W.Frag) (n : Nat) : R2 := fun x y H Q => rEq x y H Q ∨ rEqM K n x y H Q
def rNeU (K : PySem.W.Frag) (n : Nat) : R2 := fun x y H Q => rNe x y H Q ∨ rNeM K n x y H Q
theorem op_eqU {n : Nat} (hu : X.A.units + n < cLine) : OpR X (compareOp .Eq) (rEqU X.K n) := op_eq.or (op_eqM hu)
theorem op_neU {n : Nat} (hu : X.A.units + n < cLine) : OpR X (compareOp .NotEq) (rNeU X.K n) := op_ne.or (op_neM hu)

/-! ### in -/
def rInDk (neg : Bool) : R2 := fun x y H Q => ∃ a o, y = .ref a ∧ DGet H a x o ∧ Q (.bl (if neg then !o.isSome else o.isSome)) H
theorem op_inDk (hu : X.A.units + 1 < cLine) : OpR X (compareOp .In) (rInDk false) := by
  intro pins s σ H x y v u Q I rx ry h
  obtain ⟨a, o, rfl, g, q⟩ := h
  obtain rfl : u = Value.ref a := ry
  exact d_in hu I g rx fun s3 I3 => ⟨.bl o.isSome, H, I3, rfl, q⟩
theorem op_ninDk (hu : X.A.units + 1 < cLine) : OpR X (compareOp .NotIn) (rInDk true) := by
  intro pins s σ H x y v u Q I rx ry h
  obtain ⟨a, o, rfl, g, q⟩ := h
  obtain rfl : u = Value.ref a := ry
  exact d_notIn hu I g rx fun s3 I3 => ⟨.bl (!o.isSome), H, I3, rfl, q⟩
def rInU (K : PySem.W.Frag) : R2 := fun x y H Q => rInDk false x y H Q ∨ rIn K false x y H Q
def rNinU (K : PySem.W.Frag) : R2 := fun x y H Q => rInDk true x y H Q ∨ rIn K true x y H Q
theorem op_inU (hu : X.A.units + 1 < cLine) : OpR X (compareOp .In) (rInU X.K) := (op_inDk hu).or op_in_seq
theorem op_ninU (hu : X.A.units + 1 < cLine) : OpR X (compareOp .NotIn) (rNinU X.K) := (op_ninDk hu).or op_notIn_seq

/-! ### what is walked -/
theorem PI.or {tg e : Expr} {a b : TI} (h : PI X tg e a) (h' : PI X tg e b) : PI X tg e (fun σ H R => a σ H R ∨ b σ H R) := by
  refine ⟨fun pins s σ H R I q => ?_⟩
  rcases q with q | q
  · exact h.run pins s σ H R I q
  · exact h'.run pins s σ H R I q
def iU (K : PySem.W.Frag) (t : TE) : TI := fun σ H R => iList K t σ H R ∨ iTup K t σ H R
theorem pi_u {tg e : Expr} {t : TE} (h : PE X e t) : PI X tg e (iU X.K t) := PI.or (pi_list h) (pi_tup h)
end
end U
set_option Elab.async false
set_option maxRecDepth 100000
set_option maxHeartbeats 4000000
/-! U2: sorted of data; sorted of a set of ints of any size; set of a tuple or a list of ints; count. -/
namespace U
open PySem PySem.Spec PyProof.Rows L2 PySem.W

/-! ### sorted(xs), data of any depth -/
theorem dpAll_len {K : PySem.W.Frag} {H : Hp} : ∀ {xs : List V} {ds : List PyData}, DpAll K H xs ds → xs.length = ds.length
  | _, _, .nil => rfl
  | _, _, .cons _ t => congrArg (· + 1) (dpAll_len t)
theorem each_zip {K : PySem.W.Frag} {H : Hp} : ∀ {xs : List V} {ds : List PyData} {us : List Value}, DpAll K H xs ds → Vals xs us → EachIs (fun v (b : V × PyData) => RelV b.1 v) us (xs.zip ds)
  | _, _, _, .nil, .nil => .nil
  | _, _, _, .cons _ t, .cons r s => .cons r (each_zip t s)
theorem zip_snd {K : PySem.W.Frag} {H : Hp} : ∀ {xs : List V} {ds : List PyData}, DpAll K H xs ds → (xs.zip ds).map Prod.snd = ds
  | _, _, .nil => rfl
  | _, _, .cons _ t => congrArg (_ :: ·) (zip_snd t)
theorem zip_dp {K : PySem.W.Frag} {H : Hp} : ∀ {xs : List V} {ds : List PyData}, DpAll K H xs ds → ∀ p ∈ xs.zip ds, Dp K H p.1 p.2
  | _, _, .nil, p, h => by simp at h
  | _, _, .cons d t, p, h => by
    rw [List.zip_cons_cons] at h
    rcases List.mem_cons.mp h with e | h
    · subst e; exact d
    · exact zip_dp t p h
theorem dp_unzip {K : PySem.W.Frag} {H : Hp} : ∀ {zs : List (V × PyData)}, (∀ p ∈ zs, Dp K H p.1 p.2) → DpAll K H (zs.map Prod.fst) (zs.map Prod.snd)
  | [], _ => .nil
  | p :: zs, h => .cons (h p List.mem_cons_self) (dp_unzip fun q hq => h q (List.mem_cons_of_mem _ hq))
theorem each_vals : ∀ {us : List Value} {zs : List (V × PyData)}, EachIs (fun v (b : V × PyData) => RelV b.1 v) us zs → Vals (zs.map Prod.fst) us
  | _, _, .nil => .nil
  | _, _, .cons r t => .cons r (each_vals t)
/-- sorted(xs): xs the values of the pairs zs, each reading as its second part's data -/
def rSortedB (K : PySem.W.Frag) (n : Nat) : List V → Hp → VK → Prop := fun vs H Q => ∃ (β : Type) (enc : β → PyData) (a : Addr) (zs : List (V × β)), vs = [V.ref a] ∧ SqL K H a (zs.map Prod.fst) ∧ (∀ p ∈ zs, Dp K H p.1 (enc p.2)) ∧
  AllAlike (zs.map fun p => enc p.2) ∧ Sortable (zs.map fun p => enc p.2) ∧ (∀ p ∈ zs, (enc p.2).depth ≤ n) ∧
  ∀ (p : Addr), H p = none → Q (.ref p) (upd H p (.lst ((zs.mergeSort (dataLe false fun b => enc b.2)).map Prod.fst)))
theorem each_fst {β : Type} : ∀ {zs : List (V × β)} {us : List Value}, Vals (zs.map Prod.fst) us → EachIs (fun v (b : V × β) => RelV b.1 v) us zs
  | [], _, .nil => .nil
  | _ :: _, _, .cons r t => .cons r (each_fst t)
theorem each_valsB {β : Type} : ∀ {us : List Value} {zs : List (V × β)}, EachIs (fun v (b : V × β) => RelV b.1 v) us zs → Vals (zs.map Prod.fst) us
  | _, _, .nil => .nil
  | _, _, .cons r t => .cons r (each_valsB t)
section
variable {X : Cx}
theorem cr_sortedB {n : Nat} (hu : X.A.units + 2 + n < cLine) : CallR X (.builtin "sorted") (rSortedB X.K n) := by
  intro pins s σ H vs us Q I r h
  obtain ⟨β, enc, a, zs, rfl, hs, hd, hal, hk, hdep, q⟩ := h
  obtain ⟨its, rv, hl, hz⟩ := I.list hs
  rw [Vals.ref1 r]
  have e := each_fst rv
  have er : EachIs (fun v (b : V × β) => ∃ as, Reads s.heap v (enc b.2) as) its zs := by
    refine (each_mem e).mono fun v b hb => ?_
    exact Dp.reads I (enc b.2) b.1 v (hd b hb.2) hb.1
  have hlen : its.length = zs.length := by rw [← rv.length, List.length_map]
  refine sorted_data (enc := fun b : V × β => enc b.2) hl.isList e er hal hk (by rw [List.length_map] at hz; exact hz) (fun b hb => ?_) fun out hol eo => ?_
  · have := hdep b hb
    omega
  · obtain ⟨ep, he'⟩ := PyProof.Rows.sortedAll_at s.heap its out.toArray
    have hv := each_valsB eo
    have hperm : (zs.mergeSort (dataLe false fun b => enc b.2)).Perm zs := List.mergeSort_perm _ _
    have hl2 : ((zs.mergeSort (dataLe false fun b => enc b.2)).map Prod.fst).length ≤ sizeLine := by
      rw [List.length_map, hperm.length_eq, ← List.length_map (f := Prod.fst)]; exact hz
    exact ⟨.ref _, upd H (s.heap.objs.size + 1) (.lst _), I.laid (t' := s.toks) (fun _ _ => PyProof.Rows.sortedAll_old) (Nat.le_succ _) ⟨hl2, out, ep, hv, he'⟩, rfl, q _ (I.hok.fresh (Nat.le_succ _))⟩
end

/-! ### sorted(s), s a set of ints of any size -/
section
variable {P : Program} {w : World} {A : Around} {E : Value → Shared → Prop} {s : Shared} {a : Addr}
theorem sorted_setA {S : Int → Bool} {n : Nat} {Q : Value → Shared → Prop} (R : SetR w s.heap a S n) (hh : A.handled = none) (hz0 : n ≤ sizeLine)
    (hQ : ∀ s' p (out : Array Value) (c : Nat) (ns : List Int), (∀ b o, s.heap.get? b = some o → s'.heap.get? b = some o) → s'.gens = s.gens → s'.os = s.os → s.heap.objs.size ≤ p →
      s'.heap.get? p = some (seqObj "list" out c) → IntsAre out.toList ns → ns.Pairwise (· < ·) → (∀ k, k ∈ ns ↔ S k = true) → ns.length = n → Q (.ref p) s') :
    wpAny (model P w) A (call (.builtin "sorted") [.ref a]) Q E s := by
  obtain ⟨o, es, ep, t, ho, hex, hd, g, nd, hm, hb, hf, hn, hr, hl⟩ := R
  refine Calls.call_function_entry kind_sorted plain_sorted entry_sorted (args_sorted1 _) ?_
  unfold Builtin.«sorted»
  refine wpAny_bind (m := checkCount "sorted" 1 1 _) (wpAny_pure ?_)
  refine wpAny_bind (collect_set (A := A.in1) hh ⟨o, ho, hex.1, hd⟩ hf hb hr hl fun s1 vs k1 hz g1 o1 pm => ?_)
  have hvl : vs.length = n := by rw [pm.length_eq, List.length_map, Array.length_toList]; exact hn
  have hI : IntsAre vs (vs.map Builtin.Re.reRawOf) := ints_of vs fun v hv => by
    obtain ⟨e, he, q⟩ := List.mem_map.mp (pm.mem_iff.mp hv)
    obtain ⟨k, tk, h1, _⟩ := g e he
    exact ⟨k, tk, by rw [← q]; exact h1⟩
  have pk : (vs.map Builtin.Re.reRawOf).Perm (es.toList.map keyOf) := by
    have q := pm.map Builtin.Re.reRawOf
    rw [List.map_map] at q
    exact q
  refine wpAny_bind (wpAny_newList ?_ (by rw [hvl]; exact hz0))
  have hoL : (s1.heap.push (seqObj "list" vs.toArray 0)).get? s1.heap.objs.size = some (seqObj "list" vs.toArray 0) := Heap.get?_push_size _ rfl
  refine wpAny_bind (wpAny_holding (wpAny_call_entry slot_list_sort ⟨_, hoL, rfl⟩ entry_list_sort (SrtO.list_sort_ord SrtO.swo_int hoL (by rw [hvl]; exact hz0) (fun h2 => SrtO.ints_sortable hI h2) fun out h1 h2 => ⟨_, rfl, ?_⟩) (args_list_sort _)))
  obtain ⟨a1, a2, a3⟩ := SrtO.ints_out hI h1 h2
  obtain ⟨c, hc⟩ := sortedHeap_at (vs := vs) (out := out.toArray) hoL
  have pn : (out.map SrtO.iv).Perm (es.toList.map keyOf) := a2.trans pk
  refine wpAny_pure ⟨_, rfl, hQ _ s1.heap.objs.size out.toArray c (out.map SrtO.iv) (fun b u e => ?_) g1 o1 hz hc a1 (lt_of_le_nodup _ a3 (pn.nodup_iff.mpr nd)) (fun k => by rw [pn.mem_iff, ← hm k]) ?_⟩
  · have q := k1 b u e
    have hlt := Heap.lt_size q
    show (sortedHeap (s1.heap.push (seqObj "list" vs.toArray 0)) s1.heap.objs.size vs out.toArray).get? b = some u
    rw [sortedHeap_old (Nat.ne_of_lt hlt) (by rw [size_push']; exact Nat.lt_succ_of_lt hlt)]
    exact Heap.get?_push_of_some _ q
  · rw [pn.length_eq, List.length_map, Array.length_toList]; exact hn
end
def rSortedSetA (w : World) : List V → Hp → VK → Prop := fun vs H Q => ∃ (a : Addr) (S : Int → Bool) (n : Nat), vs = [V.ref a] ∧ H a = some (SetO w a S n) ∧ n ≤ sizeLine ∧
  ∀ (ns : List Int) (p : Addr), ns.Pairwise (· < ·) → (∀ k : Int, k ∈ ns ↔ S k = true) → ns.length = n → H p = none → Q (.ref p) (upd H p (.lst (ns.map V.int)))
section
variable {X : Cx}
theorem cr_sortedSetA (hc : X.calm = true) : CallR X (.builtin "sorted") (rSortedSetA X.w) := by
  intro pins s σ H vs us Q I r h
  obtain ⟨a, S, n, rfl, ha, h64, q⟩ := h
  have R := setO_get I ha
  rw [Vals.ref1 r]
  refine sorted_setA R (I.ok.hd hc) h64 fun s' p out c ns k g o hp hg hi hs hm hl => ?_
  have hlen : (ns.map V.int).length ≤ sizeLine := by rw [List.length_map, hl]; exact h64
  have hn : H p = none := I.hok.fresh hp
  have J : Inv X pins σ (upd H p (.lst (ns.map V.int))) { s with heap := s'.heap, gens := s'.gens, drawn := s'.drawn, toks := s'.toks } :=
    I.call (ch := []) (Un.laid k hp hn) (I.hok.laid k hp ⟨hlen, out.toList, c, vals_of_ints hi, hg⟩) (by rw [g]; exact I.bare) (fun _ z => nomatch z)
  have e : s' = { s with heap := s'.heap, gens := s'.gens, drawn := s'.drawn, toks := s'.toks } := by
    cases s'
    cases s
    cases o
    rfl
  rw [e]
  exact ⟨.ref p, _, J, rfl, q ns p hs hm hl hn⟩
/-- set(t), t a tuple of ints -/
def rSetTI (K : PySem.W.Frag) (w : World) : List V → Hp → VK → Prop := fun vs H Q => ∃ (a : Addr) (ns : List Int), vs = [V.ref a] ∧ SqT K H a (ns.map V.int) ∧ ns.length ≤ 1000 ∧
  ∀ (p : Addr) (c : Nat), c ≤ ns.length → H p = none → Q (.ref p) (upd H p (SetO w p (fun j => decide (j ∈ ns)) c))
theorem cr_setTI (hc : X.calm = true) : CallR X (.type "set") (rSetTI X.K X.w) := by
  intro pins s σ H vs us Q I r h
  obtain ⟨a, ns, rfl, hs, hn, q⟩ := h
  obtain ⟨its, rv, pt, hz⟩ := I.tuple hs
  rw [Vals.ref1 r]
  have hi : IntsAre its.toArray.toList ns := ints_of_vals rv
  refine call_set_tupI ns (I.ok.hd hc) (show s.heap.IsTuple a its.toArray from pt) hi (by unfold scanBound; omega) fun h' tk c R1 hcn k => ?_
  have hf : H s.heap.objs.size = none := I.hok.fresh (Nat.le_refl _)
  exact ⟨.ref _, _, I.laid (t' := tk) k (Nat.le_refl _) (setO_new R1), rfl, q _ c hcn hf⟩
end
end U
set_option Elab.async false
set_option maxRecDepth 100000
set_option maxHeartbeats 4000000
/-! U3: tuple(xs) kept as an object without a dict; methods of tuples; count; in over tuples of data; enumerate over a tuple. -/
namespace U
open PySem PySem.Spec PyProof.Rows L2 PySem.W

section
variable {X : Cx}
/-- tuple(xs): tracked as a tuple, or as a known object without a dict -/
def rTupleU (K : PySem.W.Frag) : List V → Hp → VK → Prop := fun xs H Q => ∃ p ys, xs = [.ref p] ∧ ((SqL K H p ys ∧ ∀ l, H l = none → Q (.ref l) (upd H l (.tup ys))) ∨ (SqT K H p ys ∧ Q (.ref p) H) ∨
  (SqL K H p ys ∧ ∀ l o, o.dict = none → H l = none → Q (.ref l) (upd H l (.frz o (.tup ys)))))
theorem cr_tupleU : CallR X (.type "tuple") (rTupleU X.K) := by
  intro pins s σ H xs us Q I r h
  obtain ⟨p, ys, rfl, h⟩ := h
  rcases h with h | h | ⟨hq, q⟩
  · exact call_tuple_of pins s σ H _ us Q I r ⟨p, ys, rfl, .inl h⟩
  · exact call_tuple_of pins s σ H _ us Q I r ⟨p, ys, rfl, .inr h⟩
  · obtain ⟨u, rfl, rx⟩ := vals1 r
    cases rx
    obtain ⟨its, r', pl, hz⟩ := I.list hq
    have hlen := r'.length
    refine call_tuple_list pl.isList (fun h' kp => ?_) (by simp only [List.size_toArray] <;> omega)
    have I1 : Inv X pins σ H { s with heap := h' } := I.kept (t' := s.toks) kp
    have e0 : (h'.push { cls := .type "tuple", data := .seq its.toArray }).get? h'.objs.size = some { cls := .type "tuple", data := .seq its.toArray } := Heap.get?_push_size _ rfl
    have I2 : Inv X pins σ (upd H h'.objs.size (.frz { cls := .type "tuple", data := .seq its.toArray } (.tup ys))) { s with heap := h'.push { cls := .type "tuple", data := .seq its.toArray } } :=
      I1.laid (t' := s.toks) (fun b o e => Heap.get?_push_of_some _ e) (Nat.le_refl _) (show ObjOk X.prog X.w _ _ _ (.frz _ (.tup ys)) from ⟨e0, hz, its, r', IsTup.new _ _⟩)
    exact ⟨.ref h'.objs.size, _, I2, rfl, q _ _ rfl (I1.hok.fresh (Nat.le_refl _))⟩

/-- a tuple whose object has no dict -/
def TupF (H : Hp) (a : Addr) (xs : List V) : Prop := ∃ o, o.dict = none ∧ H a = some (.frz o (.tup xs))
theorem TupF.sq {K : PySem.W.Frag} {H : Hp} {a : Addr} {xs : List V} (h : TupF H a xs) : SqT K H a xs := let ⟨o, _, e⟩ := h; .inl (.inr ⟨o, e⟩)
/-- t.m(e, ..), t such a tuple -/
def tTM (r : V → List V → Hp → VK → Prop) (to : TE) (t : TA) : TE := fun σ H Q => to σ H fun x H1 => (∃ p xs, x = .ref p ∧ TupF H1 p xs) ∧ t σ H1 fun xs H2 => r x xs H2 Q
theorem pe_tm {o e : Expr} {es : List Expr} {to : TE} {t : TA} {name : Str} {apos cpos : Pos} {id : String} {r : V → List V → Hp → VK → Prop} (slot : Slot "tuple" name id) (hty : typeOf (.builtin id) = pure (.type "method_descriptor")) (hm : MtR X id r) (ho : PE X o to) (ha : PA X (e :: es) t)
    (hbase : attributeBase o name X.env (eval o X.env) = eval o X.env := by rfl)
    (hfew : ((backTo cpos (starEach (e :: es) X.env)).all (fun x => !x.1) && (backToKw cpos (keywordEach [] X.env)).all (fun x => x.1.isSome)
      && decide ((e :: es).length + ([] : List Keyword).length + (if ([] : List Keyword).isEmpty then 0 else 1) < 30)) = true := by rfl)
    (hline : (apos.endLine == cpos.line) = true := by rfl) (hs : starEach (e :: es) X.env = (false, eval e X.env) :: starEach es X.env := by rfl) (hplain : (backTo cpos (starEach es X.env)).any (·.1) = false := by rfl) :
    PE X (.Call (.Attribute o name apos) (e :: es) [] cpos) (tTM r to t) := by
  refine ⟨fun pins s σ H Q I h => ?_⟩
  refine wpAny_Call_method_late hbase hfew hline rfl (thn (ho.run pins s σ H _ I h) fun v s1 ⟨x, H1, I1, r1, ⟨p, xs, ex, ob, hod, hp⟩, q1⟩ => ?_)
  subst ex
  obtain rfl : v = Value.ref p := r1
  obtain ⟨e0, e1⟩ := I1.hok p _ hp
  obtain ⟨hz, its, rv, hT⟩ := e1
  refine ⟨"tuple", id, PySem.F.plainAttrs_tuple, slot, hty, hT.typeIs, fun a e => ?_, ?_⟩
  · cases e
    exact ⟨ob, e0, hod⟩
  have hA := ha.run cpos pins s1 σ H1 _ I1 q1
  rw [hs] at hA ⊢
  refine Calls.callWith_builtin (by show (false || (backTo cpos (starEach es X.env)).any (·.1)) = false; rw [hplain] <;> rfl) (Calls.evalArgs_plain ?_)
  exact thn hA fun us s2 ⟨vs, H2, I2, r2, q2⟩ => hm pins s2 σ H2 (.ref p) vs (.ref p) us Q I2 rfl r2 q2

/-- t.count(x), data -/
def rTCount (K : PySem.W.Frag) (n : Nat) : V → List V → Hp → VK → Prop := fun x vs H Q => ∃ (p : Addr) (y : V) (ds : List PyData) (d : PyData), x = .ref p ∧ vs = [y] ∧ Dp K H (.ref p) (.tuple ds) ∧ Dp K H y d ∧ PyData.canLayAll0 ds = true ∧ d.canLay0 = true ∧
  min (PyData.depthAll ds) d.depth ≤ n ∧ Q (.int ((ds.countP fun z => PyData.eqv z d : Nat) : Int)) H
theorem mt_tcount {n : Nat} (hu : X.A.units + 1 + n < cLine) : MtR X "tuple.count" (rTCount X.K n) := by
  intro pins s σ H x xs v us Q I rx rxs h
  obtain ⟨p, y, ds, d, rfl, rfl, hp, hy, cl, cd, hn, q⟩ := h
  obtain ⟨u, rfl, ru⟩ := vals1 rxs
  obtain rfl : v = Value.ref p := rx
  obtain ⟨as, r1⟩ := Dp.reads I (.tuple ds) (.ref p) (.ref p) hp rfl
  obtain ⟨bs, r2⟩ := Dp.reads I d y u hy ru
  cases r1 with
  | tuple h1 h2 h3 h4 =>
    exact SeqAt.count_tuple_data ⟨_, h1, h2, _, h3⟩ h4 r2 (PyData.plainAll_of_canLay0 _ cl) (PyData.plain_of_canLay0 _ cd) (by omega) ⟨.int _, H, I.tok _, ⟨_, rfl⟩, q⟩

/-- x in t, x not in t: a tuple of data -/
def rInDT (K : PySem.W.Frag) (n : Nat) (neg : Bool) : R2 := fun x y H Q => ∃ d ds, Dp K H x d ∧ Dp K H y (.tuple ds) ∧ d.canLay0 = true ∧ PyData.canLayAll0 ds = true ∧ min (PyData.depthAll ds) d.depth ≤ n ∧
  Q (.bl (if neg then !(ds.any fun z => PyData.eqv z d) else ds.any fun z => PyData.eqv z d)) H
theorem op_inDT {n : Nat} (hu : X.A.units + 1 + n < cLine) : OpR X (compareOp .In) (rInDT X.K n false) := by
  intro pins s σ H x y v u Q I rx ry h
  obtain ⟨d, ds, hd, he, sd, se, hn, q⟩ := h
  obtain ⟨as, r1⟩ := Dp.reads I d x v hd rx
  obtain ⟨bs, r2⟩ := Dp.reads I (.tuple ds) y u he ry
  exact SeqAt.in_tuple_reads r2 r1 se sd (by omega) ⟨.bl _, H, I, rfl, q⟩
theorem op_ninDT {n : Nat} (hu : X.A.units + 1 + n < cLine) : OpR X (compareOp .NotIn) (rInDT X.K n true) := by
  intro pins s σ H x y v u Q I rx ry h
  obtain ⟨d, ds, hd, he, sd, se, hn, q⟩ := h
  obtain ⟨as, r1⟩ := Dp.reads I d x v hd rx
  obtain ⟨bs, r2⟩ := Dp.reads I (.tuple ds) y u he ry
  exact SeqAt.notIn_tuple_reads r2 r1 se sd (by omega) ⟨.bl _, H, I, rfl, q⟩
end

/-! ### enumerate(t) of a tuple -/
section
variable {prog : Program} {w : World} {A : Around} {E : Value → Shared → Prop} {s : Shared}
set_option maxHeartbeats 4000000 in
theorem meets_enumerate_newB1 {v : Value} {o : Obj} {H : Heap → Prop} (B : Begins v o H) :
    Meets (Builtin.«enumerate.__new__» ⟨[.type "enumerate", v], []⟩) (fun _ R s => H s.heap ∧
      R (.ok (.ret (.ref (s.heap.push o).objs.size))) { s with heap := (s.heap.push o).push { cls := .type "enumerate", data := .fields #[.none, .bool false, .ref s.heap.objs.size, rawInt 0, .none, .none] } }) :=
  .of_wp fun prog w A R s h => by
    obtain ⟨hp, g, d, tk, os⟩ := s; obtain ⟨h1, h⟩ := h
    have hsub := sub_enumerate
    have q1 : ∀ {A' : Around} {E : Value → Shared → Prop} {Q : Value → Shared → Prop}, Q (.ref hp.objs.size) ⟨hp.push o, g, d, tk, os⟩ → wpAny (model prog w) A' (pyIter v) Q E ⟨hp, g, d, tk, os⟩ :=
      fun q => B.iter prog w _ _ ⟨hp, g, d, tk, os⟩ _ h1 q
    wp_walk using q1
    refine wpAny_stack_any fun st => wpAny_pure ?_
    split
    · rename_i c _ _ _ _ _
      cases (c == Value.type "enumerate")
      · wp_walk using q1
        exact ⟨_, rfl, h⟩
      · wp_walk using q1
        exact ⟨_, rfl, h⟩
    · wp_walk using q1
      exact ⟨_, rfl, h⟩
theorem enum_begins1 {v : Value} {o : Obj} {H : Heap → Prop} {Q : Value → Shared → Prop} (B : Begins v o H) (h1 : H s.heap)
    (h : ∀ h', IsEnum h' (s.heap.objs.size + 1) s.heap.objs.size 0 .none → h'.get? s.heap.objs.size = some o → h'.objs.size = s.heap.objs.size + 2 →
      (∀ b o, s.heap.get? b = some o → h'.get? b = some o) → Q (.ref (s.heap.objs.size + 1)) { s with heap := h' }) :
    wpAny (model prog w) A (call (.type "enumerate") [v]) Q E s := by
  refine callType_new PySem.F.called_enumerate (by decide) (PySem.F.typeCall_enumerate_1 _) (PySem.F.newCall_enumerate_1 _) (fun obj => PySem.F.args_object_init_2 obj _) PySem.F.entry_enumerate_new
    (meets_enumerate_newB1 B) ⟨h1, ?_⟩
  have hz : (s.heap.push o).objs.size = s.heap.objs.size + 1 := Heap.size_push ..
  show _ ∧ _
  rw [hz]
  have he : IsEnum ((s.heap.push o).push { cls := .type "enumerate", data := .fields #[.none, .bool false, .ref s.heap.objs.size, rawInt 0, .none, .none] }) (s.heap.objs.size + 1) s.heap.objs.size 0 .none := by
    have := Heap.get?_push_size (s.heap.push o) (o := { cls := .type "enumerate", data := .fields #[.none, .bool false, .ref s.heap.objs.size, rawInt 0, .none, .none] }) rfl
    rw [hz] at this; exact this
  refine ⟨⟨_, he, rfl⟩, h _ he (Heap.get?_push_of_some _ (Heap.get?_push_size _ B.free)) (by rw [Heap.size_push, hz]) fun b o x => Heap.get?_push_of_some _ (Heap.get?_push_of_some _ x)⟩
end

/-- the tuple at a, each item in a new pair -/
def IteT (K : PySem.W.Frag) (a : Addr) : It :=
  ⟨fun i H => ∃ (xs : List V) (x : V), SqT K H a xs ∧ xs[i]? = some x, fun i H v H' => ∃ T x, v = .ref T ∧ H T = none ∧ H' = upd H T (.tup [.int (i : Nat), x]) ∧ ∀ xs, SqT K H a xs → xs[i]? = some x, fun i H => ∃ xs : List V, SqT K H a xs ∧ xs.length = i⟩
theorem walk_enumT {K : PySem.W.Frag} {a : Addr} {xs : List V} : Walk (IteT K a) xs.length (fun H => SqT K H a xs) (YPair (fun i => some (.int (i : Nat))) (fun i => xs[i]?)) := by
  refine ⟨fun i H hi h => ⟨xs, xs[i], h, by simp [hi]⟩, fun H h => ⟨xs, h, rfl⟩, ?_⟩
  rintro i H v H' hi h ⟨T, x, e1, e2, e3, e4⟩
  exact ⟨T, .int (i : Nat), x, e1, e2, e3, rfl, e4 xs h⟩
theorem turn_enumT {P : Program} {w : World} {K : PySem.W.Frag} {elts : List Expr} {kk : Nat} {tpos : Pos} (a e it : Addr) :
    Turn P w K (.Tuple elts kk tpos) (IteT K a) [e, it] e (fun i h => (∃ old, IsEnum h e it ((i : Nat) : Int) old) ∧ h.IsTupleIter it a i ∧ e ≠ it) where
  mem := by simp
  obj := fun i h st b hb => by
    obtain ⟨⟨old, he⟩, ⟨o, ho, hc, hd⟩, _⟩ := st
    have e' : b = e ∨ b = it := by simpa using hb
    rcases e' with z | z
    · rw [z]; exact ⟨_, he, fun v q => nomatch q⟩
    · rw [z]; exact ⟨o, ho, fun v q => by rw [hd] at q; cases q⟩
  keep := fun i h h' st k => let ⟨⟨old, he⟩, hi, hne⟩ := st; ⟨⟨old, k e (by simp) _ he⟩, hi.at fun o q => k it (by simp) o q, hne⟩
  item := by
    intro X hP hw hK hc i pins s σ H E I hf st hg
    subst hP hw hK
    obtain ⟨⟨old, he⟩, hit, hne⟩ := st
    obtain ⟨xs, x, hq, hx⟩ := hg
    obtain ⟨its, rv, p, hz⟩ := I.tuple hq
    obtain ⟨u, hu, ru⟩ := rv.get hx
    have hel : e < s.heap.objs.size := Heap.lt_size he
    have hil : it < s.heap.objs.size := by obtain ⟨_, q, _⟩ := hit; exact Heap.lt_size q
    have hta : s.heap.IsTuple a its.toArray := p
    have hae : e ≠ a := by
      rintro rfl
      obtain ⟨o, ho, hcl, _⟩ := hta
      have he2 : s.heap.get? e = some _ := he
      rw [he2] at ho
      cases ho
      exact absurd (show Value.type "enumerate" = Value.type "tuple" from hcl) (by decide)
    have hai : a ≠ it := by
      rintro rfl
      obtain ⟨o, ho, hcl, _⟩ := hta
      obtain ⟨o2, ho2, hcl2, _⟩ := hit
      rw [ho] at ho2
      cases ho2
      rw [hcl] at hcl2
      exact absurd hcl2 (by decide)
    have hil2 : i < its.toArray.size := by
      have := (List.getElem?_eq_some_iff.mp hu).1
      simpa using this
    refine wpAny_pyNext_enum_itemD (Draws.tuple (A := X.A.in1) (by simpa using I.ok.hd hc) it a hai its.toArray) he ⟨hit, hta⟩ hil2 hne (by simp [hne, hae]) fun y h' tk hy ho hit' hT hsz hk => ?_
    have hyu : y = u := by
      have : its.toArray[i]? = some y := hy
      rw [List.getElem?_toArray, hu] at this
      exact (Option.some.inj this).symm
    subst hyu
    refine ⟨_, rfl, wpAny_letOwnedTupleGo_enum (s := { s with heap := h', toks := tk + 1 }) ho fun h'' he' sb => ?_⟩
    have hT2 : h''.get? s.heap.objs.size = some { cls := .type "tuple", data := .seq #[.int i tk, y] } := (sb.2 _ (Nat.ne_of_gt hel)).trans hT
    have new : ObjOk X.prog X.w (upd H s.heap.objs.size (.tup [.int (i : Nat), x])) h'' s.heap.objs.size (.tup [.int (i : Nat), x]) :=
      ⟨by show 2 ≤ sizeLine; decide, [.int i tk, y], .cons ⟨_, rfl⟩ (.cons ru .nil), ⟨_, hT2, rfl, _, rfl⟩⟩
    have I1 : Inv X pins σ (upd H s.heap.objs.size (.tup [.int (i : Nat), x])) { s with heap := h'', toks := tk + 1 } :=
      I.turnedNew (ch := [e, it]) (fun b ob hb q => (sb.2 b (fun z => hb (by simp [z]))).trans (hk b ob (fun z => hb (by simp [z])) (fun z => hb (by simp [z])) q)) hf (Nat.le_refl _) new
    refine ⟨.ref s.heap.objs.size, _, I1, rfl, ⟨_, x, rfl, I.hok.fresh (Nat.le_refl _), rfl, fun ys hy => by rw [I.tuple_inj hy hq]; exact hx⟩, ⟨⟨y, ?_⟩, hit'.1.at fun o q => (sb.2 it (Ne.symm hne)).trans q, hne⟩, fun b hb => ?_⟩
    · have e1 : ((i + 1 : Nat) : Int) = (i : Int) + 1 := by omega
      rw [e1]; exact he'
    · have hb' : b < s.heap.objs.size := by
        have e' : b = e ∨ b = it := by simpa using hb
        rcases e' with z | z
        · rw [z]; exact hel
        · rw [z]; exact hil
      rw [upd_ne (Nat.ne_of_lt hb')]
      exact (hf b hb).1
  done := by
    intro X hP hw hK hc i pins s σ H E I hf st hg
    subst hP hw hK
    obtain ⟨⟨old, he⟩, hit, hne⟩ := st
    obtain ⟨xs, hq, hx⟩ := hg
    obtain ⟨its, rv, p, hz⟩ := I.tuple hq
    obtain ⟨f0, f1, f2, f3, f4, f5⟩ := hf it (by simp)
    have hl := rv.length
    have hta : s.heap.IsTuple a its.toArray := p
    have hai : a ≠ it := by
      rintro rfl
      obtain ⟨o, ho, hcl, _⟩ := hta
      obtain ⟨o2, ho2, hcl2, _⟩ := hit
      rw [ho] at ho2
      cases ho2
      rw [hcl] at hcl2
      exact absurd hcl2 (by decide)
    have hi2 : i = its.toArray.size := by rw [List.size_toArray]; omega
    subst hi2
    exact wpAny_pyNext_enum_endD (Draws.tuple (A := X.A.in1) (by simpa using I.ok.hd hc) it a hai its.toArray) he ⟨hit, hta⟩ fun h' eb => ⟨rfl, I.turned (t' := s.toks) (fun b o hb q => eb b o hb q) f0 f1 f3 f4 f5⟩
  self := fun A i s Q E st h => let ⟨⟨_, he⟩, _⟩ := st; wpAny_pyIter_enum he h
/-- for i, x in enumerate(e), e a list or a tuple -/
def iEnumT (K : PySem.W.Frag) (ta : TA) : TI := fun σ H R => ta σ H fun vs H1 => ∃ a xs, vs = [.ref a] ∧ SqT K H1 a xs ∧ R (IteT K a) H1
theorem pi_enumT {X : Cx} {e : Expr} {ta : TA} {p pos tpos : Pos} {elts : List Expr} {kk : Nat} (hg : Gl X "enumerate") (hm : X.mg "enumerate" = none) (ha : PA X [e] ta) (hs : starEach [e] X.env = [(false, eval e X.env)] := by rfl) :
    PI X (.Tuple elts kk tpos) (.Call (.Name "enumerate" p) [e] [] pos) (iEnumT X.K ta) := by
  refine ⟨fun pins s σ H R I h => ?_⟩
  refine Call_ (ld_blt I hg hm boot_enumerate (PyProof.Rows.callWith_type1 (thn (ha.run pos pins s σ H _ I h) fun us s1 ⟨vs, H1, I1, r1, q1⟩ => ?_) hs rfl))
  obtain ⟨a, xs, ex, hq, q⟩ := q1
  subst ex
  cases r1 with
  | cons r rr =>
    cases rr
    cases r
    obtain ⟨its, rv, p', hz⟩ := I1.tuple hq
    refine enum_begins1 (begins_tuple a its.toArray) p' fun h' he hit hsz hk => wpAny_pyIter_enum he ?_
    have I2 : Inv X pins σ H1 { s1 with heap := h' } := I1.kept (t' := s1.toks) hk
    refine ⟨s1.heap.objs.size + 1, [s1.heap.objs.size + 1, s1.heap.objs.size], _, _, H1, rfl, I2, turn_enumT a (s1.heap.objs.size + 1) s1.heap.objs.size, ⟨⟨.none, he⟩, ⟨_, hit, rfl, rfl⟩, Nat.succ_ne_self _⟩, fun b hb => ?_, q⟩
    have e' : b = s1.heap.objs.size + 1 ∨ b = s1.heap.objs.size := by simpa using hb
    have hle : s1.heap.objs.size ≤ b := by
      rcases e' with z | z
      · rw [z]; exact Nat.le_add_right _ _
      · rw [z]; exact Nat.le_refl _
    exact I1.fpOk hle (I1.hok.fresh hle)
def iEnumU (K : PySem.W.Frag) (ta : TA) : TI := fun σ H R => iEnum K ta σ H R ∨ iEnumT K ta σ H R
theorem pi_enumU {X : Cx} {e : Expr} {ta : TA} {p pos tpos : Pos} {elts : List Expr} {kk : Nat} (hg : Gl X "enumerate") (hm : X.mg "enumerate" = none) (ha : PA X [e] ta) (hs : starEach [e] X.env = [(false, eval e X.env)] := by rfl) :
    PI X (.Tuple elts kk tpos) (.Call (.Name "enumerate" p) [e] [] pos) (iEnumU X.K ta) := PI.or (pi_enum hg hm ha hs) (pi_enumT hg hm ha hs)
end U
set_option Elab.async false
set_option maxRecDepth 100000
set_option maxHeartbeats 4000000
/-! U4: min, max of tuples; built-ins that serve several kinds; the room; a def of the top. -/
namespace U
open PySem PySem.Spec PyProof.Rows L2 PySem.W

theorem foldl_min_le : ∀ (ns : List Int) (n : Int), ns.foldl min n ≤ n ∧ ∀ y ∈ ns, ns.foldl min n ≤ y
  | [], n => ⟨Int.le_refl _, fun y h => by cases h⟩
  | x :: ns, n => by
    obtain ⟨h1, h2⟩ := foldl_min_le ns (min n x)
    refine ⟨?_, fun y hy => ?_⟩
    · show ns.foldl min (min n x) ≤ n
      omega
    · show ns.foldl min (min n x) ≤ y
      rcases List.mem_cons.mp hy with e | hy
      · subst e; omega
      · exact h2 y hy
theorem foldl_min_mem : ∀ (ns : List Int) (n : Int), ns.foldl min n ∈ n :: ns
  | [], n => List.mem_cons_self
  | x :: ns, n => by
    have h := foldl_min_mem ns (min n x)
    show ns.foldl min (min n x) ∈ n :: x :: ns
    rcases List.mem_cons.mp h with e | h
    · rw [e]
      rcases Int.le_total n x with q | q
      · rw [Int.min_eq_left q]; exact List.mem_cons_self
      · rw [Int.min_eq_right q]; exact List.mem_cons_of_mem _ List.mem_cons_self
    · exact List.mem_cons_of_mem _ (List.mem_cons_of_mem _ h)
theorem foldl_max_le : ∀ (ns : List Int) (n : Int), n ≤ ns.foldl max n ∧ ∀ y ∈ ns, y ≤ ns.foldl max n
  | [], n => ⟨Int.le_refl _, fun y h => by cases h⟩
  | x :: ns, n => by
    obtain ⟨h1, h2⟩ := foldl_max_le ns (max n x)
    refine ⟨?_, fun y hy => ?_⟩
    · show n ≤ ns.foldl max (max n x)
      omega
    · show y ≤ ns.foldl max (max n x)
      rcases List.mem_cons.mp hy with e | hy
      · subst e; omega
      · exact h2 y hy
theorem foldl_max_mem : ∀ (ns : List Int) (n : Int), ns.foldl max n ∈ n :: ns
  | [], n => List.mem_cons_self
  | x :: ns, n => by
    have h := foldl_max_mem ns (max n x)
    show ns.foldl max (max n x) ∈ n :: x :: ns
    rcases List.mem_cons.mp h with e | h
    · rw [e]
      rcases Int.le_total n x with q | q
      · rw [Int.max_eq_right q]; exact List.mem_cons_of_mem _ List.mem_cons_self
      · rw [Int.max_eq_left q]; exact List.mem_cons_self
    · exact List.mem_cons_of_mem _ (List.mem_cons_of_mem _ h)
theorem dp_ints (K : PySem.W.Frag) (H : Hp) : ∀ ns : List Int, DpAll K H (ns.map V.int) (ns.map PyData.int)
  | [] => .nil
  | n :: ns => .cons (.int n) (dp_ints K H ns)
theorem alikeAll_ints (ns : List Int) : AlikeAll (ns.map PyData.int) := by
  refine ⟨fun x hx y hy => ?_, fun x hx => ?_⟩
  · obtain ⟨a, _, rfl⟩ := List.mem_map.mp hx
    obtain ⟨b, _, rfl⟩ := List.mem_map.mp hy
    simp [alike]
  · obtain ⟨a, _, rfl⟩ := List.mem_map.mp hx
    exact fun z => nomatch z
section
variable {X : Cx}
def rMinT (K : PySem.W.Frag) : List V → Hp → VK → Prop := fun vs H Q => ∃ (a : Addr) (ns : List Int), vs = [V.ref a] ∧ SqT K H a (ns.map V.int) ∧ 0 < ns.length ∧ ∀ m, m ∈ ns → (∀ y, y ∈ ns → m ≤ y) → Q (.int m) H
def rMaxT (K : PySem.W.Frag) : List V → Hp → VK → Prop := fun vs H Q => ∃ (a : Addr) (ns : List Int), vs = [V.ref a] ∧ SqT K H a (ns.map V.int) ∧ 0 < ns.length ∧ ∀ m, m ∈ ns → (∀ y, y ∈ ns → y ≤ m) → Q (.int m) H
theorem cr_minT (hc : X.calm = true) (hu : X.A.units + 1 < cLine) : CallR X (.builtin "min") (rMinT X.K) := by
  intro pins s σ H vs us Q I r h
  obtain ⟨a, ns, rfl, hs, hne, q⟩ := h
  obtain ⟨its, rv, hl, _⟩ := I.tuple hs
  rw [Vals.ref1 r]
  obtain ⟨as, hr⟩ := Dp.readsAll I _ _ its (dp_ints X.K H ns) rv
  match ns, hne with
  | n :: ns, _ =>
    refine min_tuple_data (x := .int n) (xs := ns.map .int) (vs := its.toArray) (I.ok.hd hc) hl (by simpa using hr) (alikeAll_ints (n :: ns)) (by rw [show PyData.depthAll (.int n :: ns.map .int) = 0 from depth_ints (n :: ns)]; omega) fun i v h' tk bs _ hv hk => ?_
    rw [minD_ints] at hv
    obtain ⟨t, rfl⟩ : ∃ t, v = .int (ns.foldl min n) t := by cases hv; exact ⟨_, rfl⟩
    obtain ⟨h1, h2⟩ := foldl_min_le ns n
    exact ⟨.int _, H, I.kept hk, ⟨_, rfl⟩, q _ (foldl_min_mem ns n) fun y hy => by
      rcases List.mem_cons.mp hy with e | hy
      · subst e; exact h1
      · exact h2 y hy⟩
theorem cr_maxT (hc : X.calm = true) (hu : X.A.units + 1 < cLine) : CallR X (.builtin "max") (rMaxT X.K) := by
  intro pins s σ H vs us Q I r h
  obtain ⟨a, ns, rfl, hs, hne, q⟩ := h
  obtain ⟨its, rv, hl, _⟩ := I.tuple hs
  rw [Vals.ref1 r]
  obtain ⟨as, hr⟩ := Dp.readsAll I _ _ its (dp_ints X.K H ns) rv
  match ns, hne with
  | n :: ns, _ =>
    refine max_tuple_data (x := .int n) (xs := ns.map .int) (vs := its.toArray) (I.ok.hd hc) hl (by simpa using hr) (alikeAll_ints (n :: ns)) (by rw [show PyData.depthAll (.int n :: ns.map .int) = 0 from depth_ints (n :: ns)]; omega) fun i v h' tk bs _ hv hk => ?_
    rw [maxD_ints] at hv
    obtain ⟨t, rfl⟩ : ∃ t, v = .int (ns.foldl max n) t := by cases hv; exact ⟨_, rfl⟩
    obtain ⟨h1, h2⟩ := foldl_max_le ns n
    exact ⟨.int _, H, I.kept hk, ⟨_, rfl⟩, q _ (foldl_max_mem ns n) fun y hy => by
      rcases List.mem_cons.mp hy with e | hy
      · subst e; exact h1
      · exact h2 y hy⟩
def rMin2 : List V → Hp → VK → Prop := fun xs H Q => ∃ i j, xs = [.int i, .int j] ∧ Q (.int (if j < i then j else i)) H
def rMax2 : List V → Hp → VK → Prop := fun xs H Q => ∃ i j, xs = [.int i, .int j] ∧ Q (.int (if j > i then j else i)) H
def rMinU (K : PySem.W.Frag) : List V → Hp → VK → Prop := fun xs H Q => rMin2 xs H Q ∨ rMin K xs H Q ∨ rMinT K xs H Q
def rMaxU (K : PySem.W.Frag) : List V → Hp → VK → Prop := fun xs H Q => rMax2 xs H Q ∨ rMax K xs H Q ∨ rMaxT K xs H Q
theorem cr_minU (hc : X.calm = true) (hu : X.A.units + 1 < cLine) : CallR X (.builtin "min") (rMinU X.K) := CallR.or (call_min2 hc) (CallR.or (cr_min hc) (cr_minT hc hu))
theorem cr_maxU (hc : X.calm = true) (hu : X.A.units + 1 < cLine) : CallR X (.builtin "max") (rMaxU X.K) := CallR.or (call_max2 hc) (CallR.or (cr_max hc) (cr_maxT hc hu))
def CMulU (i j : Int) : Prop := CMul i j ∨ CMulW i j
theorem op_mulI : OpR X (binaryOp .Mult) (rI CMulU fun i j => .int (i * j)) := opI fun _ _ _ _ _ _ _ hc q => mul_int q (hc.elim CMul.ok CMulW.ok)
def rMulU : R2 := fun x y H Q => rI CMulU (fun i j => .int (i * j)) x y H Q ∨ rRep x y H Q
theorem op_mulU : OpR X (binaryOp .Mult) rMulU := op_mulI.or op_rep
def rLenU (K : PySem.W.Frag) : List V → Hp → VK → Prop := fun xs H Q => ∃ p, xs = [.ref p] ∧ ((∃ ys, (SqL K H p ys ∨ SqT K H p ys) ∧ Q (.int ys.length) H) ∨ ∃ kvs, H p = some (.dK kvs) ∧ Q (.int kvs.length) H)
theorem cr_lenU : CallR X (.builtin "len") (rLenU X.K) := by
  intro pins s σ H vs us Q I r h
  obtain ⟨p, rfl, h | h⟩ := h
  · obtain ⟨ys, h, q⟩ := h
    exact call_len_seq pins s σ H _ us Q I r ⟨p, ys, rfl, h, q⟩
  · obtain ⟨kvs, h, q⟩ := h
    exact call_lenD pins s σ H _ us Q I r ⟨p, kvs, rfl, h, q⟩
def rSortedU (K : PySem.W.Frag) (w : World) (n : Nat) : List V → Hp → VK → Prop := fun xs H Q => rSortedI K xs H Q ∨ rSortedB K n xs H Q ∨ rSortedSetA w xs H Q
theorem cr_sortedU {n : Nat} (hc : X.calm = true) (hu : X.A.units + 2 + n < cLine) : CallR X (.builtin "sorted") (rSortedU X.K X.w n) := CallR.or cr_sortedI (CallR.or (cr_sortedB hu) (cr_sortedSetA hc))
end
/-- the room a def has -/
theorem room_n {A : Around} {k n : Nat} (h : Room k A) (hk : 60 ≤ k) (hn : n ≤ 900) : A.units + n < cLine := by have := h.un; omega
theorem room_2n {A : Around} {k n : Nat} (h : Room k A) (hk : 60 ≤ k) (hn : n ≤ 900) : A.units + 2 + n < cLine := by have := h.un; omega
theorem room_1n {A : Around} {k n : Nat} (h : Room k A) (hk : 60 ≤ k) (hn : n ≤ 900) : A.units + 1 + n < cLine := by have := h.un; omega
/-- a def of the top, found -/
structure Fn (K : PySem.W.Frag) (mg : Str → Option Value) (x : Str) (st : Stmt) (ps : List Str) where
  f : Addr
  fd : FuncData
  F : Fun K x x st f fd
  b : Binds K fd ps []
  m : mg x = some (.ref f)
end U
set_option Elab.async false
set_option maxRecDepth 100000
set_option maxHeartbeats 4000000
/-! U5: names for the readings of a few calls. -/
namespace U
open PySem PySem.Spec PyProof.Rows L2 PySem.W
abbrev rReprI : List V → Hp → VK → Prop := fun xs H Q => ∃ i, xs = [.int i] ∧ i.natAbs.log2 < 1920 ∧ Q (.str (toString i)) H
abbrev rAbsI : List V → Hp → VK → Prop := fun xs H Q => ∃ i, xs = [.int i] ∧ Q (.int (if i < 0 then -i else i)) H
abbrev rIntI : List V → Hp → VK → Prop := fun xs H Q => (∃ i, xs = [.int i] ∧ Q (.int i) H) ∨ ∃ k, xs = [.bl k] ∧ Q (.int (if k then 1 else 0)) H
abbrev rListOf (K : PySem.W.Frag) : List V → Hp → VK → Prop := fun xs H Q => ∃ p ys, xs = [.ref p] ∧ (SqL K H p ys ∨ SqT K H p ys) ∧ ∀ l, H l = none → Q (.ref l) (upd H l (.lst ys))
abbrev tTruth (K : PySem.W.Frag) (ta : TE) : TT := fun σ H Q => ta σ H fun x H' => ∃ k, TruV K x H' k ∧ Q k H'
end U
set_option Elab.async false
set_option maxRecDepth 100000
set_option maxHeartbeats 4000000
set_option linter.all false
/-! U6: the transformers applied, as equations for simp. -/
namespace U
open PySem PySem.Spec PyProof.Rows L2 PySem.W
section
variable {K : PySem.W.Frag} {t u : TS} {te ta tb tx : TE} {tt tc : TT} {D : Ends} {σ : L2.St} {H : Hp} {Q : VK} {QT : Bool → Hp → Prop} {QA : List V → Hp → Prop} {QS : L2.St → Hp → Prop} {g : TG} {gs : TGs} {v : V} {vs : List V} {i j n : Nat} {r : R2} {tl th : TO} {tr : TA}
theorem w_seq : tSeq t u D σ H = t { D with nx := u D } σ H := rfl
theorem w_next : tNext D σ H = D.nx σ H := rfl
theorem w_asg : tAsg te g D σ H = te σ H fun x H1 => g x σ H1 D.nx := rfl
theorem w_gname : gName i v σ H QS = QS (σ.set i (some v)) H := rfl
theorem w_gtup : gTup K n gs v σ H QS = ∃ a xs, v = .ref a ∧ SqT K H a xs ∧ xs.length = n ∧ gs xs σ H QS := rfl
theorem w_gcons : gCons g gs (v :: vs) σ H QS = g v σ H fun σ' H' => gs vs σ' H' QS := by
  unfold gCons
  apply propext
  constructor
  · rintro ⟨v', r, e, h⟩
    cases e; exact h
  · intro h
    exact ⟨v, vs, rfl, h⟩
theorem w_gnil : gNil [] σ H QS = QS σ H := by
  unfold gNil
  apply propext
  constructor
  · rintro ⟨_, h⟩; exact h
  · intro h; exact ⟨rfl, h⟩
theorem w_gsub {s : TSet} : gSub ta tb s v σ H QS = ta σ H fun o H1 => tb σ H1 fun i H2 => s o i v H2 fun H3 => QS σ H3 := rfl
theorem w_ret : tRet te D σ H = te σ H D.rt := rfl
theorem w_retn : tRetN D σ H = D.rt .non H := rfl
theorem w_drop : tDrop te D σ H = te σ H fun _ H1 => D.nx σ H1 := rfl
theorem w_if : tIfS tc t u D σ H = tc σ H fun b H1 => if b = true then t D σ H1 else u D σ H1 := rfl
theorem w_brk : tBreak D σ H = D.bk σ H := rfl
theorem w_cont : tCont D σ H = D.ct σ H := rfl
theorem w_var : tVar i σ H Q = ∃ v, σ[i]? = some (some v) ∧ Q v H := rfl
theorem w_c : tC v σ H Q = Q v H := rfl
theorem w_op : tOp r ta tb σ H Q = ta σ H fun x H1 => tb σ H1 fun y H2 => r x y H2 Q := rfl
theorem w_un {r : V → Hp → VK → Prop} : tUn r ta σ H Q = ta σ H fun x H1 => r x H1 Q := rfl
theorem w_test : tTest te σ H QT = te σ H fun x H' => ∃ k, x = .bl k ∧ QT k H' := rfl
theorem w_tb : tB te σ H QT = te σ H fun x H' => ∃ k, x = .bl k ∧ QT k H' := rfl
theorem w_and : tAnd tt tc σ H QT = tt σ H fun c H1 => if c = true then tc σ H1 QT else QT false H1 := rfl
theorem w_or : tOr tt tc σ H QT = tt σ H fun c H1 => if c = true then QT true H1 else tc σ H1 QT := rfl
theorem w_not : tNot tt σ H QT = tt σ H fun c H1 => QT (!c) H1 := rfl
theorem w_andv : tAndV ta tb σ H Q = ta σ H fun x H1 => ∃ c, x = .bl c ∧ if c = true then tb σ H1 Q else Q (.bl false) H1 := rfl
theorem w_orv : tOrV ta tb σ H Q = ta σ H fun x H1 => ∃ c, x = .bl c ∧ if c = true then Q (.bl true) H1 else tb σ H1 Q := rfl
theorem w_notv : tNotV ta σ H Q = ta σ H fun x H1 => ∃ c, x = .bl c ∧ Q (.bl (!c)) H1 := rfl
theorem w_ifx : tIf tt ta tb σ H Q = tt σ H fun c H1 => if c = true then ta σ H1 Q else tb σ H1 Q := rfl
theorem w_yes : tYes σ H QT = QT true H := rfl
theorem w_nil : tNil σ H QA = QA [] H := rfl
theorem w_cons {ts : TA} : tCons ta ts σ H QA = ta σ H fun x H1 => ts σ H1 fun xs H2 => QA (x :: xs) H2 := rfl
theorem w_tup : tTup tr σ H Q = tr σ H fun xs H1 => xs.length ≤ sizeLine ∧ ∀ p, H1 p = none → Q (.ref p) (upd H1 p (.tup xs)) := rfl
theorem w_lst : tLst tr σ H Q = tr σ H fun xs H1 => xs.length ≤ sizeLine ∧ ∀ p, H1 p = none → Q (.ref p) (upd H1 p (.lst xs)) := rfl
theorem w_par : tPar i j tr D σ H = tr σ H fun vs H1 => ∃ v w, vs = [v, w] ∧ D.nx ((σ.set i (some v)).set j (some w)) H1 := rfl
theorem w_par3 {l : Nat} : tPar3 i j l tr D σ H = tr σ H fun vs H1 => ∃ u v w, vs = [u, v, w] ∧ D.nx (((σ.set i (some u)).set j (some v)).set l (some w)) H1 := rfl
theorem w_aug {ti : TIp} : tAug i te ti D σ H = ∃ x, σ[i]? = some (some x) ∧ te σ H fun y H1 => ti x y H1 fun z H2 => D.nx (σ.set i (some z)) H2 := rfl
theorem w_ip {f : Int → Int → Int} {a b : Int} : ipI f (.int a) (.int b) H Q = Q (.int (f a b)) H := by
  unfold ipI
  apply propext
  constructor
  · rintro ⟨i, j, e1, e2, h⟩; cases e1; cases e2; exact h
  · intro h; exact ⟨a, b, rfl, rfl, h⟩
theorem w_cb {r : List V → Hp → VK → Prop} : tCB r tr σ H Q = tr σ H fun vs H1 => r vs H1 Q := rfl
theorem w_call {sp : Sp} {dvs : List V} {E : XK} : tCall sp dvs E tr σ H Q = tr σ H fun vs H1 => sp (vs ++ dvs) H1 Q E := rfl
theorem w_sl {r : V → Option Int → Option Int → Hp → VK → Prop} : tSl r te tl th σ H Q = te σ H fun x H1 => tl σ H1 fun l H2 => th σ H2 fun u H3 => r x l u H3 Q := rfl
theorem w_nopart {QO : Option Int → Hp → Prop} : tNoPart σ H QO = QO none H := rfl
theorem w_part {QO : Option Int → Hp → Prop} : tPart te σ H QO = te σ H fun x H1 => ∃ i, x = .int i ∧ QO (some i) H1 := rfl
theorem w_bm {T : String} {r : V → List V → Hp → VK → Prop} : tBM K T r te tr σ H Q = te σ H fun x H1 => tyV K T x H1 ∧ tr σ H1 fun xs H2 => r x xs H2 Q := rfl
theorem w_bm0 {T : String} {r : V → List V → Hp → VK → Prop} : tBM0 K T r te σ H Q = te σ H fun x H1 => tyV K T x H1 ∧ r x [] H1 Q := rfl
theorem w_truth : tTruth K te σ H QT = te σ H fun x H' => ∃ k, TruV K x H' k ∧ QT k H' := rfl
-- operators by values
theorem w_I0 {f : Int → Int → V} {a b : Int} : rI0 f (.int a) (.int b) H Q = Q (f a b) H := by
  unfold rI0
  apply propext
  constructor
  · rintro ⟨i, j, e1, e2, h⟩; cases e1; cases e2; exact h
  · intro h; exact ⟨a, b, rfl, rfl, h⟩
theorem w_I {C : Int → Int → Prop} {f : Int → Int → V} {a b : Int} : rI C f (.int a) (.int b) H Q = (C a b ∧ Q (f a b) H) := by
  unfold rI
  apply propext
  constructor
  · rintro ⟨i, j, e1, e2, h1, h⟩; cases e1; cases e2; exact ⟨h1, h⟩
  · intro h; exact ⟨a, b, rfl, rfl, h.1, h.2⟩
theorem w_U {f : Int → V} {a : Int} : rU f (.int a) H Q = Q (f a) H := by
  unfold rU
  apply propext
  constructor
  · rintro ⟨i, e1, h⟩; cases e1; exact h
  · intro h; exact ⟨a, rfl, h⟩
theorem w_add {a b : Int} : rAddU K (.int a) (.int b) H Q = Q (.int (a + b)) H := by
  unfold rAddU
  apply propext
  constructor
  · rintro (h | ⟨l, _, _, _, e, _⟩ | ⟨l, _, _, _, e, _⟩)
    · rw [w_I0] at h; exact h
    · cases e
    · cases e
  · intro h; left; rw [w_I0]; exact h
theorem w_mul {a b : Int} : rMulU (.int a) (.int b) H Q = (CMulU a b ∧ Q (.int (a * b)) H) := by
  unfold rMulU
  apply propext
  constructor
  · rintro (h | ⟨l, _, _, e, _⟩)
    · rw [w_I] at h; exact h
    · cases e
  · intro h; left; rw [w_I]; exact h
theorem w_eqI {a b : Int} : rEqU K n (.int a) (.int b) H Q = Q (.bl (decide (a = b))) H := by
  unfold rEqU rEq
  apply propext
  have e : decide (V.int a = V.int b) = decide (a = b) := by
    by_cases h : a = b
    · subst h; simp
    · rw [decide_eq_false h, decide_eq_false (fun z => h (V.int.inj z))]
  constructor
  · rintro (⟨_, h⟩ | ⟨d, e', h1, h2, _, _, _, h⟩)
    · rw [e] at h; exact h
    · cases h1; cases h2
      have : PyData.eqv (.int a) (.int b) = decide (a = b) := by simp [PyData.eqv, Bool.beq_eq_decide_eq]
      rw [this] at h; exact h
  · intro h; left; rw [e]; exact ⟨rfl, h⟩
theorem w_neI {a b : Int} : rNeU K n (.int a) (.int b) H Q = Q (.bl (!decide (a = b))) H := by
  unfold rNeU rNe
  apply propext
  have e : decide (V.int a = V.int b) = decide (a = b) := by
    by_cases h : a = b
    · subst h; simp
    · rw [decide_eq_false h, decide_eq_false (fun z => h (V.int.inj z))]
  constructor
  · rintro (⟨_, h⟩ | ⟨d, e', h1, h2, _, _, _, h⟩)
    · rw [e] at h; exact h
    · cases h1; cases h2
      have : PyData.eqv (.int a) (.int b) = decide (a = b) := by simp [PyData.eqv, Bool.beq_eq_decide_eq]
      rw [this] at h; exact h
  · intro h; left; rw [e]; exact ⟨rfl, h⟩
theorem w_intI {a : Int} : rIntI [.int a] H Q = Q (.int a) H := by
  apply propext
  constructor
  · rintro (⟨i, e, h⟩ | ⟨k, e, h⟩)
    · cases e; exact h
    · cases e
  · intro h; exact .inl ⟨a, rfl, h⟩
theorem w_min2 {a b : Int} : rMinU K [.int a, .int b] H Q = Q (.int (if b < a then b else a)) H := by
  apply propext
  constructor
  · rintro (⟨i, j, e, h⟩ | ⟨_, _, e, _⟩ | ⟨_, _, e, _⟩)
    · cases e; exact h
    · cases e
    · cases e
  · intro h; exact .inl ⟨a, b, rfl, h⟩
theorem w_max2 {a b : Int} : rMaxU K [.int a, .int b] H Q = Q (.int (if b > a then b else a)) H := by
  apply propext
  constructor
  · rintro (⟨i, j, e, h⟩ | ⟨_, _, e, _⟩ | ⟨_, _, e, _⟩)
    · cases e; exact h
    · cases e
    · cases e
  · intro h; exact .inl ⟨a, b, rfl, h⟩
theorem w_ex {α : Sort _} {a : α} {p : α → Prop} : (∃ x, a = x ∧ p x) = p a := by
  apply propext
  constructor
  · rintro ⟨x, rfl, h⟩; exact h
  · intro h; exact ⟨a, rfl, h⟩
theorem w_ex2 {α : Type _} {a b : α} {p : α → α → Prop} : (∃ x y, [a, b] = [x, y] ∧ p x y) = p a b := by
  apply propext
  constructor
  · rintro ⟨x, y, e, h⟩; cases e; exact h
  · intro h; exact ⟨a, b, rfl, h⟩
theorem w_ex3 {α : Type _} {a b c : α} {p : α → α → α → Prop} : (∃ x y z, [a, b, c] = [x, y, z] ∧ p x y z) = p a b c := by
  apply propext
  constructor
  · rintro ⟨x, y, z, e, h⟩; cases e; exact h
  · intro h; exact ⟨a, b, c, rfl, h⟩
theorem w_rng1 {ta : TA} {R : It → Hp → Prop} : iRng1 ta σ H R = ta σ H fun vs H1 => ∃ j : Int, vs = [.int j] ∧ -(2 ^ 62) ≤ j ∧ j < 2 ^ 62 ∧ R (Itr 0 j.toNat) H1 := rfl
theorem w_rng2 {ta : TA} {R : It → Hp → Prop} : iRng2 ta σ H R = ta σ H fun vs H1 => ∃ i j : Int, vs = [.int i, .int j] ∧ (-(2 ^ 62) ≤ i ∧ i < 2 ^ 62 ∧ -(2 ^ 62) ≤ j ∧ j < 2 ^ 62) ∧ R (Itr i (j - i).toNat) H1 := rfl
theorem w_exI {a : Int} {p : Int → Prop} : (∃ j, [V.int a] = [V.int j] ∧ p j) = p a := by
  apply propext
  constructor
  · rintro ⟨x, e, h⟩; cases e; exact h
  · intro h; exact ⟨a, rfl, h⟩
theorem w_exI2 {a b : Int} {p : Int → Int → Prop} : (∃ i j, [V.int a, V.int b] = [V.int i, V.int j] ∧ p i j) = p a b := by
  apply propext
  constructor
  · rintro ⟨x, y, e, h⟩; cases e; exact h
  · intro h; exact ⟨a, b, rfl, h⟩
theorem w_reprI {a : Int} : rReprI [.int a] H Q = (a.natAbs.log2 < 1920 ∧ Q (.str (toString a)) H) := by
  apply propext
  constructor
  · rintro ⟨i, e, h1, h⟩; cases e; exact ⟨h1, h⟩
  · intro h; exact ⟨a, rfl, h.1, h.2⟩
theorem w_absI {a : Int} : rAbsI [.int a] H Q = Q (.int (if a < 0 then -a else a)) H := by
  apply propext
  constructor
  · rintro ⟨i, e, h⟩; cases e; exact h
  · intro h; exact ⟨a, rfl, h⟩
theorem w_eqS {a b : Str} : rEqU K n (.str a) (.str b) H Q = Q (.bl (decide (a = b))) H := by
  unfold rEqU rEq
  apply propext
  have e : decide (V.str a = V.str b) = decide (a = b) := by
    by_cases h : a = b
    · subst h; simp
    · rw [decide_eq_false h, decide_eq_false (fun z => h (V.str.inj z))]
  constructor
  · rintro (⟨_, h⟩ | ⟨d, e', h1, h2, _, _, _, h⟩)
    · rw [e] at h; exact h
    · cases h1; cases h2
      have : PyData.eqv (.str a) (.str b) = decide (a = b) := by simp [PyData.eqv, Bool.beq_eq_decide_eq]
      rw [this] at h; exact h
  · intro h; left; rw [e]; exact ⟨rfl, h⟩
theorem w_neS {a b : Str} : rNeU K n (.str a) (.str b) H Q = Q (.bl (!decide (a = b))) H := by
  unfold rNeU rNe
  apply propext
  have e : decide (V.str a = V.str b) = decide (a = b) := by
    by_cases h : a = b
    · subst h; simp
    · rw [decide_eq_false h, decide_eq_false (fun z => h (V.str.inj z))]
  constructor
  · rintro (⟨_, h⟩ | ⟨d, e', h1, h2, _, _, _, h⟩)
    · rw [e] at h; exact h
    · cases h1; cases h2
      have : PyData.eqv (.str a) (.str b) = decide (a = b) := by simp [PyData.eqv, Bool.beq_eq_decide_eq]
      rw [this] at h; exact h
  · intro h; left; rw [e]; exact ⟨rfl, h⟩
-- rules to be applied by hand
theorem ixDi {a : Addr} {kvs : List (Key × V)} {k : Int} (h : H a = some (.dK kvs)) (hv : valV kvs (.inl k) = some v) (q : Q v H) : rIxU K (.ref a) (.int k) H Q :=
  .inr (.inr ⟨a, v, rfl, hv ▸ DGet.k (k := .inl k) h, q⟩)
theorem ixDs {a : Addr} {kvs : List (Key × V)} {k : Str} (h : H a = some (.dK kvs)) (hv : valV kvs (.inr k) = some v) (q : Q v H) : rIxU K (.ref a) (.str k) H Q :=
  .inr (.inr ⟨a, v, rfl, hv ▸ DGet.k (k := .inr k) h, q⟩)
theorem ixL {a : Addr} {xs : List V} {k : Int} (h : SqL K H a xs) (hv : atI xs k = some v) (q : Q v H) : rIxU K (.ref a) (.int k) H Q := .inl ⟨a, xs, k, v, rfl, rfl, h, hv, q⟩
theorem ixT {a : Addr} {xs : List V} {k : Int} (h : SqT K H a xs) (hv : atI xs k = some v) (q : Q v H) : rIxU K (.ref a) (.int k) H Q := .inr (.inl ⟨a, xs, k, v, rfl, rfl, h, hv, q⟩)
theorem setDi {a : Addr} {kvs : List (Key × V)} {k : Int} {QH : Hp → Prop} (h : H a = some (.dK kvs)) (hl : kvs.length < sizeLine) (q : QH (upd H a (.dK (putK kvs (.inl k) v)))) : rSetU (.ref a) (.int k) v H QH :=
  .inr ⟨a, _, rfl, DPut.k (k := .inl k) h hl, q⟩
theorem setDs {a : Addr} {kvs : List (Key × V)} {k : Str} {QH : Hp → Prop} (h : H a = some (.dK kvs)) (hl : kvs.length < sizeLine) (q : QH (upd H a (.dK (putK kvs (.inr k) v)))) : rSetU (.ref a) (.str k) v H QH :=
  .inr ⟨a, _, rfl, DPut.k (k := .inr k) h hl, q⟩
/-- a while: the invariant with its measure; N is to be chosen where the test is known (nx_of) -/
theorem while_e {tb' : TS} (Pv : Nat → L2.St → Hp → Prop) (h0 : ∃ m, Pv m σ H)
    (hs : ∀ m σ H, Pv m σ H → tc σ H fun b H1 => if b = true then ∃ N : L2.St → Hp → Prop, (∀ σ' H', N σ' H' → ∃ m', m' < m ∧ Pv m' σ' H') ∧ tb' { D with nx := N, ct := N, bk := D.nx } σ H1 else D.nx σ H1) : tWhile tc tb' D σ H := ⟨Pv, h0, hs⟩
theorem nx_of {Pv : Nat → L2.St → Hp → Prop} {m : Nat} {R : (L2.St → Hp → Prop) → Prop} (h : R fun σ' H' => ∃ m', m' < m ∧ Pv m' σ' H') :
    ∃ N : L2.St → Hp → Prop, (∀ σ' H', N σ' H' → ∃ m', m' < m ∧ Pv m' σ' H') ∧ R N := ⟨_, fun σ' H' h => h, h⟩
/-- a for over J -/
def ForGo (J : It) (g : TG) (tb : TS) (D : Ends) (σ : L2.St) (H1 : Hp) : Prop := ∃ W : Nat → Nat → L2.St → Hp → Prop, (∃ m, W 0 m σ H1) ∧ ∀ i m σ H, W i m σ H →
  (J.stop i H ∧ D.nx σ H) ∨ (J.go i H ∧ ∃ N : L2.St → Hp → Prop, (∀ σ' H', N σ' H' → ∃ m', m' < m ∧ W (i + 1) m' σ' H') ∧ ∀ x H', J.yld i H x H' → g x σ H' fun σ2 H2 => tb { D with nx := N, ct := N, bk := D.nx } σ2 H2)
theorem w_for {wi : TI} : tFor wi g t D σ H = wi σ H fun J H1 => ForGo J g t D σ H1 := rfl
theorem forgo_list {a : Addr} {xs : List V} (Pv : Nat → L2.St → Hp → Prop) (h0 : Pv 0 σ H) (hG : ∀ i σ H, i ≤ xs.length → Pv i σ H → SqL K H a xs)
    (hs : ∀ i x σ H, i < xs.length → xs[i]? = some x → Pv i σ H → g x σ H fun σ2 H2 => t { D with nx := Pv (i + 1), ct := Pv (i + 1), bk := D.nx } σ2 H2) (hd : ∀ σ H, Pv xs.length σ H → D.nx σ H) : ForGo (Itl K a) g t D σ H :=
  for_it walk_list Pv h0 hG (fun i x σ H H' hi p y => by obtain ⟨rfl, e⟩ := y; exact hs i x σ _ hi e p) hd
theorem forgo_tup {a : Addr} {xs : List V} (Pv : Nat → L2.St → Hp → Prop) (h0 : Pv 0 σ H) (hG : ∀ i σ H, i ≤ xs.length → Pv i σ H → SqT K H a xs)
    (hs : ∀ i x σ H, i < xs.length → xs[i]? = some x → Pv i σ H → g x σ H fun σ2 H2 => t { D with nx := Pv (i + 1), ct := Pv (i + 1), bk := D.nx } σ2 H2) (hd : ∀ σ H, Pv xs.length σ H → D.nx σ H) : ForGo (Itt K a) g t D σ H :=
  for_it walk_tup Pv h0 hG (fun i x σ H H' hi p y => by obtain ⟨rfl, e⟩ := y; exact hs i x σ _ hi e p) hd
theorem forgo_range {lo : Int} {n : Nat} (Pv : Nat → L2.St → Hp → Prop) (h0 : Pv 0 σ H)
    (hs : ∀ i σ H, i < n → Pv i σ H → g (.int (lo + i)) σ H fun σ2 H2 => t { D with nx := Pv (i + 1), ct := Pv (i + 1), bk := D.nx } σ2 H2) (hd : ∀ σ H, Pv n σ H → D.nx σ H) : ForGo (Itr lo n) g t D σ H :=
  for_it walk_range Pv h0 (fun _ _ _ _ _ => trivial) (fun i x σ H H' hi p y => by obtain ⟨rfl, rfl⟩ := y; exact hs i σ _ hi p) hd
/-- a comprehension over J, the new list at D' -/
def LcGo (J : It) (g : TG) (tt : TT) (te : TE) (vs : List Nat) (σ : L2.St) (H1 : Hp) (Q : VK) : Prop := ∀ D, H1 D = none → ∃ W : Nat → Nat → Hp → Prop, (∃ m, W 0 m (upd H1 D (.lst []))) ∧ ∀ i m H, W i m H →
  (J.stop i H ∧ Q (.ref D) H) ∨ (J.go i H ∧ ∃ Nx : Hp → Prop, (∀ H', Nx H' → ∃ m', m' < m ∧ W (i + 1) m' H') ∧ ∀ x H', J.yld i H x H' → g x (wipe σ vs) H' fun σ2 H2 => wipe σ2 vs = wipe σ vs ∧ tt σ2 H2 fun b H3 =>
    if b = true then te σ2 H3 fun y H4 => ∃ acc, H4 D = some (.lst acc) ∧ acc.length < sizeLine ∧ Nx (upd H4 D (.lst (acc ++ [y]))) else Nx H3)
theorem w_lc {wi : TI} {ws : List Nat} : tLc wi g tt te ws σ H Q = wi σ H fun J H1 => LcGo J g tt te ws σ H1 Q := rfl
theorem lcgo {J : It} {n : Nat} {G : Hp → Prop} {Y : Nat → Hp → V → Hp → Prop} {ws : List Nat} (w : Walk J n G Y) (Pv : Addr → Nat → Hp → Prop) (h0 : ∀ p, H p = none → Pv p 0 (upd H p (.lst []))) (hG : ∀ p i H', H p = none → i ≤ n → Pv p i H' → G H')
    (hs : ∀ p i x H1 H', H p = none → i < n → Pv p i H1 → Y i H1 x H' → g x (wipe σ ws) H' fun σ2 H2 => wipe σ2 ws = wipe σ ws ∧ tt σ2 H2 fun b H3 =>
      if b = true then te σ2 H3 fun y H4 => ∃ acc, H4 p = some (.lst acc) ∧ acc.length < sizeLine ∧ Pv p (i + 1) (upd H4 p (.lst (acc ++ [y]))) else Pv p (i + 1) H3) (hd : ∀ p H', H p = none → Pv p n H' → Q (.ref p) H') : LcGo J g tt te ws σ H Q :=
  fun p hp => lc_it w (Pv p) (h0 p hp) (fun i H' hi q => hG p i H' hp hi q) (fun i x H1 H' hi q y => hs p i x H1 H' hp hi q y) fun H' q => hd p H' hp q
theorem iu_L {a : Addr} {xs : List V} {R : It → Hp → Prop} (hσ : σ[i]? = some (some (.ref a))) (h : SqL K H a xs) (q : R (Itl K a) H) : iU K (tVar i) σ H R := .inl ⟨_, hσ, a, rfl, ⟨xs, h⟩, q⟩
theorem iu_T {a : Addr} {xs : List V} {R : It → Hp → Prop} (hσ : σ[i]? = some (some (.ref a))) (h : SqT K H a xs) (q : R (Itt K a) H) : iU K (tVar i) σ H R := .inr ⟨_, hσ, a, rfl, ⟨xs, h⟩, q⟩
end
end U
set_option Elab.async false
set_option maxRecDepth 100000
set_option maxHeartbeats 4000000
set_option linter.all false
/-! U7: what changes of a heap; dicts with int keys by a function. -/
namespace U
open PySem PySem.Spec PyProof.Rows L2 PySem.W
/-- all that was tracked is as it was, but what stands at M -/
def St (M : List Addr) (H H' : Hp) : Prop := ∀ b o, H b = some o → b ∉ M → H' b = some o
theorem St.refl {M : List Addr} (H : Hp) : St M H H := fun _ _ h _ => h
theorem St.trans {M : List Addr} {H H1 H2 : Hp} (a : St M H H1) (b : St M H1 H2) : St M H H2 := fun c o h n => b c o (a c o h n) n
theorem St.mono {M N : List Addr} {H H' : Hp} (a : St M H H') (h : ∀ b ∈ M, b ∈ N) : St N H H' := fun c o e n => a c o e fun z => n (h c z)
theorem St.new {M : List Addr} {H : Hp} {p : Addr} {o : HO} (h : H p = none) : St M H (upd H p o) := fun b u e _ => by rw [upd_ne (ne_of_none e h)]; exact e
theorem St.set {M : List Addr} {H : Hp} {p : Addr} {o : HO} (h : p ∈ M) : St M H (upd H p o) := fun b u e n => by
  have hb : b ≠ p := by rintro rfl; exact n h
  rw [upd_ne hb]; exact e
theorem St.then_new {M : List Addr} {H H1 : Hp} {p : Addr} {o : HO} (a : St M H H1) (h : H1 p = none) : St M H (upd H1 p o) := a.trans (St.new h)
theorem St.then_set {M : List Addr} {H H1 : Hp} {p : Addr} {o : HO} (a : St M H H1) (h : p ∈ M) : St M H (upd H1 p o) := a.trans (St.set h)
/-- what was not there ahead may be written -/
theorem St.then_own {M : List Addr} {H H1 : Hp} {p : Addr} {o : HO} (a : St M H H1) (h : H p = none) : St M H (upd H1 p o) := fun b u e n => by rw [upd_ne (ne_of_none e h)]; exact a b u e n
theorem St.same {H H' : Hp} (a : St [] H H') : Same H H' := fun b o e => a b o e (by simp)
theorem St.of_same {M : List Addr} {H H' : Hp} (a : Same H H') : St M H H' := fun b o e _ => a b o e
theorem St.at {M : List Addr} {H H' : Hp} {b : Addr} {o : HO} (a : St M H H') (e : H b = some o) (n : b ∉ M) : H' b = some o := a b o e n
/-- what is new behind a step was new ahead, or stands at M -/
theorem St.back {M : List Addr} {H H' : Hp} {p : Addr} (a : St M H H') (h : H' p = none) (n : p ∉ M) : H p = none := by
  cases e : H p with
  | none => rfl
  | some o => rw [a p o e n] at h; cases h

/-- a dict that stands at M takes nothing from data -/
def NoSeq (H : Hp) (M : List Addr) : Prop := ∀ a ∈ M, (∀ xs, ¬ Rd H a (.lst xs)) ∧ (∀ xs, ¬ Rd H a (.tup xs))
theorem noSeq_nil {H : Hp} : NoSeq H [] := fun a h => by cases h
theorem noSeq_cons {H : Hp} {a : Addr} {M : List Addr} {kvs : List (Key × V)} (h : H a = some (.dK kvs)) (n : NoSeq H M) : NoSeq H (a :: M) := fun b hb => by
  rcases List.mem_cons.mp hb with e | hb
  · subst e
    refine ⟨fun xs z => ?_, fun xs z => ?_⟩
    · rcases z with z | ⟨o, z⟩ <;> (rw [h] at z; cases z)
    · rcases z with z | ⟨o, z⟩ <;> (rw [h] at z; cases z)
  · exact n b hb
theorem St.rdL {M : List Addr} {H H' : Hp} {a : Addr} {xs : List V} (s : St M H H') (n : NoSeq H M) (h : Rd H a (.lst xs)) : Rd H' a (.lst xs) := by
  have hm : a ∉ M := fun z => (n a z).1 xs h
  rcases h with h | ⟨o, h⟩
  · exact .inl (s a _ h hm)
  · exact .inr ⟨o, s a _ h hm⟩
theorem St.rdT {M : List Addr} {H H' : Hp} {a : Addr} {xs : List V} (s : St M H H') (n : NoSeq H M) (h : Rd H a (.tup xs)) : Rd H' a (.tup xs) := by
  have hm : a ∉ M := fun z => (n a z).2 xs h
  rcases h with h | ⟨o, h⟩
  · exact .inl (s a _ h hm)
  · exact .inr ⟨o, s a _ h hm⟩
theorem St.sqL {K : PySem.W.Frag} {M : List Addr} {H H' : Hp} {a : Addr} {xs : List V} (s : St M H H') (n : NoSeq H M) (h : SqL K H a xs) : SqL K H' a xs := h.elim (fun h => .inl (s.rdL n h)) .inr
theorem St.sqT {K : PySem.W.Frag} {M : List Addr} {H H' : Hp} {a : Addr} {xs : List V} (s : St M H H') (n : NoSeq H M) (h : SqT K H a xs) : SqT K H' a xs := h.elim (fun h => .inl (s.rdT n h)) .inr
mutual
theorem St.dp {K : PySem.W.Frag} {M : List Addr} {H H' : Hp} (s : St M H H') (n : NoSeq H M) : ∀ (d : PyData) (v : V), Dp K H v d → Dp K H' v d
  | .none, _, h => by cases h; exact .non
  | .bool b, _, h => by cases h; exact .bl b
  | .int i, _, h => by cases h; exact .int i
  | .str x, _, h => by cases h; exact .str x
  | .list ds, _, h => by cases h with | lst a b => exact .lst (s.sqL n a) (St.dpAll s n ds _ b)
  | .tuple ds, _, h => by cases h with | tup a b => exact .tup (s.sqT n a) (St.dpAll s n ds _ b)
  | .dict _, _, h => by cases h
theorem St.dpAll {K : PySem.W.Frag} {M : List Addr} {H H' : Hp} (s : St M H H') (n : NoSeq H M) : ∀ (ds : List PyData) (vs : List V), DpAll K H vs ds → DpAll K H' vs ds
  | [], _, h => by cases h; exact .nil
  | d :: ds, _, h => by cases h with | cons a b => exact .cons (St.dp s n d _ a) (St.dpAll s n ds _ b)
end
theorem St.noSeq {M N : List Addr} {H H' : Hp} (s : St M H H') (n : NoSeq H N) (h : ∀ a ∈ N, ∃ o, H' a = some o ∧ ∀ xs, o ≠ .lst xs ∧ o ≠ .tup xs ∧ ∀ u, o ≠ .frz u (.lst xs) ∧ o ≠ .frz u (.tup xs)) : NoSeq H' N := fun a ha => by
  obtain ⟨o, e, q⟩ := h a ha
  refine ⟨fun xs z => ?_, fun xs z => ?_⟩
  · rcases z with z | ⟨u, z⟩
    · rw [e] at z; cases z; exact (q xs).1 rfl
    · rw [e] at z; cases z; exact ((q xs).2.2 u).1 rfl
  · rcases z with z | ⟨u, z⟩
    · rw [e] at z; cases z; exact (q xs).2.1 rfl
    · rw [e] at z; cases z; exact ((q xs).2.2 u).2 rfl

/-! ### a dict with int keys, by a function -/
theorem length_putK_old {κ : Type} [DecidableEq κ] {kvs : List (κ × V)} {k : κ} {v w : V} (h : valV kvs k = some w) : (putK kvs k v).length = kvs.length := by
  unfold putK
  have : (kvs.any fun kv => decide (kv.1 = k)) = true := by rw [valV_any, h]; rfl
  rw [if_pos this, List.length_map]
theorem length_putK_new {κ : Type} [DecidableEq κ] {kvs : List (κ × V)} {k : κ} {v : V} (h : valV kvs k = none) : (putK kvs k v).length = kvs.length + 1 := by
  rw [putK_new v h, List.length_append]; rfl
/-- the dict at a: n entries, f at the ints -/
def DF (H : Hp) (a : Addr) (f : Int → Option V) (n : Nat) : Prop := ∃ kvs : List (Key × V), H a = some (.dK kvs) ∧ (∀ i : Int, valV kvs (.inl i) = f i) ∧ kvs.length = n
theorem DF.new {H : Hp} {p : Addr} : DF (upd H p (.dK [])) p (fun _ => none) 0 := ⟨[], upd_same, fun _ => rfl, rfl⟩
theorem DF.st {M : List Addr} {H H' : Hp} {a : Addr} {f : Int → Option V} {n : Nat} (h : DF H a f n) (s : St M H H') (hm : a ∉ M) : DF H' a f n := let ⟨kvs, e, r⟩ := h; ⟨kvs, s a _ e hm, r⟩
theorem DF.ns {H : Hp} {a : Addr} {f : Int → Option V} {n : Nat} (h : DF H a f n) {M : List Addr} (q : NoSeq H M) : NoSeq H (a :: M) := let ⟨_, e, _⟩ := h; noSeq_cons e q
section
variable {K : PySem.W.Frag} {H : Hp} {a : Addr} {f : Int → Option V} {n : Nat} {i : Int} {v : V} {Q : VK} {QH : Hp → Prop}
theorem DF.get (h : DF H a f n) (hv : f i = some v) (q : Q v H) : rIxU K (.ref a) (.int i) H Q := let ⟨kvs, e, g, _⟩ := h; ixDi e ((g i).trans hv) q
def setF (f : Int → Option V) (i : Int) (v : V) : Int → Option V := fun j => if j = i then some v else f j
theorem setF_same {f : Int → Option V} {i : Int} {v : V} : setF f i v i = some v := by unfold setF; rw [if_pos rfl]
theorem setF_ne {f : Int → Option V} {i j : Int} {v : V} (h : j ≠ i) : setF f i v j = f j := by unfold setF; rw [if_neg h]
theorem val_set {kvs : List (Key × V)} (g : ∀ j : Int, valV kvs (.inl j) = f j) (j : Int) : valV (putK kvs (.inl i) v) (.inl j) = setF f i v j := by
  rw [valV_put]
  unfold setF
  by_cases h : j = i
  · subst h; rw [if_pos rfl, if_pos rfl]
  · rw [if_neg h, if_neg (fun z => h (Sum.inl.inj z))]; exact g j
theorem DF.set_old {w : V} (h : DF H a f n) (hv : f i = some w) (hn : n < sizeLine) (q : ∀ H', (∀ M : List Addr, a ∈ M → St M H H') → DF H' a (setF f i v) n → (∀ b, b ≠ a → H' b = H b) → QH H') : rSetU (.ref a) (.int i) v H QH := by
  obtain ⟨kvs, e, g, l⟩ := h
  refine setDi e (by omega) (q _ (fun M hm => St.set hm) ⟨_, upd_same, val_set g, ?_⟩ fun b hb => upd_ne hb)
  rw [length_putK_old (w := w) ((g i).trans hv)]; exact l
theorem DF.set_new (h : DF H a f n) (hv : f i = none) (hn : n < sizeLine) (q : ∀ H', (∀ M : List Addr, a ∈ M → St M H H') → DF H' a (setF f i v) (n + 1) → (∀ b, b ≠ a → H' b = H b) → QH H') : rSetU (.ref a) (.int i) v H QH := by
  obtain ⟨kvs, e, g, l⟩ := h
  refine setDi e (by omega) (q _ (fun M hm => St.set hm) ⟨_, upd_same, val_set g, ?_⟩ fun b hb => upd_ne hb)
  rw [length_putK_new ((g i).trans hv)]; omega
theorem DF.mem (h : DF H a f n) (q : Q (.bl (f i).isSome) H) : rInU K (.int i) (.ref a) H Q := let ⟨kvs, e, g, _⟩ := h; .inl ⟨a, _, rfl, DGet.k (k := .inl i) e, by rw [g i]; exact q⟩
end
end U
set_option Elab.async false
set_option maxRecDepth 100000
set_option maxHeartbeats 4000000
set_option linter.all false
/-! Rt: roots as a type of one's own; how they lie in the heap; their order. -/
namespace RT
open PySem PySem.Spec PyProof.Rows L2 PySem.W U
inductive Rt where
  | mk (h : Int) (rs : List Rt)
mutual
def enc : Rt → PyData
  | .mk h rs => .tuple [.int h, .tuple (encs rs)]
def encs : List Rt → List PyData
  | [] => []
  | r :: rs => enc r :: encs rs
end
mutual
def dep : Rt → Nat
  | .mk _ rs => deps rs + 1
def deps : List Rt → Nat
  | [] => 0
  | r :: rs => max (dep r) (deps rs)
end
def Rt.h : Rt → Int
  | .mk h _ => h
def Rt.rs : Rt → List Rt
  | .mk _ rs => rs
theorem encs_eq : ∀ rs : List Rt, encs rs = rs.map enc
  | [] => by simp [encs]
  | r :: rs => by simp [encs, encs_eq rs]
theorem encs_app (a b : List Rt) : encs (a ++ b) = encs a ++ encs b := by rw [encs_eq, encs_eq, encs_eq, List.map_append]
theorem encs_len (a : List Rt) : (encs a).length = a.length := by rw [encs_eq, List.length_map]
mutual
theorem enc_inj : ∀ a b : Rt, enc a = enc b → a = b
  | .mk h rs, .mk h' rs', e => by
    simp only [enc, PyData.tuple.injEq, List.cons.injEq, PyData.int.injEq, and_true] at e
    obtain ⟨e1, e2⟩ := e
    rw [e1, encs_inj rs rs' e2]
theorem encs_inj : ∀ a b : List Rt, encs a = encs b → a = b
  | [], [], _ => rfl
  | [], _ :: _, e => by simp [encs] at e
  | _ :: _, [], e => by simp [encs] at e
  | r :: rs, r' :: rs', e => by
    simp only [encs, List.cons.injEq] at e
    rw [enc_inj r r' e.1, encs_inj rs rs' e.2]
end
mutual
theorem alike_enc : ∀ a b : Rt, alike (enc a) (enc b) = true
  | .mk h rs, .mk h' rs' => by
    simp only [enc, alike, alikeAll, alike_encs rs rs', Bool.and_true]
theorem alike_encs : ∀ a b : List Rt, alikeAll (encs a) (encs b) = true
  | [], _ => by simp [encs, alikeAll]
  | _ :: _, [] => by simp [encs, alikeAll]
  | r :: rs, r' :: rs' => by
    simp only [encs, alikeAll, alike_enc r r', alike_encs rs rs', Bool.and_true]
end
mutual
theorem lay_enc : ∀ a : Rt, (enc a).canLay0 = true
  | .mk h rs => by simp [enc, PyData.canLay0, PyData.canLayAll0, lay_encs rs]
theorem lay_encs : ∀ a : List Rt, PyData.canLayAll0 (encs a) = true
  | [] => by simp [encs, PyData.canLayAll0]
  | r :: rs => by simp [encs, PyData.canLayAll0, lay_enc r, lay_encs rs]
end
mutual
theorem depth_enc : ∀ a : Rt, (enc a).depth = 2 * dep a
  | .mk h rs => by
    simp only [enc, PyData.depth, PyData.depthAll, depth_encs rs, dep]
    omega
theorem depth_encs : ∀ a : List Rt, PyData.depthAll (encs a) = 2 * deps a
  | [] => by simp [encs, PyData.depthAll, deps]
  | r :: rs => by
    simp only [encs, PyData.depthAll, depth_enc r, depth_encs rs, deps]
    omega
end
theorem dep_le {r : Rt} : ∀ {rs : List Rt}, r ∈ rs → dep r ≤ deps rs
  | x :: rs, h => by
    simp only [deps]
    rcases List.mem_cons.mp h with e | h
    · subst e; omega
    · have := dep_le h; omega
theorem deps_le {n : Nat} : ∀ {rs : List Rt}, (∀ r ∈ rs, dep r ≤ n) → deps rs ≤ n
  | [], _ => Nat.zero_le _
  | x :: rs, h => by
    simp only [deps]
    have h1 := h x List.mem_cons_self
    have h2 := deps_le (rs := rs) fun r hr => h r (List.mem_cons_of_mem _ hr)
    omega
/-- the order of Python -/
def rle (a b : Rt) : Bool := dataLe false enc a b
def sortR (rs : List Rt) : List Rt := rs.mergeSort rle
theorem sortR_perm (rs : List Rt) : (sortR rs).Perm rs := List.mergeSort_perm _ _
theorem encs_sort (rs : List Rt) : (encs rs).mergeSort (dataLe false id) = encs (sortR rs) := by
  rw [encs_eq, encs_eq]
  unfold sortR
  rw [List.map_mergeSort (r := rle) (s := dataLe false id) (f := enc) (fun a _ b _ => rfl)]
theorem allAlike_encs (rs : List Rt) : AllAlike (encs rs) := by
  rw [encs_eq]; exact AllAlike.of alike_enc
theorem sortable_encs (rs : List Rt) : Sortable (encs rs) := by
  rw [encs_eq]; exact Sortable.tuples fun r => by cases r with | mk h rs => exact ⟨_, _, by rw [enc]⟩

/-! ### in the heap -/
mutual
inductive DpR (K : PySem.W.Frag) (H : Hp) : V → Rt → Prop
  | leaf {p q : Addr} {h : Int} : SqT K H p [.int h, .ref q] → SqT K H q [] → DpR K H (.ref p) (.mk h [])
  | node {p q : Addr} {h : Int} {cs : List V} {rs : List Rt} : SqT K H p [.int h, .ref q] → TupF H q cs → DpRs K H cs rs → DpR K H (.ref p) (.mk h rs)
inductive DpRs (K : PySem.W.Frag) (H : Hp) : List V → List Rt → Prop
  | nil : DpRs K H [] []
  | cons {v : V} {vs : List V} {r : Rt} {rs : List Rt} : DpR K H v r → DpRs K H vs rs → DpRs K H (v :: vs) (r :: rs)
end
mutual
theorem DpR.dp {K : PySem.W.Frag} {H : Hp} : ∀ (r : Rt) (v : V), DpR K H v r → Dp K H v (enc r)
  | .mk h rs, _, x => by
    rw [enc]
    cases x with
    | leaf a b => rw [encs]; exact .tup a (.cons (.int h) (.cons (.tup b .nil) .nil))
    | node a b c => exact .tup a (.cons (.int h) (.cons (.tup b.sq (DpRs.dp rs _ c)) .nil))
theorem DpRs.dp {K : PySem.W.Frag} {H : Hp} : ∀ (rs : List Rt) (vs : List V), DpRs K H vs rs → DpAll K H vs (encs rs)
  | [], _, x => by cases x; rw [encs]; exact .nil
  | r :: rs, _, x => by
    cases x with
    | cons a b => rw [encs]; exact .cons (DpR.dp r _ a) (DpRs.dp rs _ b)
end
theorem TupF.st {M : List Addr} {H H' : Hp} {a : Addr} {xs : List V} (s : U.St M H H') (n : NoSeq H M) (h : TupF H a xs) : TupF H' a xs := by
  obtain ⟨o, d, e⟩ := h
  have hm : a ∉ M := fun z => (n a z).2 xs (.inr ⟨o, e⟩)
  exact ⟨o, d, s a _ e hm⟩
mutual
theorem St.dpR {K : PySem.W.Frag} {M : List Addr} {H H' : Hp} (s : U.St M H H') (n : NoSeq H M) : ∀ (r : Rt) (v : V), DpR K H v r → DpR K H' v r
  | .mk h rs, _, x => by
    cases x with
    | leaf a b => exact .leaf (s.sqT n a) (s.sqT n b)
    | node a b c => exact .node (s.sqT n a) (TupF.st s n b) (St.dpRs s n rs _ c)
theorem St.dpRs {K : PySem.W.Frag} {M : List Addr} {H H' : Hp} (s : U.St M H H') (n : NoSeq H M) : ∀ (rs : List Rt) (vs : List V), DpRs K H vs rs → DpRs K H' vs rs
  | [], _, x => by cases x; exact .nil
  | r :: rs, _, x => by
    cases x with
    | cons a b => exact .cons (St.dpR s n r _ a) (St.dpRs s n rs _ b)
end
theorem DpRs.app {K : PySem.W.Frag} {H : Hp} : ∀ {xs ys : List V} {ds es : List Rt}, DpRs K H xs ds → DpRs K H ys es → DpRs K H (xs ++ ys) (ds ++ es)
  | _, _, _, _, .nil, h => h
  | _, _, _, _, .cons a t, h => .cons a (DpRs.app t h)
theorem DpRs.len {K : PySem.W.Frag} {H : Hp} : ∀ {xs : List V} {ds : List Rt}, DpRs K H xs ds → xs.length = ds.length
  | _, _, .nil => rfl
  | _, _, .cons a t => congrArg (· + 1) (DpRs.len t)
theorem DpRs.get {K : PySem.W.Frag} {H : Hp} : ∀ {xs : List V} {ds : List Rt} {i : Nat} {r : Rt}, DpRs K H xs ds → ds[i]? = some r → ∃ v, xs[i]? = some v ∧ DpR K H v r
  | _, _, _, _, .nil, e => by simp at e
  | _, _, 0, _, .cons a t, e => by simp at e; subst e; exact ⟨_, rfl, a⟩
  | _, _, i + 1, r, .cons a t, e => by
    obtain ⟨v, h1, h2⟩ := DpRs.get (i := i) (r := r) t (by simpa using e)
    exact ⟨v, by simpa using h1, h2⟩
theorem DpRs.pairs {K : PySem.W.Frag} {H : Hp} : ∀ {xs : List V} {ds : List Rt}, DpRs K H xs ds → ∀ p ∈ xs.zip ds, DpR K H p.1 p.2
  | _, _, .nil, p, h => by simp at h
  | _, _, .cons d t, p, h => by
    rw [List.zip_cons_cons] at h
    rcases List.mem_cons.mp h with e | h
    · subst e; exact d
    · exact DpRs.pairs t p h
theorem DpRs.unzip {K : PySem.W.Frag} {H : Hp} : ∀ {zs : List (V × Rt)}, (∀ p ∈ zs, DpR K H p.1 p.2) → DpRs K H (zs.map Prod.fst) (zs.map Prod.snd)
  | [], _ => .nil
  | p :: zs, h => .cons (h p List.mem_cons_self) (DpRs.unzip fun q hq => h q (List.mem_cons_of_mem _ hq))
theorem DpRs.snd {K : PySem.W.Frag} {H : Hp} : ∀ {xs : List V} {ds : List Rt}, DpRs K H xs ds → (xs.zip ds).map Prod.snd = ds
  | _, _, .nil => rfl
  | _, _, .cons _ t => congrArg (_ :: ·) (DpRs.snd t)
theorem DpRs.fst {K : PySem.W.Frag} {H : Hp} : ∀ {xs : List V} {ds : List Rt}, DpRs K H xs ds → (xs.zip ds).map Prod.fst = xs
  | _, _, .nil => rfl
  | _, _, .cons _ t => congrArg (_ :: ·) (DpRs.fst t)
/-! ### data without lists -/
mutual
def flat : PyData → Bool
  | .list _ => false
  | .dict _ => false
  | .tuple ds => flats ds
  | .none => true
  | .bool _ => true
  | .int _ => true
  | .str _ => true
def flats : List PyData → Bool
  | [] => true
  | d :: ds => flat d && flats ds
end
def NoT (H : Hp) (M : List Addr) : Prop := ∀ a ∈ M, ∀ xs, ¬ Rd H a (.tup xs)
theorem noT_nil {H : Hp} : NoT H [] := fun a h => by cases h
theorem noT_lst {H : Hp} {a : Addr} {xs : List V} (h : H a = some (.lst xs)) : NoT H [a] := fun b hb ys z => by
  have e : b = a := by simpa using hb
  subst e
  rcases z with z | ⟨o, z⟩ <;> (rw [h] at z; cases z)
theorem noT_dk {H : Hp} {a : Addr} {xs : List (Key × V)} (h : H a = some (.dK xs)) : NoT H [a] := fun b hb ys z => by
  have e : b = a := by simpa using hb
  subst e
  rcases z with z | ⟨o, z⟩ <;> (rw [h] at z; cases z)
theorem noT_app {H : Hp} {M N : List Addr} (h : NoT H M) (k : NoT H N) : NoT H (M ++ N) := fun a ha => (List.mem_append.mp ha).elim (h a) (k a)
theorem noT_of {H : Hp} {M : List Addr} (h : NoSeq H M) : NoT H M := fun a ha xs => (h a ha).2 xs
theorem St.sqTT {K : PySem.W.Frag} {M : List Addr} {H H' : Hp} {a : Addr} {xs : List V} (s : U.St M H H') (n : NoT H M) (h : SqT K H a xs) : SqT K H' a xs := by
  refine h.elim (fun h => .inl ?_) .inr
  have hm : a ∉ M := fun z => n a z xs h
  rcases h with h | ⟨o, h⟩
  · exact .inl (s a _ h hm)
  · exact .inr ⟨o, s a _ h hm⟩
mutual
theorem St.dpF {K : PySem.W.Frag} {M : List Addr} {H H' : Hp} (s : U.St M H H') (n : NoT H M) : ∀ (d : PyData) (v : V), flat d = true → Dp K H v d → Dp K H' v d
  | .none, _, _, h => by cases h; exact .non
  | .bool b, _, _, h => by cases h; exact .bl b
  | .int i, _, _, h => by cases h; exact .int i
  | .str x, _, _, h => by cases h; exact .str x
  | .list ds, _, f, h => by simp [flat] at f
  | .tuple ds, _, f, h => by cases h with | tup a b => exact .tup (St.sqTT s n a) (St.dpFs s n ds _ (by simpa [flat] using f) b)
  | .dict _, _, _, h => by cases h
theorem St.dpFs {K : PySem.W.Frag} {M : List Addr} {H H' : Hp} (s : U.St M H H') (n : NoT H M) : ∀ (ds : List PyData) (vs : List V), flats ds = true → DpAll K H vs ds → DpAll K H' vs ds
  | [], _, _, h => by cases h; exact .nil
  | d :: ds, _, f, h => by
    simp only [flats, Bool.and_eq_true] at f
    cases h with | cons a b => exact .cons (St.dpF s n d _ f.1 a) (St.dpFs s n ds _ f.2 b)
end
mutual
theorem flat_enc : ∀ r : Rt, flat (enc r) = true
  | .mk h rs => by simp [enc, flat, flats, flat_encs rs]
theorem flat_encs : ∀ rs : List Rt, flats (encs rs) = true
  | [] => by simp [encs, flats]
  | r :: rs => by simp [encs, flats, flat_enc r, flat_encs rs]
end
theorem dpAll_snoc {K : PySem.W.Frag} {H : Hp} : ∀ {xs : List V} {ds : List PyData} {d : PyData}, DpAll K H xs (ds ++ [d]) → ∃ ys v, xs = ys ++ [v] ∧ DpAll K H ys ds ∧ Dp K H v d
  | _, [], d, h => by
    cases h with
    | cons a b => cases b; exact ⟨[], _, rfl, .nil, a⟩
  | _, e :: ds, d, h => by
    cases h with
    | cons a b =>
      obtain ⟨ys, v, rfl, h1, h2⟩ := dpAll_snoc (ds := ds) b
      exact ⟨_ :: ys, v, rfl, .cons a h1, h2⟩
theorem dpAll_app {K : PySem.W.Frag} {H : Hp} : ∀ {xs ys : List V} {ds es : List PyData}, DpAll K H xs ds → DpAll K H ys es → DpAll K H (xs ++ ys) (ds ++ es)
  | _, _, _, _, .nil, h => h
  | _, _, _, _, .cons a t, h => .cons a (dpAll_app t h)
theorem dpAll_get {K : PySem.W.Frag} {H : Hp} : ∀ {xs : List V} {ds : List PyData} {i : Nat} {v : V}, DpAll K H xs ds → xs[i]? = some v → ∃ d, ds[i]? = some d ∧ Dp K H v d
  | _, _, _, _, .nil, e => by simp at e
  | _, _, 0, _, .cons a t, e => by simp at e; subst e; exact ⟨_, rfl, a⟩
  | _, _, i + 1, v, .cons a t, e => by
    obtain ⟨d, h1, h2⟩ := dpAll_get (i := i) (v := v) t (by simpa using e)
    exact ⟨d, by simpa using h1, h2⟩
/-- a root as it lies -/
theorem dp_root {K : PySem.W.Frag} {H : Hp} {v : V} {r : Rt} (h : Dp K H v (enc r)) : ∃ (p q : Addr) (cs : List V), v = .ref p ∧ SqT K H p [.int r.h, .ref q] ∧ SqT K H q cs ∧ DpAll K H cs (encs r.rs) := by
  cases r with
  | mk hh rs =>
    rw [enc] at h
    cases h with
    | tup a b =>
      cases b with
      | cons b1 b2 =>
        cases b1
        cases b2 with
        | cons b3 b4 =>
          cases b4
          cases b3 with
          | tup c d => exact ⟨_, _, _, rfl, a, c, d⟩
/-- sorted of a list of roots -/
theorem sortedRt {K : PySem.W.Frag} {w : World} {H : Hp} {a : Addr} {xs : List V} {rs : List Rt} {Q : VK} (h : SqL K H a xs) (hd : DpRs K H xs rs) (hdep : deps rs ≤ 400) (q : ∀ (p : Addr) (ys : List V), DpRs K H ys (sortR rs) → H p = none → Q (.ref p) (upd H p (.lst ys))) : rSortedU K w 800 [.ref a] H Q := by
  have hsnd := hd.snd
  have hfst := hd.fst
  have hm : (xs.zip rs).map (fun p => enc p.2) = encs rs := by
    have e : (xs.zip rs).map (fun p => enc p.2) = ((xs.zip rs).map Prod.snd).map enc := by rw [List.map_map]; rfl
    rw [e, hsnd, encs_eq]
  refine .inr (.inl ⟨Rt, enc, a, xs.zip rs, rfl, by rw [hfst]; exact h, fun p hp => (hd.pairs p hp).dp, ?_, ?_, fun p hp => ?_, fun p hp => ?_⟩)
  · rw [hm]; exact allAlike_encs rs
  · rw [hm]; exact sortable_encs rs
  · have : p.2 ∈ rs := by rw [← hsnd]; exact List.mem_map.mpr ⟨p, hp, rfl⟩
    have := dep_le this
    rw [depth_enc]; omega
  · refine q p _ ?_ hp
    have hperm : ((xs.zip rs).mergeSort (dataLe false fun b => enc b.2)).Perm (xs.zip rs) := List.mergeSort_perm _ _
    have hs : ((xs.zip rs).mergeSort (dataLe false fun b => enc b.2)).map Prod.snd = sortR rs := by
      unfold sortR
      rw [List.map_mergeSort (r := dataLe false fun b : V × Rt => enc b.2) (s := rle) (f := Prod.snd) (fun a _ b _ => rfl), hsnd]
    rw [← hs]
    exact DpRs.unzip fun p hp => hd.pairs p (hperm.mem_iff.mp hp)
end RT
set_option Elab.async false
set_option maxRecDepth 100000
set_option maxHeartbeats 4000000
set_option linter.all false
/-! RowM: the mirror of root_of_row, in plain Lean. -/
namespace Row
open PySem RT
abbrev MS := (Int → Int) × (Int → List Rt)
def joinR (rep : Int → Int) (R : Int → List Rt) (x y : Int) : Int → List Rt := fun i => if i = rep y then R (rep x) ++ R (rep y) else if i = rep x then [] else R i
def joinM (st : MS) (x y : Int) : MS := if st.1 x = st.1 y then st else (fun i => if st.1 i = st.1 x then st.1 y else st.1 i, joinR st.1 st.2 x y)
def settle1 (rep : Int → Int) (h : Int) (R : Int → List Rt) (x : Int) : Int → List Rt :=
  if R (rep x) = [] then fun j => if j = rep x then [.mk h []] else R j
  else if 1 < (R (rep x)).length then fun j => if j = rep x then [.mk h (sortR (R (rep x)))] else R j
  else R
def settleM (rep : Int → Int) (h : Int) (fr : List Int) (R : Int → List Rt) : Int → List Rt := fr.foldl (settle1 rep h) R
def inS (hs : List Int) (ht : Int) (i : Int) : Bool := decide (0 ≤ i) && decide (i < hs.length) && decide (hs.getD i.toNat 0 ≤ ht)
def nb (hs : List Int) (ht : Int) (p : Int) (st : MS) (o : Int) : MS := if inS hs ht o = true then joinM st p o else st
def stepJ (hs : List Int) (ht : Int) (st : MS) (p : Int) : MS := nb hs ht p (nb hs ht p st (p - 1)) (p + 1)
def idx (hs : List Int) (ht : Int) : List Int := ((List.range hs.length).filter fun p => decide (hs.getD p 0 = ht)).map fun (p : Nat) => (p : Int)
def level (hs : List Int) (least : Int) (st : MS) (ht : Int) : MS :=
  let st1 := (idx hs ht).foldl (stepJ hs ht) st
  (st1.1, settleM st1.1 (ht - least) (idx hs ht) st1.2)
def rowSt (hs : List Int) (least : Int) (ds : List Int) : MS := ds.foldl (level hs least) (fun i => i, fun _ => [])
def rowRoot (hs : List Int) (least : Int) (ds : List Int) : Rt := ((rowSt hs least ds).2 ((rowSt hs least ds).1 0)).headD (.mk 0 [])

theorem inS_iff {hs : List Int} {ht i : Int} : inS hs ht i = true ↔ 0 ≤ i ∧ i < hs.length ∧ hs.getD i.toNat 0 ≤ ht := by
  unfold inS; simp [Bool.and_eq_true, and_assoc]
theorem mem_idx {hs : List Int} {ht p : Int} : p ∈ idx hs ht ↔ 0 ≤ p ∧ p < hs.length ∧ hs.getD p.toNat 0 = ht := by
  unfold idx
  rw [List.mem_map]
  constructor
  · rintro ⟨q, hq, rfl⟩
    obtain ⟨h1, h2⟩ := List.mem_filter.mp hq
    have := List.mem_range.mp h1
    refine ⟨by omega, by omega, ?_⟩
    simpa using h2
  · rintro ⟨h0, h1, h2⟩
    exact ⟨p.toNat, List.mem_filter.mpr ⟨List.mem_range.mpr (by omega), by simpa using h2⟩, by omega⟩

/-! ### how many roots, how deep -/
def cap (N : Nat) (rep : Int → Int) (i : Int) : Nat := (List.range N).countP fun (p : Nat) => decide (rep (p : Int) = i)
theorem countP_or {α : Type} {p q r : α → Bool} : ∀ {l : List α}, (∀ x ∈ l, r x = (p x || q x)) → (∀ x ∈ l, ¬ (p x = true ∧ q x = true)) → l.countP r = l.countP p + l.countP q
  | [], _, _ => rfl
  | x :: l, h, d => by
    have ih := countP_or (l := l) (fun y hy => h y (List.mem_cons_of_mem _ hy)) (fun y hy => d y (List.mem_cons_of_mem _ hy))
    have h1 := h x List.mem_cons_self
    have d1 := d x List.mem_cons_self
    rw [List.countP_cons, List.countP_cons, List.countP_cons, ih, h1]
    cases hp : p x <;> cases hq : q x <;> simp [hp, hq] at d1 ⊢ <;> omega
theorem cap_le (N : Nat) (rep : Int → Int) (i : Int) : cap N rep i ≤ N := by
  unfold cap
  have := List.countP_le_length (p := fun p : Nat => decide (rep p = i)) (l := List.range N)
  rwa [List.length_range] at this
theorem cap_pos {N : Nat} {rep : Int → Int} {x : Int} (h0 : 0 ≤ x) (h1 : x < N) : 1 ≤ cap N rep (rep x) := by
  unfold cap
  refine List.countP_pos_iff.mpr ⟨x.toNat, List.mem_range.mpr (by omega), ?_⟩
  have : ((x.toNat : Nat) : Int) = x := by omega
  rw [this]; simp
/-- the facts that the walk wants: S what is in -/
structure Ok (N : Nat) (S : Int → Prop) (D : Nat) (st : MS) : Prop where
  rng : ∀ i, S i → 0 ≤ i ∧ i < N
  out : ∀ i, ¬ S i → st.1 i = i ∧ st.2 i = []
  rin : ∀ i, S i → S (st.1 i)
  dep : ∀ i, deps (st.2 i) ≤ D
  cap : ∀ i, (st.2 i).length ≤ cap N st.1 i
theorem Ok.len {N : Nat} {S : Int → Prop} {D : Nat} {st : MS} (o : Ok N S D st) (i : Int) : (st.2 i).length ≤ N := Nat.le_trans (o.cap i) (cap_le _ _ _)
theorem deps_app (a b : List Rt) : deps (a ++ b) = max (deps a) (deps b) := by
  induction a with
  | nil => simp [deps]
  | cons x a ih => simp only [List.cons_append, deps, ih]; omega
theorem cap_join {N : Nat} {rep : Int → Int} {x y : Int} (ne : rep x ≠ rep y) : Row.cap N (fun i => if rep i = rep x then rep y else rep i) (rep y) = Row.cap N rep (rep x) + Row.cap N rep (rep y) := by
  unfold Row.cap
  refine countP_or (fun p _ => ?_) (fun p _ ⟨h1, h2⟩ => ?_)
  · by_cases e : rep p = rep x
    · simp [e]
    · by_cases e2 : rep p = rep y <;> simp [e, e2]
  · exact ne ((of_decide_eq_true h1).symm.trans (of_decide_eq_true h2))
theorem Ok.join {N : Nat} {S : Int → Prop} {D : Nat} {st : MS} (o : Ok N S D st) {x y : Int} (hx : S x) (hy : S y) : Ok N S D (joinM st x y) := by
  unfold joinM
  by_cases e : st.1 x = st.1 y
  · rw [if_pos e]; exact o
  rw [if_neg e]
  have sx := o.rin x hx
  have sy := o.rin y hy
  refine ⟨o.rng, fun i hi => ?_, fun i hi => ?_, fun i => ?_, fun i => ?_⟩
  · obtain ⟨h1, h2⟩ := o.out i hi
    have n1 : st.1 i ≠ st.1 x := fun z => hi (by rw [← h1, z]; exact sx)
    have n2 : i ≠ st.1 y := fun z => hi (by rw [z]; exact sy)
    have n3 : i ≠ st.1 x := fun z => hi (by rw [z]; exact sx)
    simp only [joinR, if_neg n1, if_neg n2, if_neg n3]
    exact ⟨h1, h2⟩
  · dsimp only
    split
    · exact sy
    · exact o.rin i hi
  · simp only [joinR]
    split
    · rw [deps_app]; have := o.dep (st.1 x); have := o.dep (st.1 y); omega
    · split
      · exact Nat.zero_le _
      · exact o.dep i
  · simp only [joinR]
    by_cases e1 : i = st.1 y
    · rw [if_pos e1, e1, cap_join e, List.length_append]
      have := o.cap (st.1 x); have := o.cap (st.1 y); omega
    · rw [if_neg e1]
      by_cases e2 : i = st.1 x
      · rw [if_pos e2]; exact Nat.zero_le _
      · rw [if_neg e2]
        refine Nat.le_trans (o.cap i) ?_
        unfold Row.cap
        refine List.countP_mono_left fun p _ hp => ?_
        have hp := of_decide_eq_true hp
        have n1 : st.1 p ≠ st.1 x := fun z => e2 (hp.symm.trans z)
        exact decide_eq_true ((if_neg n1).trans hp)
theorem Ok.nb {hs : List Int} {ht : Int} {N : Nat} {S : Int → Prop} {D : Nat} {st : MS} (o : Ok N S D st) (hS : ∀ i, S i ↔ inS hs ht i = true) {p q : Int} (hp : S p) : Ok N S D (nb hs ht p st q) := by
  unfold Row.nb
  split
  · rename_i h
    exact o.join hp ((hS q).mpr h)
  · exact o
theorem Ok.steps {hs : List Int} {ht : Int} {N : Nat} {S : Int → Prop} {D : Nat} (hS : ∀ i, S i ↔ inS hs ht i = true) : ∀ (fr : List Int) {st : MS}, Ok N S D st → (∀ p ∈ fr, S p) → Ok N S D (fr.foldl (stepJ hs ht) st)
  | [], _, o, _ => o
  | p :: fr, st, o, h => Ok.steps hS fr ((o.nb hS (h p List.mem_cons_self)).nb hS (h p List.mem_cons_self)) fun q hq => h q (List.mem_cons_of_mem _ hq)
/-- settling: heads keep what they have, deeper by one at most -/
def Dep1 (D : Nat) (l : List Rt) : Prop := deps l ≤ D ∨ (l.length = 1 ∧ deps l ≤ D + 1)
theorem settle1_dep {rep : Int → Int} {h : Int} {R : Int → List Rt} {x : Int} {D : Nat} (hd : ∀ j, Dep1 D (R j)) : ∀ j, Dep1 D (settle1 rep h R x j) := by
  intro j
  unfold settle1
  split
  · dsimp only
    split
    · exact .inr ⟨rfl, by simp [deps, dep]⟩
    · exact hd j
  · split
    · dsimp only
      split
      · rename_i h1 h2 h3
        refine .inr ⟨rfl, ?_⟩
        have q : deps (R (rep x)) ≤ D := by
          rcases hd (rep x) with q | ⟨q, _⟩
          · exact q
          · omega
        have q2 : deps (sortR (R (rep x))) ≤ deps (R (rep x)) := deps_le fun r hr => dep_le ((sortR_perm _).mem_iff.mp hr)
        simp only [deps, dep]
        omega
      · exact hd j
    · exact hd j
theorem settleM_dep {rep : Int → Int} {h : Int} {D : Nat} : ∀ (fr : List Int) (R : Int → List Rt), (∀ j, Dep1 D (R j)) → ∀ j, Dep1 D (settleM rep h fr R j)
  | [], _, hd => hd
  | x :: fr, R, hd => settleM_dep fr _ (settle1_dep hd)
theorem settleM_take {rep : Int → Int} {h : Int} {fr : List Int} {R : Int → List Rt} {i : Nat} {x : Int} (e : fr[i]? = some x) : settleM rep h (fr.take (i + 1)) R = settle1 rep h (settleM rep h (fr.take i) R) x := by
  unfold settleM
  rw [List.take_add_one, e, List.foldl_append]
  rfl
/-- where a settled list stands: it was there, or it is the one of a settled head -/
theorem settle1_at {rep : Int → Int} {h : Int} {R : Int → List Rt} {x j : Int} : (j ≠ rep x → settle1 rep h R x j = R j) ∧ (R j ≠ [] → settle1 rep h R x j ≠ []) ∧ settle1 rep h R x (rep x) ≠ [] ∧ (settle1 rep h R x j).length ≤ max (R j).length 1 ∧ (j = rep x → (settle1 rep h R x j).length = 1) := by
  unfold settle1
  by_cases e : R (rep x) = []
  · rw [if_pos e]
    refine ⟨fun hj => by simp [hj], fun hj => ?_, by simp, ?_, fun hj => by simp [hj]⟩
    · split
      · simp
      · exact hj
    · split
      · simp only [List.length_singleton]; omega
      · omega
  · rw [if_neg e]
    by_cases e2 : 1 < (R (rep x)).length
    · rw [if_pos e2]
      refine ⟨fun hj => by simp [hj], fun hj => ?_, by simp, ?_, fun hj => by simp [hj]⟩
      · split
        · simp
        · exact hj
      · split
        · simp only [List.length_singleton]; omega
        · omega
    · rw [if_neg e2]
      refine ⟨fun _ => rfl, fun hj => hj, e, by omega, fun hj => ?_⟩
      subst hj
      have : (R (rep x)).length ≠ 0 := fun z => e (List.length_eq_zero_iff.mp z)
      omega
theorem settleM_ne {rep : Int → Int} {h : Int} {j : Int} : ∀ (fr : List Int) (R : Int → List Rt), R j ≠ [] → settleM rep h fr R j ≠ []
  | [], _, hj => hj
  | x :: fr, R, hj => settleM_ne fr _ (settle1_at.2.1 hj)
theorem settleM_head {rep : Int → Int} {h : Int} {x : Int} : ∀ (fr : List Int) (R : Int → List Rt), x ∈ fr → settleM rep h fr R (rep x) ≠ []
  | y :: fr, R, hx => by
    rcases List.mem_cons.mp hx with e | hx
    · subst e
      exact settleM_ne fr _ (settle1_at (j := 0)).2.2.1
    · exact settleM_head fr _ hx
theorem settleM_out {rep : Int → Int} {h : Int} {j : Int} : ∀ (fr : List Int) (R : Int → List Rt), (∀ x ∈ fr, j ≠ rep x) → settleM rep h fr R j = R j
  | [], _, _ => rfl
  | x :: fr, R, hj => by
    show settleM rep h fr (settle1 rep h R x) j = R j
    rw [settleM_out fr _ fun y hy => hj y (List.mem_cons_of_mem _ hy), settle1_at.1 (hj x List.mem_cons_self)]
theorem settleM_len {rep : Int → Int} {h : Int} {j : Int} : ∀ (fr : List Int) (R : Int → List Rt), (settleM rep h fr R j).length ≤ max (R j).length 1
  | [], _ => by show (_ : Nat) ≤ _; unfold settleM; simp only [List.foldl_nil]; omega
  | x :: fr, R => by
    have h1 := settleM_len (rep := rep) (h := h) (j := j) fr (settle1 rep h R x)
    have h2 := (settle1_at (rep := rep) (h := h) (R := R) (x := x) (j := j)).2.2.2.1
    show (settleM rep h fr (settle1 rep h R x) j).length ≤ _
    omega
theorem Ok.settle {hs : List Int} {N : Nat} {S : Int → Prop} {D : Nat} {st : MS} (o : Ok N S D st) {h : Int} {fr : List Int} (hf : ∀ p ∈ fr, S p) : Ok N S (D + 1) (st.1, settleM st.1 h fr st.2) := by
  refine ⟨o.rng, fun i hi => ⟨(o.out i hi).1, ?_⟩, o.rin, fun i => ?_, fun i => ?_⟩
  · have : settleM st.1 h fr st.2 i = st.2 i := settleM_out fr _ fun x hx z => hi (by rw [z]; exact o.rin x (hf x hx))
    show settleM st.1 h fr st.2 i = []
    rw [this]; exact (o.out i hi).2
  · rcases settleM_dep (rep := st.1) (h := h) (D := D) fr st.2 (fun j => .inl (o.dep j)) i with q | ⟨_, q⟩
    · exact Nat.le_succ_of_le q
    · exact q
  · by_cases e : ∃ x ∈ fr, i = st.1 x
    · obtain ⟨x, hx, rfl⟩ := e
      obtain ⟨r1, r2⟩ := o.rng x (hf x hx)
      have := cap_pos (rep := st.1) r1 r2
      have h1 := settleM_len (rep := st.1) (h := h) (j := st.1 x) fr st.2
      have h2 := o.cap (st.1 x)
      show (settleM st.1 h fr st.2 (st.1 x)).length ≤ Row.cap N st.1 (st.1 x)
      omega
    · show (settleM st.1 h fr st.2 i).length ≤ _
      rw [settleM_out fr _ fun x hx z => e ⟨x, hx, z⟩]
      exact o.cap i
/-- what is fresh joins S: nothing changes -/
theorem Ok.more {N : Nat} {S S' : Int → Prop} {D : Nat} {st : MS} (o : Ok N S D st) (h : ∀ i, S i → S' i) (hr : ∀ i, S' i → 0 ≤ i ∧ i < N) : Ok N S' D st :=
  ⟨hr, fun i hi => o.out i fun z => hi (h i z), fun i hi => by
    by_cases e : S i
    · exact h _ (o.rin i e)
    · rw [(o.out i e).1]; exact hi, o.dep, o.cap⟩
/-- each part has a root, or a fresh place -/
def Fed (S : Int → Prop) (fr : List Int) (st : MS) : Prop := ∀ i, S i → st.2 (st.1 i) ≠ [] ∨ ∃ x ∈ fr, st.1 x = st.1 i
theorem Fed.join {S : Int → Prop} {fr : List Int} {st : MS} (f : Fed S fr st) {p q : Int} (hp : p ∈ fr) : Fed S fr (joinM st p q) := by
  unfold joinM
  by_cases e : st.1 p = st.1 q
  · rw [if_pos e]; exact f
  rw [if_neg e]
  intro i hi
  dsimp only
  by_cases h1 : st.1 i = st.1 p
  · rw [if_pos h1]
    exact .inr ⟨p, hp, by rw [if_pos rfl]⟩
  · rw [if_neg h1]
    by_cases h2 : st.1 i = st.1 q
    · exact .inr ⟨p, hp, by rw [if_pos rfl, h2]⟩
    · rcases f i hi with q1 | ⟨x, hx, q1⟩
      · left
        simp only [joinR, if_neg h2, if_neg h1]; exact q1
      · exact .inr ⟨x, hx, by rw [q1, if_neg h1]⟩
theorem Fed.nb {hs : List Int} {ht : Int} {S : Int → Prop} {fr : List Int} {st : MS} (f : Fed S fr st) {p q : Int} (hp : p ∈ fr) : Fed S fr (nb hs ht p st q) := by
  unfold Row.nb
  split
  · exact f.join hp
  · exact f
theorem Fed.steps {hs : List Int} {ht : Int} {S : Int → Prop} {fr : List Int} : ∀ (l : List Int) {st : MS}, Fed S fr st → (∀ p ∈ l, p ∈ fr) → Fed S fr (l.foldl (stepJ hs ht) st)
  | [], _, f, _ => f
  | p :: l, st, f, h => Fed.steps l ((f.nb (h p List.mem_cons_self)).nb (h p List.mem_cons_self)) fun q hq => h q (List.mem_cons_of_mem _ hq)
theorem Fed.settle {S : Int → Prop} {fr : List Int} {st : MS} {h : Int} (f : Fed S fr st) : ∀ i, S i → settleM st.1 h fr st.2 (st.1 i) ≠ [] := fun i hi => by
  rcases f i hi with q | ⟨x, hx, q⟩
  · exact settleM_ne fr _ q
  · rw [← q]; exact settleM_head fr _ hx
/-- what is in behind so many heights -/
def Sj (hs ds : List Int) (j : Nat) (i : Int) : Prop := 0 ≤ i ∧ i < hs.length ∧ hs.getD i.toNat 0 ∈ ds.take j
theorem sj_next {hs ds : List Int} {j : Nat} {ht : Int} (hj : ds[j]? = some ht) (hp : ds.Pairwise (· < ·)) (hm : ∀ k, k ∈ ds ↔ k ∈ hs) (i : Int) : Sj hs ds (j + 1) i ↔ inS hs ht i = true := by
  rw [inS_iff]
  unfold Sj
  have hjl : j < ds.length := (List.getElem?_eq_some_iff.mp hj).1
  have hje : ds[j] = ht := (List.getElem?_eq_some_iff.mp hj).2
  constructor
  · rintro ⟨h0, h1, h2⟩
    refine ⟨h0, h1, ?_⟩
    obtain ⟨k, hk, e⟩ := List.mem_take_iff_getElem.mp h2
    rw [← e]
    have hk' : k ≤ j := by omega
    rcases Nat.lt_or_eq_of_le hk' with z | z
    · have := List.pairwise_iff_getElem.mp hp k j (by omega) hjl z
      rw [hje] at this; omega
    · subst z; omega
  · rintro ⟨h0, h1, h2⟩
    refine ⟨h0, h1, ?_⟩
    have hi : i.toNat < hs.length := by omega
    have hmem : hs.getD i.toNat 0 ∈ ds := by
      rw [hm, List.getD_eq_getElem?_getD, List.getElem?_eq_getElem hi]
      exact List.getElem_mem hi
    obtain ⟨k, hk, e⟩ := List.getElem_of_mem hmem
    refine List.mem_take_iff_getElem.mpr ⟨k, ?_, e⟩
    have : k ≤ j := by
      rcases Nat.lt_or_ge j k with z | z
      · have := List.pairwise_iff_getElem.mp hp j k hjl hk z
        rw [hje, e] at this; omega
      · exact z
    omega
theorem idx_sub {hs ds : List Int} {j : Nat} {ht : Int} (hj : ds[j]? = some ht) (hp : ds.Pairwise (· < ·)) (hm : ∀ k, k ∈ ds ↔ k ∈ hs) : ∀ p ∈ idx hs ht, Sj hs ds (j + 1) p ∧ ¬ Sj hs ds j p := by
  intro p hp'
  obtain ⟨h0, h1, h2⟩ := mem_idx.mp hp'
  refine ⟨(sj_next hj hp hm p).mpr (inS_iff.mpr ⟨h0, h1, by omega⟩), fun z => ?_⟩
  have hjl : j < ds.length := (List.getElem?_eq_some_iff.mp hj).1
  have hje : ds[j] = ht := (List.getElem?_eq_some_iff.mp hj).2
  obtain ⟨k, hk, e⟩ := List.mem_take_iff_getElem.mp z.2.2
  have := List.pairwise_iff_getElem.mp hp k j (by omega) hjl (by omega)
  rw [hje, e, h2] at this; omega
theorem sj_split {hs ds : List Int} {j : Nat} {ht : Int} (hj : ds[j]? = some ht) (hp : ds.Pairwise (· < ·)) (hm : ∀ k, k ∈ ds ↔ k ∈ hs) (i : Int) : Sj hs ds (j + 1) i ↔ Sj hs ds j i ∨ i ∈ idx hs ht := by
  constructor
  · rintro ⟨h0, h1, h2⟩
    rw [List.take_add_one, hj] at h2
    rcases List.mem_append.mp h2 with z | z
    · exact .inl ⟨h0, h1, z⟩
    · have : hs.getD i.toNat 0 = ht := by simpa using z
      exact .inr (mem_idx.mpr ⟨h0, h1, this⟩)
  · rintro (⟨h0, h1, h2⟩ | z)
    · refine ⟨h0, h1, ?_⟩
      rw [List.take_add_one]
      exact List.mem_append_left _ h2
    · exact (idx_sub hj hp hm i z).1
theorem rowSt_take {hs : List Int} {least : Int} {ds : List Int} {j : Nat} {ht : Int} (hj : ds[j]? = some ht) : rowSt hs least (ds.take (j + 1)) = level hs least (rowSt hs least (ds.take j)) ht := by
  unfold rowSt
  rw [List.take_add_one, hj, List.foldl_append]
  rfl
theorem idx_nodup {hs : List Int} {ht : Int} : (idx hs ht).Nodup := by
  unfold idx
  refine List.Pairwise.map _ (fun a b h => ?_) (List.nodup_range.filter _)
  omega
theorem level_ok {hs ds : List Int} {least : Int} {j : Nat} {ht : Int} {st : MS} (hj : ds[j]? = some ht) (hp : ds.Pairwise (· < ·)) (hm : ∀ k, k ∈ ds ↔ k ∈ hs) (o : Ok hs.length (Sj hs ds j) j st) (ne : ∀ i, Sj hs ds j i → st.2 (st.1 i) ≠ []) :
    Ok hs.length (Sj hs ds (j + 1)) (j + 1) (level hs least st ht) ∧ ∀ i, Sj hs ds (j + 1) i → (level hs least st ht).2 ((level hs least st ht).1 i) ≠ [] := by
  have o1 : Ok hs.length (Sj hs ds (j + 1)) j st := o.more (fun i hi => (sj_split hj hp hm i).mpr (.inl hi)) fun i hi => ⟨hi.1, hi.2.1⟩
  have hf : ∀ p ∈ idx hs ht, Sj hs ds (j + 1) p := fun p hp' => (idx_sub hj hp hm p hp').1
  have o2 := Ok.steps (sj_next hj hp hm) (idx hs ht) o1 hf
  have f1 : Fed (Sj hs ds (j + 1)) (idx hs ht) st := fun i hi => by
    rcases (sj_split hj hp hm i).mp hi with z | z
    · exact .inl (ne i z)
    · exact .inr ⟨i, z, rfl⟩
  have f2 := Fed.steps (hs := hs) (ht := ht) (idx hs ht) f1 fun p hp' => hp'
  exact ⟨o2.settle (hs := hs) hf, f2.settle⟩
theorem row_ok {hs ds : List Int} {least : Int} (hp : ds.Pairwise (· < ·)) (hm : ∀ k, k ∈ ds ↔ k ∈ hs) : ∀ j, j ≤ ds.length →
    Ok hs.length (Sj hs ds j) j (rowSt hs least (ds.take j)) ∧ ∀ i, Sj hs ds j i → (rowSt hs least (ds.take j)).2 ((rowSt hs least (ds.take j)).1 i) ≠ []
  | 0, _ => by
    have hn : ∀ i, ¬ Sj hs ds 0 i := fun i h => by have := h.2.2; simp at this
    refine ⟨⟨fun i hi => absurd hi (hn i), fun i _ => ⟨rfl, rfl⟩, fun i hi => absurd hi (hn i), fun i => Nat.zero_le _, fun i => Nat.zero_le _⟩, fun i hi => absurd hi (hn i)⟩
  | j + 1, hj => by
    obtain ⟨o, ne⟩ := row_ok hp hm j (by omega)
    have e : ds[j]? = some ds[j] := List.getElem?_eq_getElem (by omega)
    rw [rowSt_take e]
    exact level_ok e hp hm o ne
end Row
set_option Elab.async false
set_option maxRecDepth 100000
set_option maxHeartbeats 8000000
set_option linter.all false
/-! RootsTr: the defs of the roots of rows as transformers (written by gen.py). -/
namespace RootsTr
open PySem PySem.Spec PyProof.Rows L2 U

abbrev nm_leader : List Str := ["leaders", "one"]
def tr_leader (K : PySem.W.Frag) (w : World)  : TS :=
 (tSeq (tWhile (tTest (tOp (rNeU K 800) (tOp (rIxU K) (tVar 0) (tVar 1)) (tVar 1)))
 (tSeq (tAsg (tOp (rIxU K) (tVar 0) (tOp (rIxU K) (tVar 0) (tVar 1))) (gSub (tVar 0) (tVar 1) rSetU))
 (tAsg (tOp (rIxU K) (tVar 0) (tVar 1)) (gName 1))))
 (tRet (tVar 1)))
abbrev nm_join : List Str := ["leaders", "roots", "one", "other", "first", "second"]
def tr_join (K : PySem.W.Frag) (w : World) (sp_leader : Sp) : TS :=
 (tSeq (tPar 4 5 (tCons (tCall sp_leader [] E0 (tCons (tVar 0) (tCons (tVar 2) tNil))) (tCons (tCall sp_leader [] E0 (tCons (tVar 0) (tCons (tVar 3) tNil))) tNil)))
 (tSeq (tIfS (tTest (tOp (rEqU K 800) (tVar 4) (tVar 5)))
 (tRet (tC (.int 0)))
 tNext)
 (tSeq (tAsg (tVar 5) (gSub (tVar 0) (tVar 4) rSetU))
 (tSeq (tAsg (tOp (rAddU K) (tOp (rIxU K) (tVar 1) (tVar 4)) (tOp (rIxU K) (tVar 1) (tVar 5))) (gSub (tVar 1) (tVar 5) rSetU))
 (tSeq (tAsg (tLst tNil) (gSub (tVar 1) (tVar 4) rSetU))
 (tRet (tC (.int 1))))))))
abbrev nm_settle : List Str := ["leaders", "roots", "fresh", "height", "one", "head"]
def tr_settle (K : PySem.W.Frag) (w : World) (sp_leader : Sp) : TS :=
 (tFor (iU K (tVar 2)) (gName 4)
 (tSeq (tAsg (tCall sp_leader [] E0 (tCons (tVar 0) (tCons (tVar 4) tNil))) (gName 5))
 (tIfS (tTest (tOp (rEqU K 800) (tOp (rIxU K) (tVar 1) (tVar 5)) (tLst tNil)))
 (tAsg (tLst (tCons (tTup (tCons (tVar 3) (tCons (tTup tNil) tNil))) tNil)) (gSub (tVar 1) (tVar 5) rSetU))
 (tIfS (tTest (tOp (rI0 fun i j => .bl (decide (j < i))) (tCB (rLenU K) (tCons (tOp (rIxU K) (tVar 1) (tVar 5)) tNil)) (tC (.int 1))))
 (tAsg (tLst (tCons (tTup (tCons (tVar 3) (tCons (tCB (rTupleU K) (tCons (tCB (rSortedU K w 800) (tCons (tOp (rIxU K) (tVar 1) (tVar 5)) tNil)) tNil)) tNil))) tNil)) (gSub (tVar 1) (tVar 5) rSetU))
 tNext))))
abbrev nm_root_of_row : List Str := ["heights", "least", "leaders", "roots", "height", "fresh", "place", "entry", "other"]
def tr_root_of_row (K : PySem.W.Frag) (w : World) (sp_join : Sp) (sp_leader : Sp) (sp_settle : Sp) : TS :=
 (tSeq (tPar3 1 2 3 (tCons (tCB (rMinU K) (tCons (tVar 0) tNil)) (tCons tDNewK (tCons tDNewK tNil))))
 (tSeq (tFor (iU K (tCB (rSortedU K w 800) (tCons (tCB (rSetTI K w) (tCons (tVar 0) tNil)) tNil))) (gName 4)
 (tSeq (tAsg (tLc (iEnumU K (tCons (tVar 0) tNil)) (gTup K 2 (gCons (gName 6) (gCons (gName 7) gNil))) (tTest (tOp (rEqU K 800) (tVar 7) (tVar 4))) (tVar 6) [6, 7]) (gName 5))
 (tSeq (tFor (iU K (tVar 5)) (gName 6)
 (tAsg (tTup (tCons (tVar 6) (tCons (tLst tNil) tNil))) (gTup K 2 (gCons (gSub (tVar 2) (tVar 6) rSetU) (gCons (gSub (tVar 3) (tVar 6) rSetU) gNil)))))
 (tSeq (tFor (iU K (tVar 5)) (gName 6)
 (tFor (iU K (tTup (tCons (tOp (rI0 fun i j => .int (i - j)) (tVar 6) (tC (.int 1))) (tCons (tOp (rAddU K) (tVar 6) (tC (.int 1))) tNil)))) (gName 8)
 (tIfS (tTest (tOp (rInU K) (tVar 8) (tVar 2)))
 (tDrop (tCall sp_join [] E0 (tCons (tVar 2) (tCons (tVar 3) (tCons (tVar 6) (tCons (tVar 8) tNil))))))
 tNext)))
 (tDrop (tCall sp_settle [] E0 (tCons (tVar 2) (tCons (tVar 3) (tCons (tVar 5) (tCons (tOp (rI0 fun i j => .int (i - j)) (tVar 4) (tVar 1)) tNil))))))))))
 (tRet (tOp (rIxU K) (tOp (rIxU K) (tVar 3) (tCall sp_leader [] E0 (tCons (tVar 2) (tCons (tC (.int 0)) tNil)))) (tC (.int 0))))))

end RootsTr
set_option Elab.async false
set_option maxRecDepth 100000
set_option maxHeartbeats 8000000
set_option linter.all false
/-! K63W1: leader, join. -/
namespace K63
open PySem PySem.Spec PyProof.Rows L2 U RT Row RootsTr
local macro_rules | `(tactic| walk_at "wp") => `(tactic| simp only [U.w_seq, U.w_next, U.w_asg, U.w_gname, U.w_gcons, U.w_gnil, U.w_gsub, U.w_ret, U.w_retn, U.w_drop, U.w_if, U.w_brk, U.w_cont, U.w_var, U.w_c, U.w_op, U.w_un, U.w_test, U.w_tb, U.w_and, U.w_or, U.w_not, U.w_andv, U.w_orv, U.w_notv, U.w_ifx, U.w_nil, U.w_cons, U.w_tup, U.w_lst, U.w_par, U.w_par3, U.w_aug, U.w_ip, U.w_cb, U.w_call, U.w_sl, U.w_nopart, U.w_part, U.w_bm, U.w_bm0, U.w_I0, U.w_I, U.w_U, U.w_add, U.w_mul, U.w_eqI, U.w_neI, U.w_intI, U.w_min2, U.w_max2, U.w_ex, U.w_ex2, U.w_ex3,
  List.getElem?_cons_zero, List.getElem?_cons_succ, List.set_cons_zero, List.set_cons_succ, Option.some.injEq, V.int.injEq, V.bl.injEq, V.str.injEq, V.ref.injEq, List.append_nil, List.nil_append, List.cons_append])

/-- the dict of leaders: S the things that are in, rep the leader of each -/
structure UF (f : Int → Option V) (S : Int → Prop) (rep : Int → Int) : Prop where
  ex : ∃ (par : Int → Int) (μ : Int → Nat), (∀ i, S i → f i = some (.int (par i)) ∧ S (par i) ∧ rep (par i) = rep i) ∧ (∀ i, S i → par i = i → rep i = i) ∧ (∀ i, S i → par i ≠ i → μ (par i) < μ i)
  out : ∀ i, ¬ S i → f i = none
theorem UF.rep_in {f : Int → Option V} {S : Int → Prop} {rep : Int → Int} (u : UF f S rep) : ∀ i, S i → S (rep i) ∧ rep (rep i) = rep i := by
  obtain ⟨⟨par, μ, h1, h2, h3⟩, _⟩ := u
  have key : ∀ n i, μ i ≤ n → S i → S (rep i) ∧ rep (rep i) = rep i := by
    intro n
    induction n with
    | zero =>
      intro i hn hs
      by_cases e : par i = i
      · rw [h2 i hs e]; exact ⟨hs, h2 i hs e⟩
      · have := h3 i hs e; omega
    | succ n ih =>
      intro i hn hs
      by_cases e : par i = i
      · rw [h2 i hs e]; exact ⟨hs, h2 i hs e⟩
      · have := h3 i hs e
        obtain ⟨_, q2, q3⟩ := h1 i hs
        rw [← q3]
        exact ih _ (by omega) q2
  exact fun i hs => key _ i (Nat.le_refl _) hs
def spLeader : Sp := fun vs H Q _ => ∃ (a : Addr) (i : Int) (n : Nat) (f : Int → Option V) (S : Int → Prop) (rep : Int → Int), vs = [.ref a, .int i] ∧ DF H a f n ∧ n < sizeLine ∧ UF f S rep ∧ S i ∧
  ∀ (f' : Int → Option V) (H' : Hp), DF H' a f' n → UF f' S rep → St [a] H H' → (∀ b, b ≠ a → H' b = H b) → Q (.int (rep i)) H'
theorem rd_leader {K : PySem.W.Frag} {w : World} {vs : List V} {H : Hp} {Q : VK} {E : XK} (h : spLeader vs H Q E) : tr_leader K w { nx := fun _ H' => Q .non H', rt := Q } (start nm_leader vs) H := by
  obtain ⟨a, i, n, f, S, rep, rfl, hd, hn, hu, hi, k⟩ := h
  show tr_leader K w _ [some (.ref a), some (.int i)] H
  unfold tr_leader
  rw [w_seq]
  refine while_e (fun m σ H1 => ∃ (j : Int) (f' : Int → Option V) (par : Int → Int) (μ : Int → Nat), σ = [some (.ref a), some (.int j)] ∧ DF H1 a f' n ∧ m = μ j ∧ ((∀ i, S i → f' i = some (.int (par i)) ∧ S (par i) ∧ rep (par i) = rep i) ∧ (∀ i, S i → par i = i → rep i = i) ∧ (∀ i, S i → par i ≠ i → μ (par i) < μ i)) ∧
    (∀ i, ¬ S i → f' i = none) ∧ S j ∧ rep j = rep i ∧ U.St [a] H H1 ∧ (∀ b, b ≠ a → H1 b = H b)) ?_ ?_
  · obtain ⟨⟨par, μ, h⟩, ho⟩ := hu
    exact ⟨_, i, f, par, μ, rfl, hd, rfl, h, ho, hi, rfl, U.St.refl H, fun _ _ => rfl⟩
  rintro m σ H1 ⟨j, f', par, μ, rfl, hd1, rfl, ⟨h1, h2, h3⟩, ho, hj, hr, s1, e1⟩
  obtain ⟨p1, p2, p3⟩ := h1 j hj
  walk_at "wp"
  refine hd1.get p1 ?_
  walk_at "wp"
  by_cases e : par j = j
  · rw [decide_eq_true e]
    refine iteF ?_
    have ej : rep i = j := hr.symm.trans (h2 j hj e)
    rw [← ej]
    exact k f' H1 hd1 ⟨⟨par, μ, h1, h2, h3⟩, ho⟩ s1 e1
  · rw [decide_eq_false e]
    refine iteT ?_
    obtain ⟨q1, q2, q3⟩ := h1 (par j) p2
    refine nx_of ?_
    refine hd1.get p1 (hd1.get q1 (hd1.set_old p1 hn fun H2 s2 hd2 e2 => ?_))
    refine hd2.get setF_same ?_
    have hlt := h3 j hj e
    have hle : μ (par (par j)) ≤ μ (par j) := by
      by_cases e' : par (par j) = par j
      · exact Nat.le_of_eq (by rw [e'])
      · exact Nat.le_of_lt (h3 _ p2 e')
    have hne : par (par j) ≠ j := fun z => by rw [z] at hle; omega
    refine ⟨μ (par (par j)), by omega, par (par j), _, fun x => if x = j then par (par j) else par x, μ, rfl, hd2, rfl, ⟨fun x hx => ?_, fun x hx hp => ?_, fun x hx hp => ?_⟩, fun x hx => ?_, q2, q3.trans (p3.trans hr), s1.trans (s2 _ (by simp)), fun b hb => (e2 b hb).trans (e1 b hb)⟩
    · dsimp only
      by_cases hxj : x = j
      · subst hxj
        rw [if_pos rfl, setF_same]
        exact ⟨rfl, q2, q3.trans p3⟩
      · rw [if_neg hxj, setF_ne hxj]
        exact h1 x hx
    · dsimp only at hp
      by_cases hxj : x = j
      · subst hxj; rw [if_pos rfl] at hp; exact absurd hp hne
      · rw [if_neg hxj] at hp; exact h2 x hx hp
    · by_cases hxj : x = j
      · subst hxj
        show μ (if x = x then par (par x) else par x) < μ x
        rw [if_pos rfl]; omega
      · show μ (if x = j then par (par j) else par x) < μ x
        rw [if_neg hxj]
        dsimp only at hp
        rw [if_neg hxj] at hp
        exact h3 x hx hp
    · rw [setF_ne (fun z => hx (by rw [z]; exact hj))]
      exact ho x hx

/-! ### join -/
theorem UF.join {f : Int → Option V} {S : Int → Prop} {rep : Int → Int} (u : UF f S rep) {x y : Int} (hx : S x) (hy : S y) (ne : rep x ≠ rep y) :
    UF (setF f (rep x) (.int (rep y))) S (fun i => if rep i = rep x then rep y else rep i) := by
  obtain ⟨sx, rx⟩ := u.rep_in x hx
  obtain ⟨sy, ry⟩ := u.rep_in y hy
  obtain ⟨⟨par, μ, h1, h2, h3⟩, ho⟩ := u
  refine ⟨⟨fun i => if i = rep x then rep y else par i, fun i => if rep i = rep x then μ i + μ (rep y) + 1 else μ i, fun i hi => ?_, fun i hi hp => ?_, fun i hi hp => ?_⟩, fun i hi => ?_⟩
  · dsimp only
    obtain ⟨q1, q2, q3⟩ := h1 i hi
    by_cases e : i = rep x
    · subst e
      simp only [if_pos rfl, setF_same, ry, rx, if_true, if_neg (Ne.symm ne)]
      exact ⟨trivial, sy, trivial⟩
    · simp only [if_neg e, setF_ne e, q3]
      exact ⟨q1, q2, trivial⟩
  · dsimp only at hp ⊢
    by_cases e : i = rep x
    · rw [if_pos e] at hp
      exact absurd (e.symm.trans hp.symm) ne
    · rw [if_neg e] at hp
      have := h2 i hi hp
      rw [this, if_neg e]
  · dsimp only at hp ⊢
    obtain ⟨q1, q2, q3⟩ := h1 i hi
    by_cases e : i = rep x
    · subst e
      rw [if_pos rfl, ry, if_neg (Ne.symm ne), rx, if_pos rfl]
      omega
    · rw [if_neg e] at hp ⊢
      have := h3 i hi hp
      rw [q3]
      split <;> omega
  · rw [setF_ne (fun z => hi (by rw [z]; exact sx))]
    exact ho i hi
/-- the dict of roots: at each thing that is in, a list of data -/
def RtD (K : PySem.W.Frag) (H : Hp) (b : Addr) (S : Int → Prop) (R : Int → List Rt) (n : Nat) : Prop :=
  ∃ g : Int → Option V, DF H b g n ∧ (∀ i, ¬ S i → g i = none) ∧ ∀ i, S i → ∃ (l : Addr) (xs : List V), g i = some (.ref l) ∧ H l = some (.lst xs) ∧ DpRs K H xs (R i) ∧ (R i).length ≤ 100000
def spJoin (K : PySem.W.Frag) : Sp := fun vs H Q _ => ∃ (a b : Addr) (x y : Int) (n m : Nat) (f : Int → Option V) (S : Int → Prop) (rep : Int → Int) (R : Int → List Rt), vs = [.ref a, .ref b, .int x, .int y] ∧ a ≠ b ∧ DF H a f n ∧ n < sizeLine ∧ UF f S rep ∧ S x ∧ S y ∧
  RtD K H b S R m ∧ m < sizeLine ∧ (R (rep x)).length + (R (rep y)).length ≤ 100000 ∧
  (rep x = rep y → ∀ (f' : Int → Option V) (H' : Hp), DF H' a f' n → UF f' S rep → RtD K H' b S R m → U.St [a] H H' → Q (.int 0) H') ∧
  (rep x ≠ rep y → ∀ (f' : Int → Option V) (H' : Hp), DF H' a f' n → UF f' S (fun i => if rep i = rep x then rep y else rep i) → RtD K H' b S (joinR rep R x y) m → U.St [a, b] H H' → Q (.int 1) H')
theorem RtD.df {K : PySem.W.Frag} {H : Hp} {b : Addr} {S : Int → Prop} {R : Int → List Rt} {n : Nat} (r : RtD K H b S R n) : ∃ kvs : List (Key × V), H b = some (.dK kvs) := let ⟨_, ⟨kvs, e, _⟩, _⟩ := r; ⟨kvs, e⟩
theorem RtD.st {K : PySem.W.Frag} {H H' : Hp} {b : Addr} {S : Int → Prop} {R : Int → List Rt} {n : Nat} {M : List Addr} (r : RtD K H b S R n) (s : U.St M H H') (hn : NoSeq H M) (hb : b ∉ M) : RtD K H' b S R n := by
  obtain ⟨g, d, o, q⟩ := r
  refine ⟨g, d.st s hb, o, fun i hi => ?_⟩
  obtain ⟨l, xs, e1, e2, e3, e4⟩ := q i hi
  have hl : l ∉ M := fun z => (hn l z).1 xs (.inl e2)
  exact ⟨l, xs, e1, s l _ e2 hl, St.dpRs s hn _ _ e3, e4⟩
/-- one list of the dict of roots is replaced -/
theorem RtD.set {K : PySem.W.Frag} {H : Hp} {b p : Addr} {S : Int → Prop} {R : Int → List Rt} {n : Nat} {i : Int} {ys : List V} {ds : List Rt} {QH : Hp → Prop} (r : RtD K H b S R n) (hi : S i) (hn : n < sizeLine) (hp : H p = some (.lst ys)) (hd : DpRs K H ys ds) (hl : List.length ds ≤ 100000)
    (q : ∀ H', (∀ M : List Addr, b ∈ M → U.St M H H') → RtD K H' b S (fun j => if j = i then ds else R j) n → (∀ c, c ≠ b → H' c = H c) → QH H') : rSetU (.ref b) (.int i) (.ref p) H QH := by
  obtain ⟨kvs, hb⟩ := r.df
  obtain ⟨g, d, o, h⟩ := r
  obtain ⟨l0, xs0, e0, _⟩ := h i hi
  refine d.set_old e0 hn fun H' s d' eH => q H' s ⟨_, d', fun j hj => ?_, fun j hj => ?_⟩ eH
  · rw [setF_ne (fun z => hj (by rw [z]; exact hi))]; exact o j hj
  · have ns : NoSeq H [b] := noSeq_cons hb noSeq_nil
    have st := s [b] (by simp)
    dsimp only
    by_cases e : j = i
    · rw [e, setF_same, if_pos rfl]
      have hpb : p ≠ b := by rintro rfl; rw [hp] at hb; cases hb
      exact ⟨p, ys, rfl, by rw [eH p hpb]; exact hp, St.dpRs st ns _ _ hd, hl⟩
    · rw [setF_ne e, if_neg e]
      obtain ⟨l, xs, e1, e2, e3, e4⟩ := h j hj
      have hlb : l ≠ b := by rintro rfl; rw [e2] at hb; cases hb
      exact ⟨l, xs, e1, by rw [eH l hlb]; exact e2, St.dpRs st ns _ _ e3, e4⟩
theorem RtD.get {K : PySem.W.Frag} {H : Hp} {b : Addr} {S : Int → Prop} {R : Int → List Rt} {n : Nat} {i : Int} {Q : VK} (r : RtD K H b S R n) (hi : S i) (q : ∀ (l : Addr) (xs : List V), H l = some (.lst xs) → DpRs K H xs (R i) → (R i).length ≤ 100000 → Q (.ref l) H) : rIxU K (.ref b) (.int i) H Q := by
  obtain ⟨g, d, o, h⟩ := r
  obtain ⟨l, xs, e1, e2, e3, e4⟩ := h i hi
  exact d.get e1 (q l xs e2 e3 e4)
theorem rd_join {K : PySem.W.Frag} {w : World} {vs : List V} {H : Hp} {Q : VK} {E : XK} (h : spJoin K vs H Q E) : tr_join K w spLeader { nx := fun _ H' => Q .non H', rt := Q } (start nm_join vs) H := by
  obtain ⟨a, b, x, y, n, m, f, S, rep, R, rfl, hab, hd, hn, hu, hx, hy, hr, hm, hl, k0, k1⟩ := h
  show tr_join K w spLeader _ [some (.ref a), some (.ref b), some (.int x), some (.int y), none, none] H
  unfold tr_join
  walk_at "wp"
  obtain ⟨sx, rx⟩ := hu.rep_in x hx
  obtain ⟨sy, ry⟩ := hu.rep_in y hy
  refine ⟨a, x, n, f, S, rep, rfl, hd, hn, hu, hx, fun f1 H1 hd1 hu1 s1 e1 => ?_⟩
  obtain ⟨kvs, hda⟩ := id (show ∃ kvs : List (Key × V), H a = some (.dK kvs) from let ⟨kvs, e, _⟩ := hd; ⟨kvs, e⟩)
  have ns : NoSeq H [a] := noSeq_cons hda noSeq_nil
  have hr1 := hr.st s1 ns (by simp [Ne.symm hab])
  refine ⟨a, y, n, f1, S, rep, rfl, hd1, hn, hu1, hy, fun f2 H2 hd2 hu2 s2 e2 => ?_⟩
  obtain ⟨kvs1, hda1⟩ := id (show ∃ kvs : List (Key × V), H1 a = some (.dK kvs) from let ⟨kvs, e, _⟩ := hd1; ⟨kvs, e⟩)
  have hr2 := hr1.st s2 (noSeq_cons hda1 noSeq_nil) (by simp [Ne.symm hab])
  walk_at "wp"
  by_cases e : rep x = rep y
  · rw [decide_eq_true e]
    refine iteT ?_
    exact k0 e f2 H2 hd2 hu2 hr2 (s1.trans s2)
  · rw [decide_eq_false e]
    refine iteF ?_
    have hu3 := hu2.join hx hy e
    obtain ⟨par, μ, h1, h2, h3⟩ := hu2.ex
    obtain ⟨kvs2, hda2⟩ := id (show ∃ kvs : List (Key × V), H2 a = some (.dK kvs) from let ⟨kvs, e, _⟩ := hd2; ⟨kvs, e⟩)
    refine hd2.set_old (h1 _ sx).1 hn fun H3 s3 hd3 e3 => ?_
    have hr3 := hr2.st (s3 [a] (by simp)) (noSeq_cons hda2 noSeq_nil) (by simp [Ne.symm hab])
    refine hr3.get sx fun l xs hl1 hxs hl2 => hr3.get sy fun l' xs' hl1' hxs' hl2' => ?_
    have hz : xs.length + xs'.length ≤ sizeLine := by rw [hxs.len, hxs'.len]; exact Nat.le_trans hl (by decide)
    refine .inr (.inl ⟨l, l', xs, xs', rfl, rfl, hl1, hl1', hz, fun p hp => ?_⟩)
    have hr4 := hr3.st (U.St.new (M := []) (o := .lst (xs ++ xs')) hp) noSeq_nil (by simp)
    have hd4 := hd3.st (U.St.new (M := []) (o := .lst (xs ++ xs')) hp) (by simp)
    have dp4 : DpRs K (upd H3 p (.lst (xs ++ xs'))) (xs ++ xs') (R (rep x) ++ R (rep y)) := DpRs.app (St.dpRs (U.St.new (M := []) hp) noSeq_nil _ _ hxs) (St.dpRs (U.St.new (M := []) hp) noSeq_nil _ _ hxs')
    refine hr4.set sy hm upd_same dp4 (by rw [List.length_append]; omega) fun H5 s5 hr5 e5 => ?_
    refine ⟨Nat.zero_le _, fun q hq => ?_⟩
    have hr6 := hr5.st (U.St.new (M := []) (o := .lst []) hq) noSeq_nil (by simp)
    refine hr6.set sx hm upd_same .nil (Nat.zero_le _) fun H7 s7 hr7 e7 => ?_
    have s15 : U.St [a, b] H H5 := (s1.mono (by simp)).trans ((s2.mono (by simp)).trans ((s3 _ (by simp)).trans ((U.St.new hp).trans (s5 _ (by simp)))))
    have hd5 := hd4.st (s5 [b] (by simp)) (by simp [hab])
    have hd7 := (hd5.st (U.St.new (M := []) (o := .lst []) hq) (by simp)).st (s7 [b] (by simp)) (by simp [hab])
    refine k1 e _ H7 hd7 hu3 ?_ (s15.trans ((U.St.new hq).trans (s7 _ (by simp))))
    have er : (fun j => if j = rep x then ([] : List Rt) else if j = rep y then R (rep x) ++ R (rep y) else R j) = joinR rep R x y := by
      funext j
      unfold joinR
      by_cases z : j = rep x
      · rw [if_pos z, if_neg (fun q => e (z.symm.trans q)), if_pos z]
      · rw [if_neg z]
        by_cases z2 : j = rep y
        · rw [if_pos z2, if_pos z2]
        · rw [if_neg z2, if_neg z2, if_neg z]
    rw [← er]
    exact hr7
end K63
set_option Elab.async false
set_option maxRecDepth 100000
set_option maxHeartbeats 8000000
set_option linter.all false
/-! K63W2: settle. -/
namespace K63
open PySem PySem.Spec PyProof.Rows L2 U RT Row RootsTr
local macro_rules | `(tactic| walk_at "wp") => `(tactic| simp only [U.w_seq, U.w_next, U.w_asg, U.w_gname, U.w_gcons, U.w_gnil, U.w_gsub, U.w_ret, U.w_retn, U.w_drop, U.w_if, U.w_brk, U.w_cont, U.w_var, U.w_c, U.w_op, U.w_un, U.w_test, U.w_tb, U.w_and, U.w_or, U.w_not, U.w_andv, U.w_orv, U.w_notv, U.w_ifx, U.w_nil, U.w_cons, U.w_tup, U.w_lst, U.w_par, U.w_par3, U.w_aug, U.w_ip, U.w_cb, U.w_call, U.w_sl, U.w_nopart, U.w_part, U.w_bm, U.w_bm0, U.w_I0, U.w_I, U.w_U, U.w_add, U.w_mul, U.w_eqI, U.w_neI, U.w_intI, U.w_min2, U.w_max2, U.w_ex, U.w_ex2, U.w_ex3,
  List.getElem?_cons_zero, List.getElem?_cons_succ, List.set_cons_zero, List.set_cons_succ, Option.some.injEq, V.int.injEq, V.bl.injEq, V.str.injEq, V.ref.injEq, List.append_nil, List.nil_append, List.cons_append])

def spSettle (K : PySem.W.Frag) : Sp := fun vs H Q _ => ∃ (a b c : Addr) (h : Int) (n m D : Nat) (f : Int → Option V) (S : Int → Prop) (rep : Int → Int) (R : Int → List Rt) (fr : List Int), vs = [.ref a, .ref b, .ref c, .int h] ∧ a ≠ b ∧ DF H a f n ∧ n < sizeLine ∧ UF f S rep ∧
  RtD K H b S R m ∧ m < sizeLine ∧ SqL K H c (fr.map V.int) ∧ (∀ x ∈ fr, S x) ∧ (∀ j, deps (R j) ≤ D) ∧ D ≤ 399 ∧
  ∀ (f' : Int → Option V) (H' : Hp), DF H' a f' n → UF f' S rep → RtD K H' b S (settleM rep h fr R) m → U.St [a, b] H H' → Q .non H'
theorem DF.dk {H : Hp} {a : Addr} {f : Int → Option V} {n : Nat} (h : DF H a f n) : ∃ kvs : List (Key × V), H a = some (.dK kvs) := let ⟨kvs, e, _⟩ := h; ⟨kvs, e⟩
theorem DF.ns1 {H : Hp} {a : Addr} {f : Int → Option V} {n : Nat} (h : DF H a f n) : NoSeq H [a] := let ⟨kvs, e⟩ := DF.dk h; noSeq_cons e noSeq_nil
theorem RtD.ns1 {K : PySem.W.Frag} {H : Hp} {b : Addr} {S : Int → Prop} {R : Int → List Rt} {n : Nat} (h : RtD K H b S R n) : NoSeq H [b] := let ⟨kvs, e⟩ := h.df; noSeq_cons e noSeq_nil
theorem ns2 {K : PySem.W.Frag} {H : Hp} {a b : Addr} {f : Int → Option V} {n m : Nat} {S : Int → Prop} {R : Int → List Rt} (h : DF H a f n) (r : RtD K H b S R m) : NoSeq H [a, b] := let ⟨_, e⟩ := r.df; h.ns (noSeq_cons e noSeq_nil)
theorem sz1 {n : Nat} (h : n ≤ 1000) : n ≤ sizeLine := Nat.le_trans h (by decide)
theorem dpR_leaf {K : PySem.W.Frag} {H : Hp} {p q : Addr} {h : Int} (h1 : H p = some (.tup [.int h, .ref q])) (h2 : H q = some (.tup [])) : DpR K H (.ref p) (.mk h []) := .leaf (.of h1) (.of h2)
theorem eqv_nil (rs : List Rt) : PyData.eqv (.list (encs rs)) (.list []) = decide (rs = []) := by
  cases rs with
  | nil => simp [encs, PyData.eqv, PyData.eqvAll]
  | cons r rs => simp [encs, PyData.eqv, PyData.eqvAll]
theorem eq_nilL {K : PySem.W.Frag} {H : Hp} {l q : Addr} {xs : List V} {rs : List Rt} {Q : VK} (h1 : H l = some (.lst xs)) (h2 : H q = some (.lst [])) (hd : DpRs K H xs rs) (k : Q (.bl (decide (rs = []))) H) : rEqU K 800 (.ref l) (.ref q) H Q := by
  refine .inr ⟨.list (encs rs), .list [], .lst (.of h1) (DpRs.dp _ _ hd), .lst (.of h2) .nil, ?_, ?_, ?_, ?_⟩
  · simp [PyData.canLay0, lay_encs]
  · simp [PyData.canLay0, PyData.canLayAll0]
  · simp only [PyData.depth, PyData.depthAll]; omega
  · rw [eqv_nil]; exact k
theorem rd_settle {K : PySem.W.Frag} {w : World} {vs : List V} {H : Hp} {Q : VK} {E : XK} (h : spSettle K vs H Q E) : tr_settle K w spLeader { nx := fun _ H' => Q .non H', rt := Q } (start nm_settle vs) H := by
  obtain ⟨a, b, c, h, n, m, D, f, S, rep, R, fr, rfl, hab, hd, hn, hu, hr, hm, hc, hS, hD, hDD, k⟩ := h
  show tr_settle K w spLeader _ [some (.ref a), some (.ref b), some (.ref c), some (.int h), none, none] H
  unfold tr_settle
  rw [U.w_for]
  refine iu_L rfl hc ?_
  refine forgo_list (fun i σ H1 => ∃ (o1 o2 : Option V) (f1 : Int → Option V), σ = [some (.ref a), some (.ref b), some (.ref c), some (.int h), o1, o2] ∧ DF H1 a f1 n ∧ UF f1 S rep ∧ RtD K H1 b S (settleM rep h (fr.take i) R) m ∧ U.St [a, b] H H1)
    ⟨none, none, f, rfl, hd, hu, hr, U.St.refl H⟩ (fun i σ H1 _ ⟨_, _, _, _, _, _, _, s⟩ => s.sqL (ns2 hd hr) hc) ?_ ?_
  · rintro i x σ H1 hi hx ⟨o1, o2, f1, rfl, hd1, hu1, hr1, s1⟩
    obtain ⟨x, hx2, rfl⟩ : ∃ z, fr[i]? = some z ∧ x = V.int z := by
      rw [List.getElem?_map] at hx
      cases e : fr[i]? with
      | none => rw [e] at hx; cases hx
      | some z => rw [e] at hx; exact ⟨z, rfl, (Option.some.inj hx).symm⟩
    have hSx : S x := hS x (List.mem_of_getElem? hx2)
    rw [settleM_take hx2]
    have hdep : ∀ j, Dep1 D (settleM rep h (fr.take i) R j) := settleM_dep _ _ fun j => .inl (hD j)
    generalize settleM rep h (fr.take i) R = R1 at hr1 hdep
    walk_at "wp"
    refine ⟨a, x, n, f1, S, rep, rfl, hd1, hn, hu1, hSx, fun f2 H2 hd2 hu2 s2 e2 => ?_⟩
    have hr2 := hr1.st s2 (DF.ns1 hd1) (by simp [Ne.symm hab])
    have s12 : U.St [a, b] H H2 := s1.trans (s2.mono (by simp))
    obtain ⟨sx, rx⟩ := hu2.rep_in x hSx
    walk_at "wp"
    refine hr2.get sx fun l xs hl hxs hll => ?_
    refine ⟨Nat.zero_le _, fun q hq => ?_⟩
    have hlq : (upd H2 q (.lst [])) l = some (.lst xs) := by rw [upd_ne (ne_of_none hl hq)]; exact hl
    have sq : U.St [] H2 (upd H2 q (.lst [])) := U.St.new hq
    have hxs3 := St.dpRs sq noSeq_nil _ _ hxs
    have hr3 := hr2.st sq noSeq_nil (by simp)
    have hd3 := hd2.st sq (by simp)
    have s13 : U.St [a, b] H (upd H2 q (.lst [])) := s12.then_new hq
    refine eq_nilL hlq upd_same hxs3 ?_
    by_cases e : R1 (rep x) = []
    · rw [decide_eq_true e]
      refine ⟨true, rfl, iteT ?_⟩
      refine ⟨Nat.zero_le _, fun p1 hp1 => ⟨sz1 (by simp), fun p2 hp2 => ⟨sz1 (by simp), fun p3 hp3 => ?_⟩⟩⟩
      have t1 := U.St.new (M := []) (o := .tup []) hp1
      have t2 := U.St.new (M := []) (o := .tup [.int h, .ref p1]) hp2
      have t3 := U.St.new (M := []) (o := .lst [.ref p2]) hp3
      have hr6 := ((hr3.st t1 noSeq_nil (by simp)).st t2 noSeq_nil (by simp)).st t3 noSeq_nil (by simp)
      have hd6 := ((hd3.st t1 (by simp)).st t2 (by simp)).st t3 (by simp)
      have z1 : (upd (upd (upd (upd H2 q (.lst [])) p1 (.tup [])) p2 (.tup [.int h, .ref p1])) p3 (.lst [.ref p2])) p1 = some (.tup []) := t3.at (t2.at upd_same (by simp)) (by simp)
      have z2 : (upd (upd (upd (upd H2 q (.lst [])) p1 (.tup [])) p2 (.tup [.int h, .ref p1])) p3 (.lst [.ref p2])) p2 = some (.tup [.int h, .ref p1]) := t3.at upd_same (by simp)
      refine hr6.set sx hm upd_same (.cons (dpR_leaf z2 z1) .nil) (by simp) fun H7 s7 hr7 e7 => ?_
      refine ⟨some (.int x), some (.int (rep x)), f2, rfl, hd6.st (s7 [b] (by simp)) (by simp [hab]), hu2, ?_, s13.trans ((t1.mono (by simp)).trans ((t2.mono (by simp)).trans ((t3.mono (by simp)).trans (s7 _ (by simp)))))⟩
      unfold settle1
      rw [if_pos e]
      exact hr7
    · rw [decide_eq_false e]
      refine ⟨false, rfl, iteF ?_⟩
      refine hr3.get sx fun l' xs' hl' hxs' hll' => ?_
      refine ⟨l', rfl, .inl ⟨xs', .inl (.of hl'), ?_⟩⟩
      simp only [U.w_I0, V.bl.injEq, exists_eq_left']
      by_cases e2 : 1 < (R1 (rep x)).length
      · have hlt : (1 : Int) < ((xs'.length : Nat) : Int) := by rw [hxs'.len]; omega
        rw [decide_eq_true hlt]
        refine iteT ?_
        refine hr3.get sx fun l2 xs2 hl2 hxs2 hll2 => ?_
        have hdd : deps (R1 (rep x)) ≤ D := by
          rcases hdep (rep x) with z | ⟨z, _⟩
          · exact z
          · omega
        refine sortedRt (.of hl2) hxs2 (by omega) fun p1 ys hys hp1 => ?_
        refine ⟨p1, ys, rfl, .inr (.inr ⟨.of upd_same, fun p2 o ho hp2 => ⟨sz1 (by simp), fun p3 hp3 => ⟨sz1 (by simp), fun p4 hp4 => ?_⟩⟩⟩)⟩
        have t1 := U.St.new (M := []) (o := .lst ys) hp1
        have t2 := U.St.new (M := []) (o := .frz o (.tup ys)) hp2
        have t3 := U.St.new (M := []) (o := .tup [.int h, .ref p2]) hp3
        have t4 := U.St.new (M := []) (o := .lst [.ref p3]) hp4
        have hr6 := (((hr3.st t1 noSeq_nil (by simp)).st t2 noSeq_nil (by simp)).st t3 noSeq_nil (by simp)).st t4 noSeq_nil (by simp)
        have hd6 := (((hd3.st t1 (by simp)).st t2 (by simp)).st t3 (by simp)).st t4 (by simp)
        have hys6 := St.dpRs t4 noSeq_nil _ _ (St.dpRs t3 noSeq_nil _ _ (St.dpRs t2 noSeq_nil _ _ (St.dpRs t1 noSeq_nil _ _ hys)))
        refine hr6.set sx hm upd_same (.cons (.node (.of (t4.at upd_same (by simp))) ⟨o, ho, t4.at (t3.at upd_same (by simp)) (by simp)⟩ hys6) .nil) (by simp) fun H7 s7 hr7 e7 => ?_
        refine ⟨some (.int x), some (.int (rep x)), f2, rfl, hd6.st (s7 [b] (by simp)) (by simp [hab]), hu2, ?_, s13.trans ((t1.mono (by simp)).trans ((t2.mono (by simp)).trans ((t3.mono (by simp)).trans ((t4.mono (by simp)).trans (s7 _ (by simp))))))⟩
        unfold settle1
        rw [if_neg e, if_pos e2]
        exact hr7
      · have hlt : ¬ (1 : Int) < ((xs'.length : Nat) : Int) := by rw [hxs'.len]; omega
        rw [decide_eq_false hlt]
        refine iteF ?_
        refine ⟨some (.int x), some (.int (rep x)), f2, rfl, hd3, hu2, ?_, s13⟩
        unfold settle1
        rw [if_neg e, if_neg e2]
        exact hr3
  · rintro σ H1 ⟨o1, o2, f1, rfl, hd1, hu1, hr1, s1⟩
    rw [List.length_map, List.take_of_length_le (Nat.le_refl _)] at hr1
    exact k f1 H1 hd1 hu1 hr1 s1
end K63
set_option Elab.async false
set_option maxRecDepth 100000
set_option maxHeartbeats 8000000
set_option linter.all false
/-! K63W3: root_of_row. -/
namespace K63
open PySem PySem.Spec PyProof.Rows L2 U RT Row RootsTr
local macro_rules | `(tactic| walk_at "wp") => `(tactic| simp only [U.w_seq, U.w_next, U.w_asg, U.w_gname, U.w_gcons, U.w_gnil, U.w_gsub, U.w_ret, U.w_retn, U.w_drop, U.w_if, U.w_brk, U.w_cont, U.w_var, U.w_c, U.w_op, U.w_un, U.w_test, U.w_tb, U.w_and, U.w_or, U.w_not, U.w_andv, U.w_orv, U.w_notv, U.w_ifx, U.w_nil, U.w_cons, U.w_tup, U.w_lst, U.w_par, U.w_par3, U.w_aug, U.w_ip, U.w_cb, U.w_call, U.w_sl, U.w_nopart, U.w_part, U.w_bm, U.w_bm0, U.w_I0, U.w_I, U.w_U, U.w_add, U.w_mul, U.w_eqI, U.w_neI, U.w_intI, U.w_min2, U.w_max2, U.w_ex, U.w_ex2, U.w_ex3,
  List.getElem?_cons_zero, List.getElem?_cons_succ, List.set_cons_zero, List.set_cons_succ, Option.some.injEq, V.int.injEq, V.bl.injEq, V.str.injEq, V.ref.injEq, List.append_nil, List.nil_append, List.cons_append])

theorem UF.add {f : Int → Option V} {S : Int → Prop} {rep : Int → Int} (u : UF f S rep) {x : Int} (hx : ¬ S x) (hr : rep x = x) : UF (setF f x (.int x)) (fun i => S i ∨ i = x) rep := by
  obtain ⟨⟨par, μ, h1, h2, h3⟩, ho⟩ := u
  refine ⟨⟨fun i => if i = x then x else par i, μ, fun i hi => ?_, fun i hi hp => ?_, fun i hi hp => ?_⟩, fun i hi => ?_⟩
  · by_cases e : i = x
    · subst e
      simp only [setF_same, if_true]
      exact ⟨trivial, .inr trivial, trivial⟩
    · have hi : S i := hi.resolve_right e
      simp only [setF_ne e, if_neg e]
      obtain ⟨q1, q2, q3⟩ := h1 i hi
      exact ⟨q1, .inl q2, q3⟩
  · by_cases e : i = x
    · rw [e]; exact hr
    · have hi : S i := hi.resolve_right e
      simp only [if_neg e] at hp
      exact h2 i hi hp
  · by_cases e : i = x
    · subst e; simp at hp
    · have hi : S i := hi.resolve_right e
      simp only [if_neg e] at hp ⊢
      exact h3 i hi hp
  · have e : i ≠ x := fun z => hi (.inr z)
    rw [setF_ne e]
    exact ho i fun z => hi (.inl z)
theorem RtD.add {K : PySem.W.Frag} {H : Hp} {b p : Addr} {S : Int → Prop} {R : Int → List Rt} {n : Nat} {x : Int} {QH : Hp → Prop} (r : RtD K H b S R n) (hx : ¬ S x) (hR : R x = []) (hn : n < sizeLine) (hp : H p = some (.lst []))
    (q : ∀ H', (∀ M : List Addr, b ∈ M → U.St M H H') → RtD K H' b (fun i => S i ∨ i = x) R (n + 1) → QH H') : rSetU (.ref b) (.int x) (.ref p) H QH := by
  obtain ⟨kvs, hb⟩ := r.df
  obtain ⟨g, d, o, h⟩ := r
  refine d.set_new (o x hx) hn fun H' s d' eH => q H' s ⟨_, d', fun j hj => ?_, fun j hj => ?_⟩
  · have e : j ≠ x := fun z => hj (.inr z)
    rw [setF_ne e]
    exact o j fun z => hj (.inl z)
  · have ns : NoSeq H [b] := noSeq_cons hb noSeq_nil
    have st := s [b] (by simp)
    by_cases e : j = x
    · subst e
      rw [setF_same, hR]
      have hpb : p ≠ b := by rintro rfl; rw [hp] at hb; cases hb
      exact ⟨p, [], rfl, by rw [eH p hpb]; exact hp, .nil, Nat.zero_le _⟩
    · have hj : S j := hj.resolve_right e
      rw [setF_ne e]
      obtain ⟨l, xs, e1, e2, e3, e4⟩ := h j hj
      have hlb : l ≠ b := by rintro rfl; rw [e2] at hb; cases hb
      exact ⟨l, xs, e1, by rw [eH l hlb]; exact e2, St.dpRs st ns _ _ e3, e4⟩
/-- the two dicts at a turn -/
def RS (K : PySem.W.Frag) (H : Hp) (a b : Addr) (S : Int → Prop) (st : MS) (n m : Nat) : Prop := ∃ f : Int → Option V, DF H a f n ∧ UF f S st.1 ∧ RtD K H b S st.2 m
theorem RS.ns {K : PySem.W.Frag} {H : Hp} {a b : Addr} {S : Int → Prop} {st : MS} {n m : Nat} (h : RS K H a b S st n m) : NoSeq H [a, b] := let ⟨_, h1, _, h3⟩ := h; ns2 h1 h3
theorem RS.st {K : PySem.W.Frag} {H H' : Hp} {a b : Addr} {S : Int → Prop} {st : MS} {n m : Nat} {M : List Addr} (h : RS K H a b S st n m) (s : U.St M H H') (hn : NoSeq H M) (ha : a ∉ M) (hb : b ∉ M) : RS K H' a b S st n m :=
  let ⟨f, h1, h2, h3⟩ := h; ⟨f, h1.st s ha, h2, h3.st s hn hb⟩
theorem RS.iff {K : PySem.W.Frag} {H : Hp} {a b : Addr} {S S' : Int → Prop} {st : MS} {n m : Nat} (h : RS K H a b S st n m) (e : ∀ i, S' i ↔ S i) : RS K H a b S' st n m := by
  have : S' = S := funext fun i => propext (e i)
  rw [this]; exact h
theorem int_at {ns : List Int} {i : Nat} {x : V} (hx : (ns.map V.int)[i]? = some x) : ∃ z, ns[i]? = some z ∧ x = V.int z := by
  rw [List.getElem?_map] at hx
  cases e : ns[i]? with
  | none => rw [e] at hx; cases hx
  | some z => rw [e] at hx; exact ⟨z, rfl, (Option.some.inj hx).symm⟩
/-- one neighbour -/
theorem do_nb {K : PySem.W.Frag} {H : Hp} {a b : Addr} {S : Int → Prop} {st : MS} {n m N D : Nat} {hs : List Int} {ht p q : Int} {QH : Hp → Prop} (hab : a ≠ b) (h : RS K H a b S st n m) (ok : Ok N S D st) (hN : N ≤ 50000) (hS : ∀ i, S i ↔ inS hs ht i = true) (hp : S p) (hn : n < sizeLine) (hm : m < sizeLine)
    (k : ∀ H', RS K H' a b S (nb hs ht p st q) n m → U.St [a, b] H H' → QH H') :
    rInU K (.int q) (.ref a) H fun x H1 => ∃ c, x = V.bl c ∧ if c = true then spJoin K [.ref a, .ref b, .int p, .int q] H1 (fun _ H2 => QH H2) E0 else QH H1 := by
  obtain ⟨f, hd, hu, hr⟩ := h
  refine hd.mem ?_
  by_cases hq : S q
  · obtain ⟨par, _, h1, _, _⟩ := hu.ex
    have hsome : (f q).isSome = true := by rw [(h1 q hq).1]; rfl
    refine ⟨true, by rw [hsome], iteT ?_⟩
    have e : nb hs ht p st q = joinM st p q := by unfold Row.nb; rw [if_pos ((hS q).mp hq)]
    have l1 := ok.len (st.1 p)
    have l2 := ok.len (st.1 q)
    refine ⟨a, b, p, q, n, m, f, S, st.1, st.2, rfl, hab, hd, hn, hu, hp, hq, hr, hm, by omega, fun ee f' H' g1 g2 g3 g4 => ?_, fun ee f' H' g1 g2 g3 g4 => ?_⟩
    · refine k H' ?_ (g4.mono (by simp))
      rw [e]; unfold joinM; rw [if_pos ee]
      exact ⟨f', g1, g2, g3⟩
    · refine k H' ?_ g4
      rw [e]; unfold joinM; rw [if_neg ee]
      exact ⟨f', g1, g2, g3⟩
  · have hnone : (f q).isSome = false := by rw [hu.out q hq]; rfl
    refine ⟨false, by rw [hnone], iteF ?_⟩
    have e : nb hs ht p st q = st := by
      unfold Row.nb; rw [if_neg (fun z => hq ((hS q).mpr z))]
    refine k H ?_ (U.St.refl H)
    rw [e]; exact ⟨f, hd, hu, hr⟩
def spRow (K : PySem.W.Frag) : Sp := fun vs H Q _ => ∃ (t : Addr) (hs : List Int), vs = [.ref t] ∧ SqT K H t (hs.map V.int) ∧ 0 < hs.length ∧ hs.length ≤ 500 ∧
  (∀ ds : List Int, ds.Pairwise (· < ·) → (∀ k, k ∈ ds ↔ k ∈ hs) → ds.length ≤ 399) ∧
  ∀ (v : V) (H' : Hp) (least : Int) (ds : List Int), least ∈ hs → (∀ k ∈ hs, least ≤ k) → ds.Pairwise (· < ·) → (∀ k, k ∈ ds ↔ k ∈ hs) → DpR K H' v (rowRoot hs least ds) → U.St [] H H' → Q v H'
end K63
set_option Elab.async false
set_option maxRecDepth 100000
set_option maxHeartbeats 8000000
set_option linter.all false
/-! K63W4: root_of_row, the body. -/
namespace K63
open PySem PySem.Spec PyProof.Rows L2 U RT Row RootsTr
local macro_rules | `(tactic| walk_at "wp") => `(tactic| try simp only [L2.wipe, U.w_lc, U.w_for, U.w_seq, U.w_next, U.w_asg, U.w_gname, U.w_gcons, U.w_gnil, U.w_gsub, U.w_ret, U.w_retn, U.w_drop, U.w_if, U.w_brk, U.w_cont, U.w_var, U.w_c, U.w_op, U.w_un, U.w_test, U.w_tb, U.w_and, U.w_or, U.w_not, U.w_andv, U.w_orv, U.w_notv, U.w_ifx, U.w_nil, U.w_cons, U.w_tup, U.w_lst, U.w_par, U.w_par3, U.w_aug, U.w_ip, U.w_cb, U.w_call, U.w_sl, U.w_nopart, U.w_part, U.w_bm, U.w_bm0, U.w_I0, U.w_I, U.w_U, U.w_add, U.w_mul, U.w_eqI, U.w_neI, U.w_intI, U.w_min2, U.w_max2, U.w_ex, U.w_ex2, U.w_ex3,
  List.getElem?_cons_zero, List.getElem?_cons_succ, List.set_cons_zero, List.set_cons_succ, Option.some.injEq, V.int.injEq, V.bl.injEq, V.str.injEq, V.ref.injEq, List.append_nil, List.nil_append, List.cons_append])

theorem rd_root_of_row {K : PySem.W.Frag} {w : World} {vs : List V} {H : Hp} {Q : VK} {E : XK} (h : spRow K vs H Q E) : tr_root_of_row K w (spJoin K) spLeader (spSettle K) { nx := fun _ H' => Q .non H', rt := Q } (start nm_root_of_row vs) H := by
  obtain ⟨t, hs, rfl, hT, hpos, hlen, hdl, k⟩ := h
  show tr_root_of_row K w (spJoin K) spLeader (spSettle K) _ [some (.ref t), none, none, none, none, none, none, none, none] H
  unfold tr_root_of_row
  walk_at "wp"
  refine .inr (.inr ⟨t, hs, rfl, hT, hpos, fun least hmem hmin => ?_⟩)
  refine fun a ha b hb => ?_
  walk_at "wp"
  have hab : a ≠ b := fun z => by rw [← z, upd_same] at hb; cases hb
  have s0 : U.St [] H (upd (upd H a (.dK [])) b (.dK [])) := (U.St.new ha).then_new hb
  refine .inl ?_
  show tCB _ _ _ _ _
  walk_at "wp"
  refine ⟨t, hs, rfl, s0.sqT noSeq_nil hT, by omega, fun p c hc hp => ?_⟩
  refine .inr (.inr ⟨p, _, c, rfl, upd_same, Nat.le_trans hc (Nat.le_trans hlen (by decide)), fun ds q hds hdm hdlen hq => ?_⟩)
  have hdm' : ∀ k, k ∈ ds ↔ k ∈ hs := fun k => by rw [hdm]; simp
  refine ⟨q, rfl, ⟨_, .of upd_same⟩, ?_⟩
  have sp := U.St.new (M := []) (o := SetO w p (fun j => decide (j ∈ hs)) c) hp
  have sq := U.St.new (M := []) (o := .lst (ds.map V.int)) hq
  have sHs : U.St [] H (upd (upd (upd (upd H a (.dK [])) b (.dK [])) p (SetO w p (fun j => decide (j ∈ hs)) c)) q (.lst (ds.map V.int))) := s0.trans (sp.trans sq)
  have ea : (upd (upd (upd (upd H a (.dK [])) b (.dK [])) p (SetO w p (fun j => decide (j ∈ hs)) c)) q (.lst (ds.map V.int))) a = some (.dK []) := sq.at (sp.at (by rw [upd_ne hab]; exact upd_same) (by simp)) (by simp)
  have eb : (upd (upd (upd (upd H a (.dK [])) b (.dK [])) p (SetO w p (fun j => decide (j ∈ hs)) c)) q (.lst (ds.map V.int))) b = some (.dK []) := sq.at (sp.at upd_same (by simp)) (by simp)
  have eq0 : (upd (upd (upd (upd H a (.dK [])) b (.dK [])) p (SetO w p (fun j => decide (j ∈ hs)) c)) q (.lst (ds.map V.int))) q = some (.lst (ds.map V.int)) := upd_same
  generalize (upd (upd (upd (upd H a (.dK [])) b (.dK [])) p (SetO w p (fun j => decide (j ∈ hs)) c)) q (.lst (ds.map V.int))) = Hs at sHs ea eb eq0
  have hnb : upd H a (.dK []) b = none := hb
  have hHb : H b = none := by rw [upd_ne (Ne.symm hab)] at hnb; exact hnb
  have hdl' := hdl ds hds hdm'
  have nsab : NoSeq Hs [a, b] := noSeq_cons ea (noSeq_cons eb noSeq_nil)
  have hnotq : q ∉ [a, b] := fun z => by
    have := (nsab q z).1 _ (.inl eq0); exact this
  have hTs : SqT K Hs t (hs.map V.int) := sHs.sqT noSeq_nil hT
  refine forgo_list (fun j σ H1 => ∃ (o4 o5 o6 o7 o8 : Option V) (n m : Nat), σ = [some (.ref t), some (.int least), some (.ref a), some (.ref b), o4, o5, o6, o7, o8] ∧ RS K H1 a b (Sj hs ds j) (rowSt hs least (ds.take j)) n m ∧ n ≤ 500 * j ∧ m ≤ 500 * j ∧ U.St [a, b] Hs H1)
    ?_ (fun i σ H1 _ ⟨_, _, _, _, _, _, _, _, _, _, _, s⟩ => .of (s.at eq0 hnotq)) ?_ ?_
  · refine ⟨none, none, none, none, none, 0, 0, rfl, ⟨fun _ => none, ⟨[], ea, fun _ => rfl, rfl⟩, ⟨⟨fun i => i, fun _ => 0, fun i hi => ?_, fun i hi => ?_, fun i hi => ?_⟩, fun _ _ => rfl⟩, ⟨fun _ => none, ⟨[], eb, fun _ => rfl, rfl⟩, fun _ _ => rfl, fun i hi => ?_⟩⟩, Nat.zero_le _, Nat.zero_le _, U.St.refl Hs⟩
    all_goals exact absurd hi.2.2 (by simp)
  · rintro j x σ H1 hj hx ⟨o4, o5, o6, o7, o8, n, m, rfl, hRS, hn, hm, s1⟩
    obtain ⟨ht, hx2, rfl⟩ := int_at hx
    rw [List.length_map] at hj
    rw [rowSt_take hx2]
    obtain ⟨ok0, ne0⟩ := row_ok (least := least) hds hdm' j (by omega)
    generalize rowSt hs least (ds.take j) = st at hRS ok0 ne0
    have hS : ∀ i, Sj hs ds (j + 1) i ↔ inS hs ht i = true := sj_next hx2 hds hdm'
    have ok1 : Ok hs.length (Sj hs ds (j + 1)) j st := ok0.more (fun i hi => (sj_split hx2 hds hdm' i).mpr (.inl hi)) fun i hi => ⟨hi.1, hi.2.1⟩
    have hfr : ∀ p ∈ idx hs ht, Sj hs ds (j + 1) p := fun p hp' => (idx_sub hx2 hds hdm' p hp').1
    have hT1 : SqT K H1 t (hs.map V.int) := s1.sqT nsab hTs
    walk_at "wp"
    -- fresh = [place for place, entry in enumerate(heights) if entry == height]
    refine .inr ?_
    show tCons _ _ _ _ _
    walk_at "wp"
    refine ⟨t, _, rfl, hT1, ?_⟩
    refine lcgo walk_enumT (fun d i H2 => H2 d = some (.lst ((((List.range i).filter fun p => decide (hs.getD p 0 = ht)).map fun (p : Nat) => (p : Int)).map V.int)) ∧ U.St [] H1 H2) (fun d hd => ⟨upd_same, U.St.new hd⟩) (fun d i H2 hd _ ⟨_, s2⟩ => s2.sqT noSeq_nil hT1) ?_ ?_
    · rintro d i x H2 H3 hd hi ⟨h2, s2⟩ ⟨T, x1, x2, rfl, hTn, rfl, e1, e2⟩
      obtain ⟨z, hz, rfl⟩ := int_at e2
      cases e1
      have hTd : T ≠ d := fun z => by rw [z, h2] at hTn; cases hTn
      rw [U.w_gtup]
      refine ⟨T, _, rfl, .of upd_same, rfl, ?_⟩
      walk_at "wp"
      refine ⟨trivial, ?_⟩
      have hzi : hs.getD i 0 = z := by rw [List.getD_eq_getElem?_getD, hz]; rfl
      have h3 : (upd H2 T (.tup [.int (i : Nat), .int z])) d = some (.lst ((((List.range i).filter fun p => decide (hs.getD p 0 = ht)).map fun (p : Nat) => (p : Int)).map V.int)) := by rw [upd_ne (Ne.symm hTd)]; exact h2
      have s3 : U.St [] H1 (upd H2 T (.tup [.int (i : Nat), .int z])) := s2.then_new hTn
      rw [List.range_succ, List.filter_append, List.map_append, List.map_append]
      by_cases e : z = ht
      · rw [decide_eq_true e]
        refine iteT ⟨_, h3, ?_, ?_⟩
        · rw [List.length_map, List.length_map]
          refine Nat.lt_of_le_of_lt (List.length_filter_le _ _) ?_
          rw [List.length_range]
          rw [List.length_map] at hi
          exact Nat.lt_of_lt_of_le hi (Nat.le_trans hlen (by decide))
        · refine ⟨?_, s3.then_own hd⟩
          rw [upd_same]
          have : ([i].filter fun p => decide (hs.getD p 0 = ht)) = [i] := by simp only [List.filter_cons, hzi, decide_eq_true e, if_true, List.filter_nil]
          rw [this]; rfl
      · rw [decide_eq_false e]
        refine iteF ⟨?_, s3⟩
        have : ([i].filter fun p => decide (hs.getD p 0 = ht)) = [] := by simp only [List.filter_cons, hzi, decide_eq_false e, List.filter_nil]; rfl
        rw [this]
        simp only [List.map_nil, List.append_nil]
        exact h3
    · rintro d H2 hd ⟨h2, s2⟩
      rw [List.length_map] at h2
      have hfr2 : (((List.range hs.length).filter fun p => decide (hs.getD p 0 = ht)).map fun (p : Nat) => (p : Int)) = idx hs ht := rfl
      rw [hfr2] at h2
      walk_at "wp"
      have hRS2 := hRS.st s2 noSeq_nil (by simp) (by simp)
      have ns2' : NoSeq H2 [a, b] := hRS2.ns
      have hnotd : d ∉ [a, b] := fun z => by
        have := (ns2' d z).1 _ (.inl h2); exact this
      have hfl : (idx hs ht).length ≤ 500 := by
        unfold idx
        rw [List.length_map]
        refine Nat.le_trans (List.length_filter_le _ _) ?_
        rw [List.length_range]; exact hlen
      have s12 : U.St [a, b] Hs H2 := s1.trans (s2.mono (by simp))
      have hjs : j ≤ 399 := by omega
      -- for place in fresh: leaders[place], roots[place] = place, []
      refine iu_L rfl (.of h2) ?_
      refine forgo_list (fun i σ H3 => ∃ (o6 : Option V), σ = [some (.ref t), some (.int least), some (.ref a), some (.ref b), some (.int ht), some (.ref d), o6, o7, o8] ∧ RS K H3 a b (fun x => Sj hs ds j x ∨ x ∈ (idx hs ht).take i) st (n + i) (m + i) ∧ U.St [a, b] H2 H3)
        ⟨o6, rfl, hRS2.iff fun x => by simp, U.St.refl H2⟩ (fun i σ H3 _ ⟨_, _, _, s⟩ => .of (s.at h2 hnotd)) ?_ ?_
      · rintro i x σ H3 hi hx ⟨o6, rfl, hRS3, s3⟩
        obtain ⟨x, hx3, rfl⟩ := int_at hx
        rw [List.length_map] at hi
        have hmx : x ∈ idx hs ht := List.mem_of_getElem? hx3
        have hnx : ¬ (Sj hs ds j x ∨ x ∈ (idx hs ht).take i) := by
          rintro (z | z)
          · exact (idx_sub hx2 hds hdm' x hmx).2 z
          · obtain ⟨k', hk', e⟩ := List.mem_take_iff_getElem.mp z
            have nd : (idx hs ht).Nodup := idx_nodup
            have e2 : (idx hs ht)[i] = x := (List.getElem?_eq_some_iff.mp hx3).2
            have := (List.getElem_inj nd).mp (e.trans e2.symm)
            omega
        have hout := ok0.out x fun z => hnx (.inl z)
        obtain ⟨f, q1, q2, q3⟩ := hRS3
        walk_at "wp"
        refine ⟨Nat.zero_le _, fun p1 hp1 => ⟨sz1 (by simp), fun p2 hp2 => ?_⟩⟩
        have t1 := U.St.new (M := []) (o := .lst []) hp1
        have t2 := U.St.new (M := []) (o := .tup [.int x, .ref p1]) hp2
        rw [U.w_gtup]
        refine ⟨p2, _, rfl, .of upd_same, rfl, ?_⟩
        walk_at "wp"
        have q1' := (q1.st t1 (by simp)).st t2 (by simp)
        have q3' := (q3.st t1 noSeq_nil (by simp)).st t2 noSeq_nil (by simp)
        have e1 : (upd (upd H3 p1 (.lst [])) p2 (.tup [.int x, .ref p1])) p1 = some (.lst []) := t2.at upd_same (by simp)
        have hfx : f x = none := q2.out x hnx
        have hsz1 : n + i < sizeLine := Nat.lt_of_lt_of_le (show n + i < 500000 by omega) (by decide)
        have hsz2 : m + i < sizeLine := Nat.lt_of_lt_of_le (show m + i < 500000 by omega) (by decide)
        refine q1'.set_new hfx hsz1 fun H4 s4 hd4 e4 => ?_
        have hpa : p1 ≠ a := by rintro rfl; obtain ⟨kvs, z, _⟩ := q1'; rw [e1] at z; cases z
        have q3'' := q3'.st (s4 [a] (by simp)) (DF.ns1 q1') (by simp [Ne.symm hab])
        refine q3''.add hnx hout.2 hsz2 (by rw [e4 p1 hpa]; exact e1) fun H5 s5 hr5 => ?_
        refine ⟨some (.int x), rfl, ?_, s3.trans ((t1.mono (by simp)).trans ((t2.mono (by simp)).trans ((s4 _ (by simp)).trans (s5 _ (by simp)))))⟩
        refine RS.iff ⟨_, hd4.st (s5 [b] (by simp)) (by simp [hab]), UF.add q2 hnx hout.1, hr5⟩ fun y => ?_
        rw [List.take_add_one, hx3]
        simp only [List.mem_append, Option.toList_some, List.mem_singleton]
        exact or_assoc.symm
      · rintro σ H3 ⟨o6, rfl, hRS3, s3⟩
        rw [List.length_map, List.take_of_length_le (Nat.le_refl _)] at hRS3
        have hRS4 : RS K H3 a b (Sj hs ds (j + 1)) st (n + (idx hs ht).length) (m + (idx hs ht).length) := hRS3.iff (sj_split hx2 hds hdm')
        have hsz1 : n + (idx hs ht).length < sizeLine := Nat.lt_of_lt_of_le (show n + (idx hs ht).length < 500000 by omega) (by decide)
        have hsz2 : m + (idx hs ht).length < sizeLine := Nat.lt_of_lt_of_le (show m + (idx hs ht).length < 500000 by omega) (by decide)
        walk_at "wp"
        -- for place in fresh: for other in (place - 1, place + 1): join
        refine iu_L rfl (.of (s3.at h2 hnotd)) ?_
        refine forgo_list (fun i σ H4 => ∃ (o6 o8 : Option V), σ = [some (.ref t), some (.int least), some (.ref a), some (.ref b), some (.int ht), some (.ref d), o6, o7, o8] ∧ RS K H4 a b (Sj hs ds (j + 1)) (((idx hs ht).take i).foldl (stepJ hs ht) st) (n + (idx hs ht).length) (m + (idx hs ht).length) ∧ U.St [a, b] H2 H4)
          ⟨o6, o8, rfl, hRS4, s3⟩ (fun i σ H3 _ ⟨_, _, _, _, s⟩ => .of (s.at h2 hnotd)) ?_ ?_
        · rintro i x σ H4 hi hx ⟨o6, o8, rfl, hRS5, s4⟩
          obtain ⟨x, hx3, rfl⟩ := int_at hx
          have hmx : x ∈ idx hs ht := List.mem_of_getElem? hx3
          have okt := Ok.steps hS ((idx hs ht).take i) ok1 fun p hp' => hfr p (List.mem_of_mem_take hp')
          rw [List.take_add_one, hx3, List.foldl_append]
          show gName 6 _ _ _ _
          generalize ((idx hs ht).take i).foldl (stepJ hs ht) st = st1 at hRS5 okt
          walk_at "wp"
          refine .inr ?_
          show tTup _ _ _ _
          walk_at "wp"
          refine ⟨sz1 (by simp), fun p1 hp1 => ⟨⟨_, .of upd_same⟩, ?_⟩⟩
          have t1 := U.St.new (M := []) (o := .tup [.int (x - 1), .int (x + 1)]) hp1
          have hnotp : p1 ∉ [a, b] := fun z => by
            have := ((hRS5.st t1 noSeq_nil (by simp) (by simp)).ns p1 z).2 _ (.inl upd_same); exact this
          refine forgo_tup (xs := [.int (x - 1), .int (x + 1)]) (fun i σ H5 => ∃ (o8 : Option V), σ = [some (.ref t), some (.int least), some (.ref a), some (.ref b), some (.int ht), some (.ref d), some (.int x), o7, o8] ∧
              RS K H5 a b (Sj hs ds (j + 1)) (if i = 0 then st1 else if i = 1 then nb hs ht x st1 (x - 1) else stepJ hs ht st1 x) (n + (idx hs ht).length) (m + (idx hs ht).length) ∧ U.St [a, b] (upd H4 p1 (.tup [.int (x - 1), .int (x + 1)])) H5)
            ⟨o8, rfl, hRS5.st t1 noSeq_nil (by simp) (by simp), U.St.refl _⟩ (fun i σ H5 _ ⟨_, _, _, s⟩ => .of (s.at upd_same hnotp)) ?_ ?_
          · rintro i y σ H5 hi2 hy ⟨o8, rfl, hRS6, s5⟩
            match i, hi2 with
            | 0, _ =>
              obtain rfl : y = V.int (x - 1) := (Option.some.inj hy).symm
              walk_at "wp"
              refine do_nb hab hRS6 okt (by omega) hS (hfr x hmx) hsz1 hsz2 fun H6 hRS7 s6 => ?_
              exact ⟨_, rfl, hRS7, s5.trans s6⟩
            | 1, _ =>
              obtain rfl : y = V.int (x + 1) := (Option.some.inj hy).symm
              walk_at "wp"
              refine do_nb hab hRS6 (okt.nb hS (hfr x hmx)) (by omega) hS (hfr x hmx) hsz1 hsz2 fun H6 hRS7 s6 => ?_
              exact ⟨_, rfl, hRS7, s5.trans s6⟩
          · rintro σ H5 ⟨o8, rfl, hRS6, s5⟩
            exact ⟨_, _, rfl, hRS6, s4.trans ((t1.mono (by simp)).trans s5)⟩
        · rintro σ H4 ⟨o6, o8, rfl, hRS5, s4⟩
          rw [List.length_map, List.take_of_length_le (Nat.le_refl _)] at hRS5
          have okt := Ok.steps hS (idx hs ht) ok1 hfr
          have elev : level hs least st ht = (((idx hs ht).foldl (stepJ hs ht) st).1, settleM ((idx hs ht).foldl (stepJ hs ht) st).1 (ht - least) (idx hs ht) ((idx hs ht).foldl (stepJ hs ht) st).2) := rfl
          rw [elev]
          generalize (idx hs ht).foldl (stepJ hs ht) st = st1 at hRS5 okt
          obtain ⟨f, q1, q2, q3⟩ := hRS5
          walk_at "wp"
          refine ⟨a, b, d, ht - least, _, _, j, f, Sj hs ds (j + 1), st1.1, st1.2, idx hs ht, rfl, hab, q1, hsz1, q2, q3, hsz2, .of (s4.at h2 hnotd), hfr, okt.dep, by omega, fun f' H5 g1 g2 g3 g4 => ?_⟩
          exact ⟨_, _, _, _, _, _, _, rfl, ⟨f', g1, g2, g3⟩, by omega, by omega, s12.trans (s4.trans g4)⟩
  · rintro σ H1 ⟨o4, o5, o6, o7, o8, n, m, rfl, hRS, hn, hm, s1⟩
    rw [List.length_map, List.take_of_length_le (Nat.le_refl _)] at hRS
    rw [List.length_map] at hn hm
    obtain ⟨okN, neN⟩ := row_ok (least := least) hds hdm' ds.length (Nat.le_refl _)
    rw [List.take_of_length_le (Nat.le_refl _)] at okN neN
    have hS0 : Sj hs ds ds.length 0 := ⟨Int.le_refl _, by omega, by
      rw [List.take_of_length_le (Nat.le_refl _), hdm', List.getD_eq_getElem?_getD]
      have : (0 : Int).toNat = 0 := rfl
      rw [this, List.getElem?_eq_getElem hpos]
      exact List.getElem_mem hpos⟩
    have ne0 := neN 0 hS0
    have hroot : rowRoot hs least ds = ((rowSt hs least ds).2 ((rowSt hs least ds).1 0)).headD (.mk 0 []) := rfl
    obtain ⟨f, q1, q2, q3⟩ := hRS
    have hsz : n < sizeLine := Nat.lt_of_lt_of_le (show n < 500000 by omega) (by decide)
    walk_at "wp"
    refine ⟨a, 0, n, f, _, _, rfl, q1, hsz, q2, hS0, fun f' H2 g1 g2 g3 g4 => ?_⟩
    have q3' := q3.st g3 (DF.ns1 q1) (by simp [Ne.symm hab])
    refine q3'.get (okN.rin 0 hS0) fun l xs hl hxs _ => ?_
    cases e : (rowSt hs least ds).2 ((rowSt hs least ds).1 0) with
    | nil => exact absurd e ne0
    | cons r rs =>
      rw [e] at hxs hroot
      obtain ⟨v, hv1, hv2⟩ := hxs.get (i := 0) (r := r) rfl
      refine ixL (.of hl) (atI_nat (j := 0) hv1) ?_
      have hrt : rowRoot hs least ds = r := hroot
      refine k v H2 least ds hmem hmin hds hdm' (by rw [hrt]; exact hv2) ?_
      intro b' o' h1 _
      have n1 : b' ≠ a := ne_of_none h1 ha
      have n2 : b' ≠ b := ne_of_none h1 hHb
      exact (s1.trans (g3.mono (by simp))) b' o' (sHs b' o' h1 (by simp)) (by simp [n1, n2])
end K63
set_option Elab.async false
set_option maxRecDepth 100000
set_option maxHeartbeats 4000000
set_option linter.all false
/-! RankM: what is left of a root's rank, in plain Lean. -/
namespace Rank
open PySem RT
mutual
def E : Rt → Int
  | .mk h rs => Es h rs
def Es (h : Int) : List Rt → Int
  | [] => 0
  | r :: rs => E r + (h - r.h) + Es h rs
end
def left (r : Rt) : Int := E r - r.h
theorem E_eq (r : Rt) : E r = Es r.h r.rs := by cases r; rw [E]; rfl
theorem Es_app (h : Int) : ∀ a b : List Rt, Es h (a ++ b) = Es h a + Es h b
  | [], b => by simp [Es]
  | r :: a, b => by simp only [List.cons_append, Es, Es_app h a b]; omega
theorem Es_perm {h : Int} {a b : List Rt} (p : a.Perm b) : Es h a = Es h b := by
  induction p with
  | nil => rfl
  | cons x _ ih => simp only [Es, ih]
  | swap x y l => simp only [Es]; omega
  | trans _ _ h1 h2 => exact h1.trans h2
theorem Es_up (h k : Int) : ∀ a : List Rt, Es k a = Es h a + (k - h) * a.length
  | [] => by simp [Es]
  | r :: a => by
    simp only [Es, Es_up h k a, List.length_cons]
    have : (k - h) * ((a.length + 1 : Nat) : Int) = (k - h) * a.length + (k - h) := by
      rw [Int.natCast_add, Int.mul_add]; simp
    omega
/-! parts at a height -/
mutual
def parts (x : Int) : Rt → Int
  | .mk h rs => if h ≤ x then 1 else partss x rs
def partss (x : Int) : List Rt → Int
  | [] => 0
  | r :: rs => parts x r + partss x rs
end
theorem partss_sum (x : Int) : ∀ rs : List Rt, partss x rs = (rs.map (parts x)).sum
  | [] => by simp [partss]
  | r :: rs => by simp [partss, partss_sum x rs]
/-! heights at least 0, what is within is not higher -/
mutual
def Good : Rt → Prop
  | .mk h rs => 0 ≤ h ∧ Goods h rs
def Goods (h : Int) : List Rt → Prop
  | [] => True
  | r :: rs => (Good r ∧ r.h ≤ h) ∧ Goods h rs
end
theorem goods_iff {h : Int} : ∀ {rs : List Rt}, Goods h rs ↔ ∀ r ∈ rs, Good r ∧ r.h ≤ h
  | [] => by simp [Goods]
  | r :: rs => by simp [Goods, goods_iff (rs := rs)]
theorem good_h : ∀ {r : Rt}, Good r → 0 ≤ r.h
  | .mk h rs, g => by rw [Good] at g; exact g.1
/-- the sum of the numbers of parts below T -/
def sumP (f : Int → Int) : Nat → Int
  | 0 => 0
  | n + 1 => sumP f n + f n
theorem sumP_add (f g : Int → Int) : ∀ n, sumP (fun x => f x + g x) n = sumP f n + sumP g n
  | 0 => by simp [sumP]
  | n + 1 => by simp only [sumP, sumP_add f g n]; omega
theorem sumP_congr {f g : Int → Int} : ∀ {n : Nat}, (∀ i : Nat, i < n → f i = g i) → sumP f n = sumP g n
  | 0, _ => rfl
  | n + 1, h => by
    simp only [sumP]
    rw [sumP_congr (n := n) fun i hi => h i (by omega), h n (by omega)]
theorem sumP_zero : ∀ n, sumP (fun _ => 0) n = 0
  | 0 => rfl
  | n + 1 => by simp only [sumP, sumP_zero n]; rfl
theorem sumP_one : ∀ n, sumP (fun _ => 1) n = n
  | 0 => rfl
  | n + 1 => by simp only [sumP, sumP_one n]; omega
theorem sumP_split (f : Int → Int) (a : Nat) : ∀ b : Nat, sumP f (a + b) = sumP f a + sumP (fun x => f (a + x)) b
  | 0 => by simp [sumP]
  | b + 1 => by
    have e : a + (b + 1) = (a + b) + 1 := by omega
    rw [e]
    simp only [sumP, sumP_split f a b]
    have : ((a + b : Nat) : Int) = (a : Int) + (b : Int) := by omega
    rw [this]; omega
mutual
theorem sum_parts : ∀ (r : Rt) (T : Nat), Good r → r.h ≤ T → sumP (fun x => parts x r) T = E r + (T - r.h)
  | .mk h rs, T, g, hT => by
    rw [Good] at g
    obtain ⟨h0, gs⟩ := g
    have hT' : h ≤ T := hT
    obtain ⟨n, hn⟩ : ∃ n : Nat, (n : Int) = h := ⟨h.toNat, by omega⟩
    obtain ⟨m, hm⟩ : ∃ m : Nat, n + m = T := ⟨T - n, by omega⟩
    rw [← hm, sumP_split]
    have e1 : sumP (fun x => parts x (.mk h rs)) n = sumP (fun x => partss x rs) n := sumP_congr fun i hi => by
      rw [parts, if_neg (by omega)]
    have e2 : sumP (fun x => parts ((n : Int) + x) (.mk h rs)) m = m := by
      rw [← sumP_one m]
      exact sumP_congr fun i hi => by rw [parts, if_pos (by omega)]
    rw [e1, e2, sum_partss rs h n gs hn]
    show Es h rs + (m : Int) = E (.mk h rs) + (((n + m : Nat) : Int) - h)
    rw [E]; omega
theorem sum_partss : ∀ (rs : List Rt) (h : Int) (n : Nat), Goods h rs → (n : Int) = h → sumP (fun x => partss x rs) n = Es h rs
  | [], h, n, _, _ => by simp only [partss, Es]; exact sumP_zero n
  | r :: rs, h, n, g, hn => by
    rw [Goods] at g
    have e : sumP (fun x => partss x (r :: rs)) n = sumP (fun x => parts x r) n + sumP (fun x => partss x rs) n := by
      rw [← sumP_add]
      exact sumP_congr fun i hi => by rw [partss]
    rw [e, sum_parts r n g.1.1 (by omega), sum_partss rs h n g.2 hn, Es, hn]
end
/-- what rank_left is, told by the parts -/
theorem left_parts {r : Rt} (g : Good r) : sumP (fun x => parts x r - 1) r.h.toNat = left r := by
  have h0 := good_h g
  have h1 := sum_parts r r.h.toNat g (by omega)
  have h2 := sumP_add (fun x => parts x r) (fun _ => -1) r.h.toNat
  have h3 : ∀ n : Nat, sumP (fun _ => -1) n = -(n : Int) := by
    intro n
    induction n with
    | zero => rfl
    | succ n ih => simp only [sumP, ih]; omega
  have e : sumP (fun x => parts x r - 1) r.h.toNat = sumP (fun x => parts x r + -1) r.h.toNat := sumP_congr fun i _ => by omega
  rw [e, h2, h1, h3]
  unfold left; omega
mutual
def size : Rt → Nat
  | .mk _ rs => sizes rs + 1
def sizes : List Rt → Nat
  | [] => 0
  | r :: rs => size r + sizes rs
end
end Rank
set_option Elab.async false
set_option maxRecDepth 100000
set_option maxHeartbeats 8000000
set_option linter.all false
/-! Draw: _law_begun, _law_draw, _law_of, as they stand in every law. -/
namespace Draw
open PySem PySem.Spec PyProof.Rows L2 U
local macro_rules | `(tactic| walk_at "wp") => `(tactic| try simp only [L2.wipe, U.w_lc, U.w_for, U.w_seq, U.w_next, U.w_asg, U.w_gname, U.w_gcons, U.w_gnil, U.w_gsub, U.w_ret, U.w_retn, U.w_drop, U.w_if, U.w_brk, U.w_cont, U.w_var, U.w_c, U.w_op, U.w_un, U.w_test, U.w_tb, U.w_and, U.w_or, U.w_not, U.w_andv, U.w_orv, U.w_notv, U.w_ifx, U.w_nil, U.w_cons, U.w_tup, U.w_lst, U.w_par, U.w_par3, U.w_aug, U.w_ip, U.w_cb, U.w_call, U.w_sl, U.w_nopart, U.w_part, U.w_bm, U.w_bm0, U.w_I0, U.w_I, U.w_U, U.w_add, U.w_mul, U.w_eqI, U.w_neI, U.w_intI, U.w_min2, U.w_max2, U.w_ex, U.w_ex2, U.w_ex3,
  List.getElem?_cons_zero, List.getElem?_cons_succ, List.set_cons_zero, List.set_cons_succ, Option.some.injEq, V.int.injEq, V.bl.injEq, V.str.injEq, V.ref.injEq, List.append_nil, List.nil_append, List.cons_append])
def tr__law_begun (K : PySem.W.Frag) (w : World)  : TS :=
 (tSeq (tAsg (tOp (rAddU K) (tSl (rSlU K) (tVar 0) (tPart (tVar 1)) tNoPart) (tSl (rSlU K) (tVar 0) tNoPart (tPart (tVar 1)))) (gName 2))
 (tSeq (tAsg (tLc (iU K (tVar 2)) (gName 4) (tTest (tOp (rI0 fun i j => .bl (decide (j ≤ i))) (tVar 4) (tOp (rI CPow fun i j => .int (i ^ j.toNat)) (tC (.int 10)) (tC (.int 18))))) (tVar 4) [4]) (gName 3))
 (tSeq (tAsg (tOp (rAddU K) (tC (.int 71)) (tVar 1)) (gName 5))
 (tSeq (tFor (iU K (tVar 2)) (gName 4)
 (tAsg (tOp (rI (fun _ j => 0 < j) fun i j => .int (i % j)) (tCB rIntI (tCons (tOp (rAddU K) (tOp rMulU (tVar 5) (tC (.int 48271))) (tVar 4)) tNil)) (tC (.int 2147483647))) (gName 5)))
 (tRet (tDisp [((tC (.str "left")), (tIf (tTest (tOp (rNeU K 800) (tVar 3) (tLst tNil))) (tOp (rIxU K) (tVar 3) (tC (.int 0))) (tC (.int 0)))), ((tC (.str "seed")), (tVar 5)), ((tC (.str "cells")), (tOp (rAddU K) (tVar 2) (tLst (tCons (tOp (rAddU K) (tOp rMulU (tC (.int 53)) (tVar 1)) (tC (.int 11))) tNil)))), ((tC (.str "spot")), (tC (.int 0)))]))))))
def tr__law_draw (K : PySem.W.Frag) (w : World)  : TS :=
 (tSeq (tIfS (tTest (tOp (rI0 fun i j => .bl (decide (j < i))) (tOp (rIxU K) (tVar 0) (tC (.str "left"))) (tC (.int 0))))
 (tSeq (tAsg (tOp (rI (fun _ j => 0 < j) fun i j => .int (i % j)) (tCB rIntI (tCons (tOp (rIxU K) (tVar 0) (tC (.str "left"))) tNil)) (tVar 1)) (gName 2))
 (tSeq (tAsg (tOp (rI CDivW fun i j => .int (i / j)) (tOp (rIxU K) (tVar 0) (tC (.str "left"))) (tVar 1)) (gSub (tVar 0) (tC (.str "left")) rSetU))
 (tRet (tVar 2))))
 tNext)
 (tSeq (tAsg (tOp (rIxU K) (tVar 0) (tC (.str "spot"))) (gName 3))
 (tSeq (tAsg (tOp (rAddU K) (tVar 3) (tC (.int 1))) (gSub (tVar 0) (tC (.str "spot")) rSetU))
 (tSeq (tPar 4 5 (tCons (tOp (rIxU K) (tVar 0) (tC (.str "cells"))) (tCons (tOp (rAddU K) (tOp (rIxU K) (tVar 0) (tC (.str "seed"))) (tOp rMulU (tOp rMulU (tC (.int 40503)) (tVar 3)) (tVar 3))) tNil)))
 (tSeq (tAsg (tOp (rIxU K) (tVar 4) (tOp (rI (fun _ j => 0 < j) fun i j => .int (i % j)) (tCB rIntI (tCons (tVar 3) tNil)) (tCB (rLenU K) (tCons (tVar 4) tNil)))) (gName 6))
 (tSeq (tAsg (tOp (rI (fun _ j => 0 < j) fun i j => .int (i % j)) (tCB rIntI (tCons (tOp (rAddU K) (tOp rMulU (tVar 6) (tOp (rAddU K) (tOp rMulU (tC (.int 2)) (tVar 3)) (tC (.int 3)))) (tVar 5)) tNil)) (tC (.int 2147483647))) (gName 7))
 (tSeq (tAsg (tOp (rI (fun _ j => 0 < j) fun i j => .int (i % j)) (tCB rIntI (tCons (tOp (rAddU K) (tOp (rAddU K) (tOp rMulU (tVar 7) (tVar 7)) (tOp rMulU (tC (.int 69621)) (tVar 3))) (tOp (rIxU K) (tVar 0) (tC (.str "seed")))) tNil)) (tC (.int 2147483629))) (gName 7))
 (tRet (tOp (rI (fun _ j => 0 < j) fun i j => .int (i % j)) (tOp (rI CDivW fun i j => .int (i / j)) (tOp (rI (fun _ j => 0 < j) fun i j => .int (i % j)) (tCB rIntI (tCons (tOp (rAddU K) (tOp rMulU (tVar 7) (tC (.int 48271))) (tVar 3)) tNil)) (tC (.int 2147483647))) (tC (.int 11))) (tVar 1))))))))))
def tr__law_of (K : PySem.W.Frag) (w : World) (sp__law_draw : Sp) : TS :=
 (tRet (tOp (rIxU K) (tVar 1) (tCall sp__law_draw [] E0 (tCons (tVar 0) (tCons (tCB (rLenU K) (tCons (tVar 1) tNil)) tNil)))))
/-- the four entries of a state of draws -/
def mkM (left seed : Int) (c : Addr) (spot : Int) : List (Key × V) := [(.inr "left", .int left), (.inr "seed", .int seed), (.inr "cells", .ref c), (.inr "spot", .int spot)]
theorem k1 : ¬ ((Sum.inr ("left" : Str) : Key) = (Sum.inr ("seed" : Str) : Key)) := by decide +kernel
theorem k2 : ¬ ((Sum.inr ("left" : Str) : Key) = (Sum.inr ("cells" : Str) : Key)) := by decide +kernel
theorem k3 : ¬ ((Sum.inr ("left" : Str) : Key) = (Sum.inr ("spot" : Str) : Key)) := by decide +kernel
theorem k4 : ¬ ((Sum.inr ("seed" : Str) : Key) = (Sum.inr ("cells" : Str) : Key)) := by decide +kernel
theorem k5 : ¬ ((Sum.inr ("seed" : Str) : Key) = (Sum.inr ("spot" : Str) : Key)) := by decide +kernel
theorem k6 : ¬ ((Sum.inr ("cells" : Str) : Key) = (Sum.inr ("spot" : Str) : Key)) := by decide +kernel
section
variable (left seed : Int) (c : Addr) (spot : Int)
theorem v_left : valV (mkM left seed c spot) (.inr "left") = some (.int left) := valV_pos rfl
theorem v_seed : valV (mkM left seed c spot) (.inr "seed") = some (.int seed) := (valV_neg k1).trans (valV_pos rfl)
theorem v_cells : valV (mkM left seed c spot) (.inr "cells") = some (.ref c) := (valV_neg k2).trans ((valV_neg k4).trans (valV_pos rfl))
theorem v_spot : valV (mkM left seed c spot) (.inr "spot") = some (.int spot) := (valV_neg k3).trans ((valV_neg k5).trans ((valV_neg k6).trans (valV_pos rfl)))
theorem put_any {kvs : List (Key × V)} {k : Key} {v w : V} (h : valV kvs k = some w) : putK kvs k v = kvs.map (fun kv => if kv.1 = k then (kv.1, v) else kv) := by
  unfold putK
  have : (kvs.any fun kv => decide (kv.1 = k)) = true := by rw [valV_any, h]; rfl
  rw [if_pos this]
theorem p_left (x : Int) : putK (mkM left seed c spot) (.inr "left") (.int x) = mkM x seed c spot := by
  rw [put_any (v_left left seed c spot)]
  simp only [mkM, List.map_cons, List.map_nil, if_true, if_neg (Ne.symm k1), if_neg (Ne.symm k2), if_neg (Ne.symm k3)]
theorem p_spot (x : Int) : putK (mkM left seed c spot) (.inr "spot") (.int x) = mkM left seed c x := by
  rw [put_any (v_spot left seed c spot)]
  simp only [mkM, List.map_cons, List.map_nil, if_true, if_neg k3, if_neg k5, if_neg k6]
end
/-- a state of draws at m, its cells at c, at most n draws behind it -/
def MAt (H : Hp) (m c : Addr) (n : Nat) : Prop := ∃ (left seed spot : Int) (cells : List Int), H m = some (.dK (mkM left seed c spot)) ∧ H c = some (.lst (cells.map V.int)) ∧ 0 < cells.length ∧ cells.length ≤ 1000 ∧ 0 ≤ left ∧ 0 ≤ seed ∧ seed < 2147483647 ∧ 0 ≤ spot ∧ spot ≤ n
theorem MAt.st {H H' : Hp} {m c : Addr} {n : Nat} {M : List Addr} (h : MAt H m c n) (s : U.St M H H') (hm : m ∉ M) (hc : c ∉ M) : MAt H' m c n := by
  obtain ⟨left, seed, spot, cells, h1, h2, r⟩ := h
  exact ⟨left, seed, spot, cells, s.at h1 hm, s.at h2 hc, r⟩
theorem MAt.new {H H' : Hp} {m c : Addr} {n : Nat} (h : MAt H m c n) (s : U.St [] H H') : MAt H' m c n := h.st s (by simp) (by simp)
theorem MAt.mono {H : Hp} {m c : Addr} {n k : Nat} (h : MAt H m c n) (e : n ≤ k) : MAt H m c k := by
  obtain ⟨left, seed, spot, cells, h1, h2, a, b, d, e1, f, g, i⟩ := h
  exact ⟨left, seed, spot, cells, h1, h2, a, b, d, e1, f, g, by omega⟩
theorem MAt.ns {H : Hp} {m c : Addr} {n : Nat} (h : MAt H m c n) : NoSeq H [m] := let ⟨_, _, _, _, h1, _⟩ := h; noSeq_cons h1 noSeq_nil
theorem MAt.nm {H : Hp} {m c : Addr} {n : Nat} (h : MAt H m c n) {l : Addr} (q : H l = none) : l ≠ m ∧ l ≠ c := by
  obtain ⟨_, _, _, _, h1, h2, _⟩ := h
  exact ⟨(by rintro rfl; rw [h1] at q; cases q), (by rintro rfl; rw [h2] at q; cases q)⟩
def spDraw : Sp := fun vs H Q _ => ∃ (m c : Addr) (b : Int) (n : Nat), vs = [.ref m, .int b] ∧ MAt H m c n ∧ n ≤ 1000000000 ∧ 0 < b ∧ b < 2 ^ 200 ∧ ∀ (r : Int) (H' : Hp), 0 ≤ r → r < b → MAt H' m c (n + 1) → U.St [m] H H' → Q (.int r) H'
theorem divW {a b : Int} (h : 0 < b) (h2 : b < 2 ^ 200) : CDivW a b := by
  refine ⟨h, ?_⟩
  have : b.natAbs < 2 ^ 200 := by omega
  exact Nat.lt_of_lt_of_le (PySem.Flt.log2_lt_of (by decide) this) (by decide)
theorem mulL {a b : Int} (h : -(2 ^ 64) < a ∧ a < 2 ^ 64) : CMulU a b := .inl (.inl h)
theorem mulR {a b : Int} (h : -(2 ^ 64) < b ∧ b < 2 ^ 64) : CMulU a b := .inl (.inr h)
theorem rd_draw {K : PySem.W.Frag} {w : World} {vs : List V} {H : Hp} {Q : VK} {E : XK} (h : spDraw vs H Q E) : tr__law_draw K w { nx := fun _ H' => Q .non H', rt := Q } (start ["m", "bound", "found", "spot", "cells", "extra", "cell", "blend"] vs) H := by
  obtain ⟨m, c, b, n, rfl, hM, hn, hb, hb2, k⟩ := h
  obtain ⟨left, seed, spot, cells, h1, h2, c1, c2, l0, s0, s1, p0, p1⟩ := hM
  show tr__law_draw K w _ [some (.ref m), some (.int b), none, none, none, none, none, none] H
  unfold tr__law_draw
  have hcm : c ≠ m := by rintro rfl; rw [h1] at h2; cases h2
  have hsz : (mkM left seed c spot).length < sizeLine := by show 4 < sizeLine; decide
  walk_at "wp"
  refine ixDs h1 (v_left ..) ?_
  walk_at "wp"
  by_cases e : 0 < left
  · rw [decide_eq_true e]
    refine iteT ?_
    refine ixDs h1 (v_left ..) ?_
    walk_at "wp"
    refine ⟨hb, ?_⟩
    refine ixDs h1 (v_left ..) ?_
    walk_at "wp"
    refine ⟨divW hb hb2, ?_⟩
    refine setDs h1 hsz ?_
    walk_at "wp"
    refine k _ _ (Int.emod_nonneg _ (by omega)) (Int.emod_lt_of_pos _ hb) ⟨left / b, seed, spot, cells, by rw [upd_same, p_left], by rw [upd_ne hcm]; exact h2, c1, c2, Int.ediv_nonneg l0 (by omega), s0, s1, p0, by omega⟩ (U.St.set (by simp))
  · rw [decide_eq_false e]
    refine iteF ?_
    refine ixDs h1 (v_spot ..) ?_
    walk_at "wp"
    refine setDs h1 hsz ?_
    rw [p_spot]
    have hc3 : (upd H m (.dK (mkM left seed c (spot + 1)))) c = some (.lst (cells.map V.int)) := by rw [upd_ne hcm]; exact h2
    have hm3 : (upd H m (.dK (mkM left seed c (spot + 1)))) m = some (.dK (mkM left seed c (spot + 1))) := upd_same
    refine ixDs hm3 (v_cells ..) ?_
    refine ixDs hm3 (v_seed ..) ?_
    walk_at "wp"
    refine ⟨mulL (by omega), mulR (by omega), ?_⟩
    refine ⟨c, rfl, .inl ⟨_, .inl (.of hc3), ?_⟩⟩
    walk_at "wp"
    have hlen : (0 : Int) < ((cells.map V.int).length : Nat) := by rw [List.length_map]; omega
    refine ⟨hlen, ?_⟩
    have hj0 := Int.emod_nonneg spot (Int.ne_of_gt hlen)
    have hj1 := Int.emod_lt_of_pos spot hlen
    generalize hjd : spot % ((cells.map V.int).length : Nat) = jj at hj0 hj1
    have hjl : jj.toNat < cells.length := by rw [List.length_map] at hj1; omega
    have hget : (cells.map V.int)[jj.toNat]? = some (.int cells[jj.toNat]) := by rw [List.getElem?_map, List.getElem?_eq_getElem hjl]; rfl
    have hat : atI (cells.map V.int) jj = some (.int cells[jj.toNat]) := by
      have := atI_nat hget
      rwa [show ((jj.toNat : Nat) : Int) = jj by omega] at this
    refine ixL (.of hc3) hat ?_
    generalize cells[jj.toNat] = cell
    walk_at "wp"
    refine ⟨mulL (by omega), mulR (by omega), by omega, ?_⟩
    have q1 := Int.emod_nonneg (cell * (2 * spot + 3) + (seed + 40503 * spot * spot)) (show (2147483647 : Int) ≠ 0 by decide)
    have q2 := Int.emod_lt_of_pos (cell * (2 * spot + 3) + (seed + 40503 * spot * spot)) (show (0 : Int) < 2147483647 by decide)
    generalize (cell * (2 * spot + 3) + (seed + 40503 * spot * spot)) % 2147483647 = blend at q1 q2
    refine ⟨mulL (by omega), mulL (by omega), ?_⟩
    refine ixDs hm3 (v_seed ..) ?_
    walk_at "wp"
    refine ⟨by omega, ?_⟩
    have r1 := Int.emod_nonneg (blend * blend + 69621 * spot + seed) (show (2147483629 : Int) ≠ 0 by decide)
    have r2 := Int.emod_lt_of_pos (blend * blend + 69621 * spot + seed) (show (0 : Int) < 2147483629 by decide)
    generalize (blend * blend + 69621 * spot + seed) % 2147483629 = blend2 at r1 r2
    refine ⟨mulL (by omega), by omega, divW (by decide) (by decide), hb, ?_⟩
    exact k _ _ (Int.emod_nonneg _ (by omega)) (Int.emod_lt_of_pos _ hb) ⟨left, seed, spot + 1, cells, hm3, hc3, c1, c2, l0, s0, s1, by omega, by omega⟩ (U.St.set (by simp))
def spOf (K : PySem.W.Frag) : Sp := fun vs H Q _ => ∃ (m c l : Addr) (n : Nat) (xs : List V), vs = [.ref m, .ref l] ∧ MAt H m c n ∧ n ≤ 1000000000 ∧ (SqL K H l xs ∨ SqT K H l xs) ∧ 0 < xs.length ∧ xs.length ≤ 100000 ∧ ∀ (v : V) (H' : Hp), v ∈ xs → MAt H' m c (n + 1) → U.St [m] H H' → Q v H'
theorem rd_of {K : PySem.W.Frag} {w : World} {vs : List V} {H : Hp} {Q : VK} {E : XK} (h : spOf K vs H Q E) : tr__law_of K w spDraw { nx := fun _ H' => Q .non H', rt := Q } (start ["m", "some"] vs) H := by
  obtain ⟨m, c, l, n, xs, rfl, hM, hn, hl, h0, h1, k⟩ := h
  show tr__law_of K w spDraw _ [some (.ref m), some (.ref l)] H
  unfold tr__law_of
  walk_at "wp"
  refine ⟨l, rfl, .inl ⟨xs, hl, ?_⟩⟩
  refine ⟨m, c, _, n, rfl, hM, hn, by omega, by omega, fun r H' r0 r1 hM' s => ?_⟩
  have hrl : r.toNat < xs.length := by omega
  have hat : atI xs r = some xs[r.toNat] := by
    have := atI_nat (List.getElem?_eq_getElem hrl)
    rwa [show ((r.toNat : Nat) : Int) = r by omega] at this
  have hk := k xs[r.toNat] H' (List.getElem_mem hrl) hM' s
  rcases hl with hl | hl
  · exact ixL (s.sqL hM.ns hl) hat hk
  · exact ixT (s.sqT hM.ns hl) hat hk

/-! ### _law_begun -/
def cutI (ns : List Int) (lo hi : Option Int) : List Int := (ns.drop (HT.sIx ns.length 0 lo)).take (HT.sIx ns.length ns.length hi - HT.sIx ns.length 0 lo)
theorem cut_ints (ns : List Int) (lo hi : Option Int) : cutV (ns.map V.int) lo hi = (cutI ns lo hi).map V.int := by
  unfold cutV cutI
  rw [List.length_map, List.map_take, List.map_drop]
theorem cutI_len (ns : List Int) (lo hi : Option Int) : (cutI ns lo hi).length ≤ ns.length := by
  unfold cutI
  rw [List.length_take, List.length_drop]; omega
theorem merge_mk (left seed : Int) (c : Addr) (spot : Int) : mergeK [] (mkM left seed c spot) = mkM left seed c spot := by
  unfold mergeK
  simp only [mkM, List.foldl_cons, List.foldl_nil]
  rw [putK_new (kvs := []) _ rfl, List.nil_append]
  rw [putK_new _ ((valV_neg k1).trans rfl)]
  simp only [List.cons_append, List.nil_append]
  rw [putK_new _ ((valV_neg k2).trans ((valV_neg k4).trans rfl))]
  simp only [List.cons_append, List.nil_append]
  rw [putK_new _ ((valV_neg k3).trans ((valV_neg k5).trans ((valV_neg k6).trans rfl)))]
  rfl
theorem ints_eqv_nil (ns : List Int) : PyData.eqv (.list (ns.map .int)) (.list []) = decide (ns = []) := by
  cases ns <;> simp [PyData.eqv, PyData.eqvAll]
theorem lay_ints : ∀ ns : List Int, PyData.canLayAll0 (ns.map .int) = true
  | [] => by simp [PyData.canLayAll0]
  | n :: ns => by simp [PyData.canLayAll0, PyData.canLay0, lay_ints ns]
theorem ne_nilI {K : PySem.W.Frag} {H : Hp} {l q : Addr} {ns : List Int} {Q : VK} (h1 : SqL K H l (ns.map V.int)) (h2 : H q = some (.lst [])) (k : Q (.bl (!decide (ns = []))) H) : rNeU K 800 (.ref l) (.ref q) H Q := by
  refine .inr ⟨.list (ns.map .int), .list [], .lst h1 (dp_ints K H ns), .lst (.of h2) .nil, ?_, ?_, ?_, ?_⟩
  · simp [PyData.canLay0, lay_ints]
  · simp [PyData.canLay0, PyData.canLayAll0]
  · simp only [PyData.depth, PyData.depthAll]; omega
  · rw [ints_eqv_nil]; exact k
theorem int_atV {ns : List Int} {i : Nat} {x : V} (hx : (ns.map V.int)[i]? = some x) : ∃ z, ns[i]? = some z ∧ x = V.int z := by
  rw [List.getElem?_map] at hx
  cases e : ns[i]? with
  | none => rw [e] at hx; cases hx
  | some z => rw [e] at hx; exact ⟨z, rfl, (Option.some.inj hx).symm⟩
theorem szl {n : Nat} (h : n ≤ 1000000) : n ≤ sizeLine := Nat.le_trans h (by decide)
theorem sls {n : Nat} (h : n ≤ 1000000) : n < sizeLine := Nat.lt_of_le_of_lt h (by decide)
def spBegun (K : PySem.W.Frag) : Sp := fun vs H Q _ => ∃ (a : Addr) (k : Int) (ns : List Int), vs = [.ref a, .int k] ∧ SqL K H a (ns.map V.int) ∧ ns.length ≤ 63 ∧ 0 ≤ k ∧ k ≤ 1000 ∧ ∀ (m c : Addr) (H' : Hp), H m = none → H c = none → MAt H' m c 0 → U.St [] H H' → Q (.ref m) H'
theorem rd_begun {K : PySem.W.Frag} {w : World} {vs : List V} {H : Hp} {Q : VK} {E : XK} (h : spBegun K vs H Q E) : tr__law_begun K w { nx := fun _ H' => Q .non H', rt := Q } (start ["script", "k", "cells", "great", "cell", "seed"] vs) H := by
  obtain ⟨a, k, ns, rfl, hL, hlen, hk0, hk1, q⟩ := h
  show tr__law_begun K w _ [some (.ref a), some (.int k), none, none, none, none] H
  unfold tr__law_begun
  walk_at "wp"
  refine .inl ⟨a, _, rfl, hL, fun p1 hp1 => ?_⟩
  have s1 : U.St [] H (upd H p1 (.lst (cutV (ns.map V.int) (some k) none))) := U.St.new hp1
  refine .inl ⟨a, _, rfl, s1.sqL noSeq_nil hL, fun p2 hp2 => ?_⟩
  rw [cut_ints] at hp2 s1 ⊢
  rw [cut_ints]
  have l1 := cutI_len ns (some k) none
  have l2 := cutI_len ns none (some k)
  have s2 := U.St.new (M := []) (o := .lst ((cutI ns none (some k)).map V.int)) hp2
  refine .inr (.inl ⟨p1, p2, _, _, rfl, rfl, s2.at upd_same (by simp), upd_same, szl (by simp only [List.length_map]; omega), fun p3 hp3 => ?_⟩)
  rw [← List.map_append]
  have hcl : (cutI ns (some k) none ++ cutI ns none (some k)).length ≤ 126 := by rw [List.length_append]; omega
  generalize cutI ns (some k) none ++ cutI ns none (some k) = cells at hcl
  have s3 : U.St [] H (upd (upd (upd H p1 (.lst ((cutI ns (some k) none).map V.int))) p2 (.lst ((cutI ns none (some k)).map V.int))) p3 (.lst (cells.map V.int))) := s1.trans (s2.trans (U.St.new hp3))
  have h3 : (upd (upd (upd H p1 (.lst ((cutI ns (some k) none).map V.int))) p2 (.lst ((cutI ns none (some k)).map V.int))) p3 (.lst (cells.map V.int))) p3 = some (.lst (cells.map V.int)) := upd_same
  generalize (upd (upd (upd H p1 (.lst ((cutI ns (some k) none).map V.int))) p2 (.lst ((cutI ns none (some k)).map V.int))) p3 (.lst (cells.map V.int))) = H3 at s3 h3
  walk_at "wp"
  refine iu_L rfl (.of h3) ?_
  refine lcgo walk_list (fun d i H4 => (∃ gs : List Int, H4 d = some (.lst (gs.map V.int)) ∧ gs.length ≤ i ∧ ∀ g ∈ gs, 0 ≤ g) ∧ U.St [] H3 H4) (fun d hd => ⟨⟨[], upd_same, Nat.le_refl _, by simp⟩, U.St.new hd⟩) (fun d i H4 hd _ ⟨_, s⟩ => .of (s.at h3 (by simp))) ?_ ?_
  · rintro d i x H4 H5 hd hi ⟨⟨gs, g1, g2, g3⟩, s⟩ ⟨rfl, hx⟩
    obtain ⟨z, hz, rfl⟩ := int_atV hx
    rw [List.length_map] at hi
    walk_at "wp"
    refine ⟨trivial, ⟨by decide, by decide, by decide⟩, ?_⟩
    by_cases e : (10 : Int) ^ (18 : Int).toNat ≤ z
    · rw [decide_eq_true e]
      have h18 : (0 : Int) ≤ (10 : Int) ^ (18 : Int).toNat := by decide
      refine iteT ⟨_, g1, sls (by rw [List.length_map]; omega), ⟨gs ++ [z], by rw [upd_same, List.map_append]; rfl, by rw [List.length_append]; simp; omega, fun g hg => ?_⟩, s.then_own hd⟩
      rcases List.mem_append.mp hg with hg | hg
      · exact g3 g hg
      · have : g = z := by simpa using hg
        omega
    · rw [decide_eq_false e]
      exact iteF ⟨⟨gs, g1, by omega, g3⟩, s⟩
  · rintro d H4 hd ⟨⟨gs, g1, g2, g3⟩, s4⟩
    rw [List.length_map] at g2
    walk_at "wp"
    refine iu_L rfl (.of (s4.at h3 (by simp))) ?_
    refine forgo_list (fun i σ H5 => ∃ (o4 : Option V) (seed : Int), σ = [some (.ref a), some (.int k), some (.ref p3), some (.ref d), o4, some (.int seed)] ∧ (0 ≤ seed ∧ seed < 2147483647) ∧ H5 = H4) ⟨none, 71 + k, rfl, ⟨by omega, by omega⟩, rfl⟩ (fun i σ H5 _ ⟨_, _, _, _, e⟩ => by rw [e]; exact .of (s4.at h3 (by simp))) ?_ ?_
    · rintro i x σ H5 hi hx ⟨o4, seed, rfl, ⟨hs0, hs1⟩, rfl⟩
      obtain ⟨z, hz, rfl⟩ := int_atV hx
      walk_at "wp"
      refine ⟨mulR (by omega), by omega, _, _, rfl, ⟨Int.emod_nonneg _ (by omega), Int.emod_lt_of_pos _ (by omega)⟩, trivial⟩
    · rintro σ H5 ⟨o4, seed, rfl, ⟨hs0, hs1⟩, rfl⟩
      walk_at "wp"
      refine fun m hm => ?_
      have sm := U.St.new (M := []) (o := .dK []) hm
      simp only [tPairs]
      walk_at "wp"
      refine ⟨Nat.zero_le _, fun p5 hp5 => ?_⟩
      have s5 := U.St.new (M := []) (o := .lst []) hp5
      refine ne_nilI (.of (s5.at (sm.at g1 (by simp)) (by simp))) upd_same ?_
      have h5c : (upd (upd H5 m (.dK [])) p5 (.lst [])) p3 = some (.lst (cells.map V.int)) := s5.at (sm.at (s4.at h3 (by simp)) (by simp)) (by simp)
      have h5d : (upd (upd H5 m (.dK [])) p5 (.lst [])) d = some (.lst (gs.map V.int)) := s5.at (sm.at g1 (by simp)) (by simp)
      have h5m : (upd (upd H5 m (.dK [])) p5 (.lst [])) m = some (.dK []) := s5.at upd_same (by simp)
      have hHm : H m = none := by
        cases e : H m with
        | none => rfl
        | some o => rw [s4.at (s3.at e (by simp)) (by simp)] at hm; cases hm
      have s05 : U.St [] H (upd (upd H5 m (.dK [])) p5 (.lst [])) := s3.trans (s4.trans (sm.trans s5))
      generalize (upd (upd H5 m (.dK [])) p5 (.lst [])) = H6 at h5c h5d h5m s05
      have fin : ∀ left : Int, 0 ≤ left → CMulU 53 k ∧ [V.int (53 * k + 11)].length ≤ sizeLine ∧ ∀ (p : Addr), H6 p = none → rAddU K (V.ref p3) (V.ref p) (upd H6 p (HO.lst [V.int (53 * k + 11)])) fun y H2 =>
            H2 m = some (HO.dK []) ∧ ∃ kvs : List (Key × V), [(V.str (Str.ofString "left"), V.int left), (V.str (Str.ofString "seed"), V.int seed), (V.str (Str.ofString "cells"), y), (V.str (Str.ofString "spot"), V.int 0)] =
                    List.map (fun kv => (kV kv.fst, kv.snd)) kvs ∧ kvs.length ≤ 15 ∧ Q (V.ref m) (upd H2 m (HO.dK (mergeK [] kvs))) := by
        intro left hl
        refine ⟨mulL (by omega), szl (by simp), fun p6 hp6 => ?_⟩
        have s6 := U.St.new (M := []) (o := .lst [.int (53 * k + 11)]) hp6
        refine .inr (.inl ⟨p3, p6, cells.map V.int, [.int (53 * k + 11)], rfl, rfl, s6.at h5c (by simp), upd_same, szl (by rw [List.length_map]; simp; omega), fun p7 hp7 => ?_⟩)
        have s7 := U.St.new (M := []) (o := .lst (cells.map V.int ++ [.int (53 * k + 11)])) hp7
        refine ⟨s7.at (s6.at h5m (by simp)) (by simp), mkM left seed p7 0, rfl, by show 4 ≤ 15; decide, ?_⟩
        rw [merge_mk]
        have hpm : p7 ≠ m := by
          rintro rfl
          rw [s6.at h5m (by simp)] at hp7; cases hp7
        have hHp : H p7 = none := by
          cases e : H p7 with
          | none => rfl
          | some o => rw [s6.at (s05.at e (by simp)) (by simp)] at hp7; cases hp7
        refine q m p7 _ hHm hHp ⟨left, seed, 0, cells ++ [53 * k + 11], upd_same, ?_, by simp, by simp; omega, hl, hs0, hs1, Int.le_refl _, Int.le_refl _⟩ ?_
        · rw [upd_ne hpm, upd_same, List.map_append]; rfl
        · exact (s05.trans (s6.trans s7)).then_own hHm
      cases gs with
      | nil => exact ⟨false, rfl, iteF (fin 0 (Int.le_refl _))⟩
      | cons g gs =>
        refine ⟨true, rfl, iteT ?_⟩
        exact ixL (.of h5d) (atI_nat (j := 0) rfl) (fin g (g3 g List.mem_cons_self))
end Draw
set_option Elab.async false
set_option maxRecDepth 100000
set_option maxHeartbeats 4000000
set_option linter.all false
/-! RankRow: the rank left of the root of a row, in plain Lean. -/
namespace RankRow
open PySem RT Row Rank
open Classical in
noncomputable def ind (p : Prop) : Int := if p then 1 else 0
theorem ind_t {p : Prop} (h : p) : ind p = 1 := by unfold ind; rw [if_pos h]
theorem ind_f {p : Prop} (h : ¬ p) : ind p = 0 := by unfold ind; rw [if_neg h]
theorem ind_iff {p q : Prop} (h : p ↔ q) : ind p = ind q := by rw [propext h]
theorem sumP_delta {f : Int → Int} {N : Nat} {a : Int} (h0 : 0 ≤ a) (h1 : a < N) (hf : ∀ i : Nat, i < N → (i : Int) ≠ a → f i = 0) : sumP f N = f a := by
  induction N with
  | zero => omega
  | succ n ih =>
    simp only [sumP]
    by_cases e : (n : Int) = a
    · have z : sumP f n = 0 := by
        rw [← sumP_zero n]
        exact sumP_congr fun i hi => hf i (by omega) (by omega)
      rw [z, e]; omega
    · rw [ih (by omega) fun i hi hne => hf i (by omega) hne, hf n (by omega) e]; omega
theorem sumP_sub (f g : Int → Int) : ∀ n, sumP (fun x => f x - g x) n = sumP f n - sumP g n
  | 0 => by simp [sumP]
  | n + 1 => by simp only [sumP, sumP_sub f g n]; omega
theorem sumP_mul (f : Int → Int) (c : Int) : ∀ n, sumP (fun x => c * f x) n = c * sumP f n
  | 0 => by simp [sumP]
  | n + 1 => by simp only [sumP, sumP_mul f c n, Int.mul_add]
/-- what is moved from one place to another leaves the sum -/
theorem sumP_move {f g : Int → Int} {N : Nat} {a b c : Int} (hne : a ≠ b) (a0 : 0 ≤ a) (a1 : a < N) (b0 : 0 ≤ b) (b1 : b < N) (ha : g a = f a - c) (hb : g b = f b + c) (ho : ∀ i : Nat, i < N → (i : Int) ≠ a → (i : Int) ≠ b → g i = f i) : sumP g N = sumP f N := by
  have e : sumP g N = sumP (fun x => f x + ((if x = b then c else 0) - (if x = a then c else 0))) N := sumP_congr fun i hi => by
    by_cases ea : (i : Int) = a
    · rw [ea, ha, if_pos rfl, if_neg hne]; omega
    · by_cases eb : (i : Int) = b
      · rw [eb, hb, if_pos rfl, if_neg (Ne.symm hne)]; omega
      · rw [ho i hi ea eb, if_neg ea, if_neg eb]; omega
  rw [e, sumP_add, sumP_sub, sumP_delta (f := fun x => if x = b then c else 0) b0 b1 (fun i _ h => if_neg h), sumP_delta (f := fun x => if x = a then c else 0) a0 a1 (fun i _ h => if_neg h), if_pos rfl, if_pos rfl]; omega
/-! ### what holds while the places of a height join -/
/-- S what is in, P the ties that are done, fr the fresh places, T the height -/
structure J (N : Nat) (S : Int → Prop) (fr : List Int) (T : Int) (P : Int → Prop) (st : MS) : Prop where
  rng : ∀ i, S i → 0 ≤ i ∧ i < N
  out : ∀ i, ¬ S i → st.1 i = i ∧ st.2 i = []
  idem : ∀ i, S i → S (st.1 i) ∧ st.1 (st.1 i) = st.1 i
  tie : ∀ m, P m → S m ∧ S (m + 1)
  conn : ∀ i k, S i → S k → i ≤ k → (st.1 i = st.1 k ↔ ∀ m, i ≤ m → m < k → P m)
  hd : sumP (fun i => ind (S i ∧ st.1 i = i)) N = sumP (fun i => ind (S i)) N - sumP (fun i => ind (P i)) N
  non : ∀ i, st.1 i ≠ i → st.2 i = []
  one : ∀ i, S i → st.1 i = i → (st.2 i).length = 1 ∨ ∃ x ∈ fr, st.1 x = i
  good : ∀ i, ∀ r ∈ st.2 i, Good r ∧ r.h ≤ T
def Wt (N : Nat) (T : Int) (st : MS) : Int := sumP (fun i => Es T (st.2 i)) N
def Sz (N : Nat) (st : MS) : Int := sumP (fun i => (sizes (st.2 i) : Int)) N
theorem sizes_app : ∀ a b : List Rt, sizes (a ++ b) = sizes a + sizes b
  | [], b => by simp [sizes]
  | r :: a, b => by simp only [List.cons_append, sizes, sizes_app a b]; omega
/-- two neighbours that are in join -/
theorem J.join {N : Nat} {S : Int → Prop} {fr : List Int} {T : Int} {P : Int → Prop} {st : MS} (j : J N S fr T P st) {x y m : Int} (hxf : x ∈ fr) (hm : S m) (hm1 : S (m + 1)) (hxy : (x = m ∧ y = m + 1) ∨ (x = m + 1 ∧ y = m)) :
    J N S fr T (fun q => P q ∨ q = m) (joinM st x y) ∧ Wt N T (joinM st x y) = Wt N T st ∧ Sz N (joinM st x y) = Sz N st := by
  have hx : S x := by rcases hxy with ⟨e, _⟩ | ⟨e, _⟩ <;> (rw [e]; assumption)
  have hy : S y := by rcases hxy with ⟨_, e⟩ | ⟨_, e⟩ <;> (rw [e]; assumption)
  have hmm : st.1 m = st.1 (m + 1) ↔ P m := by
    rw [j.conn m (m + 1) hm hm1 (by omega)]
    constructor
    · intro h; exact h m (by omega) (by omega)
    · intro h q h1 h2
      have : q = m := by omega
      rw [this]; exact h
  by_cases hP : P m
  · have e : st.1 x = st.1 y := by
      have := hmm.mpr hP
      rcases hxy with ⟨e1, e2⟩ | ⟨e1, e2⟩ <;> (rw [e1, e2]; first | exact this | exact this.symm)
    have ej : joinM st x y = st := by unfold joinM; rw [if_pos e]
    have eP : (fun q => P q ∨ q = m) = P := funext fun q => propext ⟨fun h => h.elim id fun z => by rw [z]; exact hP, .inl⟩
    rw [ej, eP]
    exact ⟨j, rfl, rfl⟩
  have hne : st.1 x ≠ st.1 y := by
    intro e
    refine hP (hmm.mp ?_)
    rcases hxy with ⟨e1, e2⟩ | ⟨e1, e2⟩
    · rw [e1, e2] at e; exact e
    · rw [e1, e2] at e; exact e.symm
  obtain ⟨sx, rx⟩ := j.idem x hx
  obtain ⟨sy, ry⟩ := j.idem y hy
  obtain ⟨x0, x1⟩ := j.rng _ sx
  obtain ⟨y0, y1⟩ := j.rng _ sy
  have ej : joinM st x y = (fun i => if st.1 i = st.1 x then st.1 y else st.1 i, joinR st.1 st.2 x y) := by unfold joinM; rw [if_neg hne]
  rw [ej]
  have Rx : joinR st.1 st.2 x y (st.1 x) = [] := by unfold joinR; rw [if_neg hne, if_pos rfl]
  have Ry : joinR st.1 st.2 x y (st.1 y) = st.2 (st.1 x) ++ st.2 (st.1 y) := by unfold joinR; rw [if_pos rfl]
  have Ro : ∀ i, i ≠ st.1 x → i ≠ st.1 y → joinR st.1 st.2 x y i = st.2 i := fun i h1 h2 => by unfold joinR; rw [if_neg h2, if_neg h1]
  refine ⟨⟨j.rng, fun i hi => ?_, fun i hi => ?_, fun q hq => ?_, fun i k hi hk hik => ?_, ?_, fun i hi => ?_, fun i hi hh => ?_, fun i r hr => ?_⟩, ?_, ?_⟩
  · obtain ⟨h1, h2⟩ := j.out i hi
    have n1 : st.1 i ≠ st.1 x := fun z => hi (by rw [← h1, z]; exact sx)
    have n2 : i ≠ st.1 x := fun z => hi (by rw [z]; exact sx)
    have n3 : i ≠ st.1 y := fun z => hi (by rw [z]; exact sy)
    exact ⟨by show (if _ then _ else _) = i; rw [if_neg n1]; exact h1, by show joinR st.1 st.2 x y i = []; rw [Ro i n2 n3]; exact h2⟩
  · obtain ⟨h1, h2⟩ := j.idem i hi
    show S (if st.1 i = st.1 x then st.1 y else st.1 i) ∧ (if st.1 (if st.1 i = st.1 x then st.1 y else st.1 i) = st.1 x then st.1 y else st.1 (if st.1 i = st.1 x then st.1 y else st.1 i)) = if st.1 i = st.1 x then st.1 y else st.1 i
    by_cases e : st.1 i = st.1 x
    · simp only [if_pos e, ry, if_neg (Ne.symm hne)]; exact ⟨sy, trivial⟩
    · simp only [if_neg e, h2]; exact ⟨h1, trivial⟩
  · rcases hq with hq | hq
    · exact j.tie q hq
    · rw [hq]; exact ⟨hm, hm1⟩
  · show ((if st.1 i = st.1 x then st.1 y else st.1 i) = if st.1 k = st.1 x then st.1 y else st.1 k) ↔ _
    have cik := j.conn i k hi hk hik
    -- how i and k lie to m and m + 1
    have p1 : ∀ a, S a → a ≤ m → (st.1 a = st.1 m ↔ ∀ q, a ≤ q → q < m → P q) := fun a ha h => j.conn a m ha hm h
    have p2 : ∀ a, S a → m ≤ a → (st.1 m = st.1 a ↔ ∀ q, m ≤ q → q < a → P q) := fun a ha h => j.conn m a hm ha h
    have p3 : ∀ a, S a → a ≤ m + 1 → (st.1 a = st.1 (m + 1) ↔ ∀ q, a ≤ q → q < m + 1 → P q) := fun a ha h => j.conn a (m + 1) ha hm1 h
    have p4 : ∀ a, S a → m + 1 ≤ a → (st.1 (m + 1) = st.1 a ↔ ∀ q, m + 1 ≤ q → q < a → P q) := fun a ha h => j.conn (m + 1) a hm1 ha h
    -- a ~ m only from below, a ~ m + 1 only from above
    have b1 : ∀ a, S a → st.1 a = st.1 m → a ≤ m := fun a ha h => by
      rcases Int.lt_or_le m a with z | z
      · exact absurd ((p2 a ha (by omega)).mp h.symm m (by omega) z) hP
      · exact z
    have b2 : ∀ a, S a → st.1 a = st.1 (m + 1) → m + 1 ≤ a := fun a ha h => by
      rcases Int.lt_or_le a (m + 1) with z | z
      · exact absurd ((p3 a ha (by omega)).mp h m (by omega) (by omega)) hP
      · exact z
    have key : (st.1 i = st.1 k ∨ (st.1 i = st.1 m ∧ st.1 k = st.1 (m + 1))) ↔ ∀ q, i ≤ q → q < k → (P q ∨ q = m) := by
      constructor
      · rintro (h | ⟨h1, h2⟩) q q1 q2
        · exact .inl (cik.mp h q q1 q2)
        · have l1 := b1 i hi h1
          have l2 := b2 k hk h2
          rcases Int.lt_trichotomy q m with z | z | z
          · exact .inl ((p1 i hi l1).mp h1 q q1 z)
          · exact .inr z
          · exact .inl ((p4 k hk l2).mp h2.symm q (by omega) q2)
      · intro h
        by_cases hin : i ≤ m ∧ m < k
        · right
          refine ⟨(p1 i hi hin.1).mpr fun q q1 q2 => ?_, ((p4 k hk (by omega)).mpr fun q q1 q2 => ?_).symm⟩
          · exact (h q q1 (by omega)).resolve_right (by omega)
          · exact (h q (by omega) q2).resolve_right (by omega)
        · left
          exact cik.mpr fun q q1 q2 => (h q q1 q2).resolve_right fun z => hin (by omega)
    rw [← key]
    have hsw : ¬ (st.1 i = st.1 (m + 1) ∧ st.1 k = st.1 m) := fun ⟨h1, h2⟩ => by
      have := b2 i hi h1
      have := b1 k hk h2
      omega
    rcases hxy with ⟨e1, e2⟩ | ⟨e1, e2⟩
    · subst e1 e2
      by_cases c1 : st.1 i = st.1 x
      · by_cases c2 : st.1 k = st.1 x
        · simp only [if_pos c1, if_pos c2, true_iff]; exact .inl (c1.trans c2.symm)
        · simp only [if_pos c1, if_neg c2]
          constructor
          · intro h; exact .inr ⟨c1, h.symm⟩
          · rintro (h | ⟨_, h⟩)
            · exact absurd (h.symm.trans c1) c2
            · exact h.symm
      · by_cases c2 : st.1 k = st.1 x
        · simp only [if_neg c1, if_pos c2]
          constructor
          · intro h; exact absurd ⟨h, c2⟩ hsw
          · rintro (h | ⟨h, _⟩)
            · exact absurd (h.trans c2) c1
            · exact absurd h c1
        · simp only [if_neg c1, if_neg c2]
          constructor
          · exact .inl
          · rintro (h | ⟨h, _⟩)
            · exact h
            · exact absurd h c1
    · subst e1 e2
      by_cases c1 : st.1 i = st.1 (y + 1)
      · by_cases c2 : st.1 k = st.1 (y + 1)
        · simp only [if_pos c1, if_pos c2, true_iff]; exact .inl (c1.trans c2.symm)
        · simp only [if_pos c1, if_neg c2]
          constructor
          · intro h; exact absurd ⟨c1, h.symm⟩ hsw
          · rintro (h | ⟨h, h'⟩)
            · exact absurd (h.symm.trans c1) c2
            · exact absurd h' c2
      · by_cases c2 : st.1 k = st.1 (y + 1)
        · simp only [if_neg c1, if_pos c2]
          constructor
          · intro h; exact .inr ⟨h, c2⟩
          · rintro (h | ⟨h, _⟩)
            · exact absurd (h.trans c2) c1
            · exact h
        · simp only [if_neg c1, if_neg c2]
          constructor
          · exact .inl
          · rintro (h | ⟨_, h⟩)
            · exact h
            · exact absurd h c2
  · -- heads
    have e1 : sumP (fun i => ind (S i ∧ (if st.1 i = st.1 x then st.1 y else st.1 i) = i)) N = sumP (fun i => ind (S i ∧ st.1 i = i) - (if i = st.1 x then 1 else 0)) N := sumP_congr fun i _ => by
      by_cases c : (i : Int) = st.1 x
      · have a1 : ind (S i ∧ st.1 i = i) = 1 := ind_t ⟨by rw [c]; exact sx, by rw [c]; exact rx⟩
        have a2 : ind (S i ∧ (if st.1 i = st.1 x then st.1 y else st.1 i) = i) = 0 := ind_f (by
          rintro ⟨_, h⟩
          rw [c, rx, if_pos rfl] at h
          exact hne h.symm)
        rw [if_pos c, a1, a2]; rfl
      · rw [if_neg c, Int.sub_zero]
        refine ind_iff ⟨fun ⟨h1, h2⟩ => ⟨h1, ?_⟩, fun ⟨h1, h2⟩ => ⟨h1, ?_⟩⟩
        · by_cases d : st.1 i = st.1 x
          · rw [if_pos d] at h2
            rw [← h2, ry] at d
            exact absurd d.symm hne
          · rw [if_neg d] at h2; exact h2
        · rw [if_neg (fun z => c (h2.symm.trans z))]; exact h2
    have e2 : sumP (fun i => if i = st.1 x then (1 : Int) else 0) N = 1 := by
      rw [sumP_delta x0 x1 (fun i _ h => if_neg h), if_pos rfl]
    have hm0 := j.rng m hm
    have e3 : sumP (fun i => ind (P i ∨ i = m)) N = sumP (fun i => ind (P i) + (if i = m then 1 else 0)) N := sumP_congr fun i _ => by
      by_cases c : (i : Int) = m
      · rw [if_pos c, ind_t (.inr c), ind_f (by rw [c]; exact hP)]; rfl
      · rw [if_neg c, Int.add_zero]
        exact ind_iff ⟨fun h => h.resolve_right c, .inl⟩
    have e4 : sumP (fun i => if i = m then (1 : Int) else 0) N = 1 := by
      rw [sumP_delta hm0.1 hm0.2 (fun i _ h => if_neg h), if_pos rfl]
    have := j.hd
    show sumP (fun i => ind (S i ∧ (if st.1 i = st.1 x then st.1 y else st.1 i) = i)) N = sumP (fun i => ind (S i)) N - sumP (fun i => ind (P i ∨ i = m)) N
    rw [e1, e3, sumP_sub, sumP_add, e2, e4]; omega
  · have hi : (if st.1 i = st.1 x then st.1 y else st.1 i) ≠ i := hi
    show joinR st.1 st.2 x y i = []
    by_cases c : i = st.1 x
    · rw [c]; exact Rx
    · by_cases d : i = st.1 y
      · exfalso
        rw [d, ry, if_neg (Ne.symm hne)] at hi
        exact hi rfl
      · rw [Ro i c d]
        refine j.non i fun z => hi ?_
        rw [if_neg (fun w => c (z.symm.trans w))]; exact z
  · have hh : (if st.1 i = st.1 x then st.1 y else st.1 i) = i := hh
    show (joinR st.1 st.2 x y i).length = 1 ∨ ∃ z ∈ fr, (if st.1 z = st.1 x then st.1 y else st.1 z) = i
    by_cases c : st.1 i = st.1 x
    · rw [if_pos c] at hh
      exact .inr ⟨x, hxf, by rw [if_pos rfl]; exact hh⟩
    · rw [if_neg c] at hh
      by_cases d : i = st.1 y
      · exact .inr ⟨x, hxf, by rw [if_pos rfl]; exact d.symm⟩
      · have c' : i ≠ st.1 x := fun z => c (hh.trans z)
        rcases j.one i hi hh with h | ⟨z, hz, h⟩
        · left; rw [Ro i c' d]; exact h
        · right; exact ⟨z, hz, by rw [if_neg (fun w => c' (h.symm.trans w))]; exact h⟩
  · have hr : r ∈ joinR st.1 st.2 x y i := hr
    by_cases d : i = st.1 y
    · rw [d, Ry] at hr
      rcases List.mem_append.mp hr with h | h
      · exact j.good _ r h
      · exact j.good _ r h
    · by_cases c : i = st.1 x
      · rw [c, Rx] at hr; cases hr
      · rw [Ro i c d] at hr; exact j.good i r hr
  · refine sumP_move (a := st.1 x) (b := st.1 y) (c := Es T (st.2 (st.1 x))) hne x0 x1 y0 y1 ?_ ?_ fun i _ h1 h2 => ?_
    · show Es T (joinR st.1 st.2 x y (st.1 x)) = _
      rw [Rx]; simp only [Es]; omega
    · show Es T (joinR st.1 st.2 x y (st.1 y)) = _
      rw [Ry, Es_app]; omega
    · show Es T (joinR st.1 st.2 x y i) = _
      rw [Ro _ h1 h2]
  · refine sumP_move (a := st.1 x) (b := st.1 y) (c := (sizes (st.2 (st.1 x)) : Int)) hne x0 x1 y0 y1 ?_ ?_ fun i _ h1 h2 => ?_
    · show ((sizes (joinR st.1 st.2 x y (st.1 x)) : Nat) : Int) = _
      rw [Rx]; simp only [sizes]; omega
    · show ((sizes (joinR st.1 st.2 x y (st.1 y)) : Nat) : Int) = _
      rw [Ry, sizes_app]; omega
    · show ((sizes (joinR st.1 st.2 x y i) : Nat) : Int) = _
      rw [Ro _ h1 h2]

theorem J.congr {N : Nat} {S : Int → Prop} {fr : List Int} {T : Int} {P P' : Int → Prop} {st : MS} (j : J N S fr T P st) (h : ∀ q, P' q ↔ P q) : J N S fr T P' st := by
  have : P' = P := funext fun q => propext (h q)
  rw [this]; exact j
theorem J.nb {hs : List Int} {ht : Int} {N : Nat} {S : Int → Prop} {fr : List Int} {T : Int} {P : Int → Prop} {st : MS} (j : J N S fr T P st) (hS : ∀ i, S i ↔ inS hs ht i = true) {p o m : Int} (hp : p ∈ fr) (hpS : S p) (hpo : (p = m ∧ o = m + 1) ∨ (p = m + 1 ∧ o = m)) :
    J N S fr T (fun q => P q ∨ (q = m ∧ S m ∧ S (m + 1))) (nb hs ht p st o) ∧ Wt N T (nb hs ht p st o) = Wt N T st ∧ Sz N (nb hs ht p st o) = Sz N st := by
  unfold Row.nb
  by_cases e : inS hs ht o = true
  · rw [if_pos e]
    have ho : S o := (hS o).mpr e
    have hm : S m ∧ S (m + 1) := by
      rcases hpo with ⟨a, b⟩ | ⟨a, b⟩
      · rw [← a, ← show o = p + 1 by omega]; exact ⟨hpS, ho⟩
      · rw [← b, ← show p = o + 1 by omega]; exact ⟨ho, hpS⟩
    obtain ⟨j1, w1, z1⟩ := j.join hp hm.1 hm.2 hpo
    exact ⟨j1.congr fun q => ⟨fun h => h.elim .inl fun h => .inr h.1, fun h => h.elim .inl fun h => .inr ⟨h, hm⟩⟩, w1, z1⟩
  · rw [if_neg e]
    refine ⟨j.congr fun q => ⟨fun h => h.elim id fun h => ?_, .inl⟩, rfl, rfl⟩
    exfalso
    refine e ((hS o).mp ?_)
    rcases hpo with ⟨a, b⟩ | ⟨a, b⟩
    · rw [b]; exact h.2.2
    · rw [b]; exact h.2.1
theorem J.steps {hs : List Int} {ht : Int} {N : Nat} {S : Int → Prop} {fr : List Int} {T : Int} (hS : ∀ i, S i ↔ inS hs ht i = true) (hf : ∀ p ∈ fr, S p) : ∀ (l : List Int) {P : Int → Prop} {st : MS}, J N S fr T P st → (∀ p ∈ l, p ∈ fr) →
    J N S fr T (fun q => P q ∨ ∃ p ∈ l, (q = p ∨ q = p - 1) ∧ S q ∧ S (q + 1)) (l.foldl (stepJ hs ht) st) ∧ Wt N T (l.foldl (stepJ hs ht) st) = Wt N T st ∧ Sz N (l.foldl (stepJ hs ht) st) = Sz N st
  | [], P, st, j, _ => ⟨j.congr fun q => ⟨fun h => h.elim id (fun ⟨_, h, _⟩ => absurd h (by simp)), .inl⟩, rfl, rfl⟩
  | p :: l, P, st, j, h => by
    have hp := h p List.mem_cons_self
    obtain ⟨j1, w1, z1⟩ := j.nb hS (o := p - 1) (m := p - 1) hp (hf p hp) (.inr ⟨by omega, rfl⟩)
    obtain ⟨j2, w2, z2⟩ := j1.nb hS (o := p + 1) (m := p) hp (hf p hp) (.inl ⟨rfl, rfl⟩)
    obtain ⟨j3, w3, z3⟩ := J.steps hS hf l j2 fun q hq => h q (List.mem_cons_of_mem _ hq)
    refine ⟨j3.congr fun q => ?_, w3.trans (w2.trans w1), z3.trans (z2.trans z1)⟩
    constructor
    · rintro (h1 | ⟨p', hp', h2, h3⟩)
      · exact .inl (.inl (.inl h1))
      · rcases List.mem_cons.mp hp' with e | hp'
        · subst e
          rcases h2 with e | e
          · subst e; exact .inl (.inr ⟨rfl, h3⟩)
          · subst e; exact .inl (.inl (.inr ⟨rfl, h3.1, by rw [show p' - 1 + 1 = p' by omega] at h3 ⊢; exact h3.2⟩))
        · exact .inr ⟨p', hp', h2, h3⟩
    · rintro (((h1 | ⟨e, h3⟩) | ⟨e, h3⟩) | ⟨p', hp', h2, h3⟩)
      · exact .inl h1
      · subst e; exact .inr ⟨p, List.mem_cons_self, .inr rfl, h3.1, by rw [show p - 1 + 1 = p by omega] at h3 ⊢; exact h3.2⟩
      · subst e; exact .inr ⟨q, List.mem_cons_self, .inl rfl, h3⟩
      · exact .inr ⟨p', List.mem_cons_of_mem _ hp', h2, h3⟩
/-! ### settling -/
theorem settle1_Es {rep : Int → Int} {T : Int} {R : Int → List Rt} {x i : Int} : Es T (settle1 rep T R x i) = Es T (R i) := by
  unfold settle1
  by_cases e : R (rep x) = []
  · rw [if_pos e]
    by_cases c : i = rep x
    · rw [if_pos c, c, e]
      simp only [Es, E, Rt.h]; omega
    · rw [if_neg c]
  · rw [if_neg e]
    by_cases e2 : 1 < (R (rep x)).length
    · rw [if_pos e2]
      by_cases c : i = rep x
      · rw [if_pos c, c]
        simp only [Es, E, Rt.h]
        rw [Es_perm (sortR_perm _)]; omega
      · rw [if_neg c]
    · rw [if_neg e2]
theorem sizes_permR {a b : List Rt} (p : a.Perm b) : sizes a = sizes b := by
  induction p with
  | nil => rfl
  | cons x _ ih => simp only [sizes, ih]
  | swap x y l => simp only [sizes]; omega
  | trans _ _ h1 h2 => exact h1.trans h2
theorem settle1_size {rep : Int → Int} {T : Int} {R : Int → List Rt} {x i : Int} : (sizes (settle1 rep T R x i) : Int) ≤ sizes (R i) + (if i = rep x then 1 else 0) := by
  unfold settle1
  by_cases e : R (rep x) = []
  · rw [if_pos e]
    by_cases c : i = rep x
    · rw [if_pos c, if_pos c, c, e]
      simp only [sizes, size]; omega
    · rw [if_neg c, if_neg c]; omega
  · rw [if_neg e]
    by_cases e2 : 1 < (R (rep x)).length
    · rw [if_pos e2]
      by_cases c : i = rep x
      · rw [if_pos c, if_pos c, c]
        simp only [sizes, size]
        rw [sizes_permR (sortR_perm _)]; omega
      · rw [if_neg c, if_neg c]; omega
    · rw [if_neg e2]; split <;> omega
theorem sumP_le {f g : Int → Int} : ∀ {n : Nat}, (∀ i : Nat, i < n → f i ≤ g i) → sumP f n ≤ sumP g n
  | 0, _ => Int.le_refl _
  | n + 1, h => by
    have h1 := sumP_le (n := n) fun i hi => h i (by omega)
    have h2 := h n (by omega)
    simp only [sumP]; omega
theorem J.settle1 {N : Nat} {S : Int → Prop} {fr : List Int} {T : Int} {P : Int → Prop} {st : MS} (j : J N S fr T P st) (hT : 0 ≤ T) {x : Int} (hx : S x) :
    J N S fr T P (st.1, settle1 st.1 T st.2 x) ∧ Wt N T (st.1, Row.settle1 st.1 T st.2 x) = Wt N T st ∧ Sz N (st.1, Row.settle1 st.1 T st.2 x) ≤ Sz N st + 1 := by
  obtain ⟨sx, rx⟩ := j.idem x hx
  refine ⟨⟨j.rng, fun i hi => ⟨(j.out i hi).1, ?_⟩, j.idem, j.tie, j.conn, j.hd, fun i hi => ?_, fun i hi hh => ?_, fun i r hr => ?_⟩, ?_, ?_⟩
  · show Row.settle1 st.1 T st.2 x i = []
    rw [settle1_at.1 (fun z => hi (by rw [z]; exact sx))]
    exact (j.out i hi).2
  · show Row.settle1 st.1 T st.2 x i = []
    have hi : st.1 i ≠ i := hi
    rw [settle1_at.1 (fun z => hi (by rw [z]; exact rx))]
    exact j.non i hi
  · show (Row.settle1 st.1 T st.2 x i).length = 1 ∨ _
    by_cases c : i = st.1 x
    · exact .inl (settle1_at.2.2.2.2 c)
    · rw [settle1_at.1 c]; exact j.one i hi hh
  · have hr : r ∈ Row.settle1 st.1 T st.2 x i := hr
    by_cases c : i = st.1 x
    · unfold Row.settle1 at hr
      by_cases e : st.2 (st.1 x) = []
      · rw [if_pos e] at hr
        rw [if_pos c] at hr
        rw [List.mem_singleton.mp hr, Good]
        exact ⟨⟨hT, by simp [Goods]⟩, Int.le_refl _⟩
      · rw [if_neg e] at hr
        by_cases e2 : 1 < (st.2 (st.1 x)).length
        · rw [if_pos e2] at hr
          rw [if_pos c] at hr
          rw [List.mem_singleton.mp hr, Good]
          exact ⟨⟨hT, goods_iff.mpr fun q hq => j.good _ q ((sortR_perm _).mem_iff.mp hq)⟩, Int.le_refl _⟩
        · rw [if_neg e2] at hr; exact j.good i r hr
    · rw [settle1_at.1 c] at hr; exact j.good i r hr
  · exact sumP_congr fun i _ => settle1_Es
  · obtain ⟨x0, x1⟩ := j.rng _ sx
    have h1 : Sz N (st.1, Row.settle1 st.1 T st.2 x) ≤ sumP (fun i => (sizes (st.2 i) : Int) + (if i = st.1 x then 1 else 0)) N := sumP_le fun i _ => settle1_size
    rw [sumP_add, sumP_delta (f := fun i => if i = st.1 x then (1 : Int) else 0) x0 x1 (fun i _ h => if_neg h), if_pos rfl] at h1
    exact h1
theorem J.settle {N : Nat} {S : Int → Prop} {fr : List Int} {T : Int} {P : Int → Prop} (hT : 0 ≤ T) : ∀ (l : List Int) {st : MS}, J N S fr T P st → (∀ p ∈ l, S p) →
    J N S fr T P (st.1, settleM st.1 T l st.2) ∧ Wt N T (st.1, settleM st.1 T l st.2) = Wt N T st ∧ Sz N (st.1, settleM st.1 T l st.2) ≤ Sz N st + l.length
  | [], st, j, _ => ⟨j, rfl, by show Sz N st ≤ Sz N st + ((0 : Nat) : Int); omega⟩
  | x :: l, st, j, h => by
    obtain ⟨j1, w1, z1⟩ := j.settle1 hT (h x List.mem_cons_self)
    obtain ⟨j2, w2, z2⟩ := J.settle hT l j1 fun p hp => h p (List.mem_cons_of_mem _ hp)
    refine ⟨j2, w2.trans w1, ?_⟩
    have : Sz N (st.1, settleM st.1 T (x :: l) st.2) ≤ Sz N (st.1, Row.settle1 st.1 T st.2 x) + l.length := z2
    rw [List.length_cons]; omega
theorem settleM_one {rep : Int → Int} {T : Int} {j : Int} : ∀ (l : List Int) (R : Int → List Rt), (R j).length = 1 → (settleM rep T l R j).length = 1
  | [], _, h => h
  | x :: l, R, h => by
    refine settleM_one l _ ?_
    have h1 := (settle1_at (rep := rep) (h := T) (R := R) (x := x) (j := j)).2.2.2.1
    have h2 := (settle1_at (rep := rep) (h := T) (R := R) (x := x) (j := j)).2.1 (fun z => by rw [z] at h; cases h)
    have : (Row.settle1 rep T R x j).length ≠ 0 := fun z => h2 (List.length_eq_zero_iff.mp z)
    omega
theorem settleM_fresh {rep : Int → Int} {T : Int} {x : Int} : ∀ (l : List Int) (R : Int → List Rt), x ∈ l → (settleM rep T l R (rep x)).length = 1
  | y :: l, R, h => by
    rcases List.mem_cons.mp h with e | h
    · subst e; exact settleM_one l _ (settle1_at.2.2.2.2 rfl)
    · exact settleM_fresh l _ h
/-- settled: one root a head -/
theorem J.done {N : Nat} {S : Int → Prop} {fr : List Int} {T : Int} {P : Int → Prop} {st : MS} (hT : 0 ≤ T) (j : J N S fr T P st) (hf : ∀ p ∈ fr, S p) :
    J N S [] T P (st.1, settleM st.1 T fr st.2) ∧ Wt N T (st.1, settleM st.1 T fr st.2) = Wt N T st ∧ Sz N (st.1, settleM st.1 T fr st.2) ≤ Sz N st + fr.length := by
  obtain ⟨j1, w1, z1⟩ := J.settle hT fr j hf
  refine ⟨⟨j1.rng, j1.out, j1.idem, j1.tie, j1.conn, j1.hd, j1.non, fun i hi hh => .inl ?_, j1.good⟩, w1, z1⟩
  rcases j.one i hi hh with h | ⟨x, hx, h⟩
  · exact settleM_one fr _ h
  · rw [← h]; exact settleM_fresh fr _ hx
/-! ### from one height to the next -/
/-- fresh places come in, the height rises -/
theorem J.more {N : Nat} {S S' : Int → Prop} {fr : List Int} {T T' : Int} {P : Int → Prop} {st : MS} (j : J N S [] T P st) (hS : ∀ i, S' i ↔ S i ∨ i ∈ fr) (hn : ∀ i ∈ fr, ¬ S i) (hr : ∀ i, S' i → 0 ≤ i ∧ i < N) (hT : T ≤ T') : J N S' fr T' P st := by
  have old : ∀ i, S' i → ¬ S i → i ∈ fr := fun i h n => ((hS i).mp h).resolve_left n
  refine ⟨hr, fun i hi => j.out i fun z => hi ((hS i).mpr (.inl z)), fun i hi => ?_, fun m hm => ⟨(hS _).mpr (.inl (j.tie m hm).1), (hS _).mpr (.inl (j.tie m hm).2)⟩, fun i k hi hk hik => ?_, ?_, j.non, fun i hi hh => ?_, fun i r hr => ⟨(j.good i r hr).1, Int.le_trans (j.good i r hr).2 hT⟩⟩
  · by_cases e : S i
    · exact ⟨(hS _).mpr (.inl (j.idem i e).1), (j.idem i e).2⟩
    · rw [(j.out i e).1]; exact ⟨hi, (j.out i e).1⟩
  · by_cases e : S i
    · by_cases e' : S k
      · exact j.conn i k e e' hik
      · rw [(j.out k e').1]
        constructor
        · intro h; exact absurd (by rw [← h]; exact (j.idem i e).1) e'
        · intro h
          exfalso
          have hlt : i < k := by
            rcases Int.lt_or_eq_of_le hik with z | z
            · exact z
            · exact absurd (z ▸ e) e'
          have := (j.tie _ (h (k - 1) (by omega) (by omega))).2
          rw [show k - 1 + 1 = k by omega] at this
          exact e' this
    · rw [(j.out i e).1]
      by_cases hlt : i = k
      · subst hlt
        rw [(j.out i e).1]
        exact ⟨fun _ m h1 h2 => by omega, fun _ => rfl⟩
      · constructor
        · intro h
          exfalso
          by_cases e' : S k
          · exact e (by rw [h]; exact (j.idem k e').1)
          · rw [(j.out k e').1] at h; exact hlt h
        · intro h
          exact absurd (j.tie _ (h i (Int.le_refl _) (by omega))).1 e
  · have h1 : sumP (fun i => ind (S' i ∧ st.1 i = i)) N = sumP (fun i => ind (S i ∧ st.1 i = i) + ind (S' i ∧ ¬ S i)) N := sumP_congr fun i _ => by
      by_cases e : S i
      · rw [ind_f (p := S' i ∧ ¬ S i) (fun h => h.2 e), Int.add_zero]
        exact ind_iff ⟨fun h => ⟨e, h.2⟩, fun h => ⟨(hS _).mpr (.inl e), h.2⟩⟩
      · rw [ind_f (p := S i ∧ st.1 i = i) (fun h => e h.1), Int.zero_add]
        exact ind_iff ⟨fun h => ⟨h.1, e⟩, fun h => ⟨h.1, (j.out i e).1⟩⟩
    have h2 : sumP (fun i => ind (S' i)) N = sumP (fun i => ind (S i) + ind (S' i ∧ ¬ S i)) N := sumP_congr fun i _ => by
      by_cases e : S i
      · rw [ind_f (p := S' i ∧ ¬ S i) (fun h => h.2 e), Int.add_zero]
        exact ind_iff ⟨fun _ => e, fun h => (hS _).mpr (.inl h)⟩
      · rw [ind_f e, Int.zero_add]
        exact ind_iff ⟨fun h => ⟨h, e⟩, fun h => h.1⟩
    have := j.hd
    rw [h1, h2, sumP_add, sumP_add]; omega
  · by_cases e : S i
    · rcases j.one i e hh with h | ⟨_, h, _⟩
      · exact .inl h
      · cases h
    · exact .inr ⟨i, old i hi e, hh⟩
/-- the sum when the height rises -/
theorem Wt_up {N : Nat} {S : Int → Prop} {T T' : Int} {P : Int → Prop} {st : MS} (j : J N S [] T P st) : Wt N T' st = Wt N T st + (T' - T) * (sumP (fun i => ind (S i)) N - sumP (fun i => ind (P i)) N) := by
  have e : Wt N T' st = sumP (fun i => Es T (st.2 i) + (T' - T) * ind (S i ∧ st.1 i = i)) N := sumP_congr fun i _ => by
    rw [Es_up T T']
    by_cases c : S i ∧ st.1 i = i
    · rw [ind_t c]
      have : (st.2 i).length = 1 := by
        rcases j.one i c.1 c.2 with h | ⟨_, h, _⟩
        · exact h
        · cases h
      rw [this]; rfl
    · rw [ind_f c]
      have : st.2 i = [] := by
        by_cases d : S i
        · exact j.non i fun z => c ⟨d, z⟩
        · exact (j.out i d).2
      rw [this]; rfl
  rw [e, sumP_add, sumP_mul, j.hd]; rfl

/-! ### the sums over the row -/
def hh (hs : List Int) (least : Int) (i : Int) : Int := hs.getD i.toNat 0 - least
noncomputable def tgt (hs : List Int) (least : Int) (S : Int → Prop) (T : Int) : Int :=
  sumP (fun i => ind (S i) * (T - hh hs least i)) hs.length - sumP (fun i => ind (S i ∧ S (i + 1)) * (T - max (hh hs least i) (hh hs least (i + 1)))) hs.length
theorem tgt_up {hs : List Int} {least : Int} {S : Int → Prop} {T T' : Int} : tgt hs least S T' = tgt hs least S T + (T' - T) * (sumP (fun i => ind (S i)) hs.length - sumP (fun i => ind (S i ∧ S (i + 1))) hs.length) := by
  unfold tgt
  have e1 : sumP (fun i => ind (S i) * (T' - hh hs least i)) hs.length = sumP (fun i => ind (S i) * (T - hh hs least i) + (T' - T) * ind (S i)) hs.length := sumP_congr fun i _ => by
    have : T' - hh hs least i = (T - hh hs least i) + (T' - T) := by omega
    rw [this, Int.mul_add, Int.mul_comm (ind (S i)) (T' - T)]
  have e2 : sumP (fun i => ind (S i ∧ S (i + 1)) * (T' - max (hh hs least i) (hh hs least (i + 1)))) hs.length = sumP (fun i => ind (S i ∧ S (i + 1)) * (T - max (hh hs least i) (hh hs least (i + 1))) + (T' - T) * ind (S i ∧ S (i + 1))) hs.length := sumP_congr fun i _ => by
    have : T' - max (hh hs least i) (hh hs least (i + 1)) = (T - max (hh hs least i) (hh hs least (i + 1))) + (T' - T) := by omega
    rw [this, Int.mul_add, Int.mul_comm (ind (S i ∧ S (i + 1))) (T' - T)]
  rw [e1, e2, sumP_add, sumP_add, sumP_mul, sumP_mul, Int.mul_sub]; omega
theorem tgt_more {hs : List Int} {least T : Int} {S S' : Int → Prop} {fr : List Int} (hS : ∀ i, S' i ↔ S i ∨ i ∈ fr) (hf : ∀ i ∈ fr, hh hs least i = T) (hle : ∀ i, S' i → hh hs least i ≤ T) : tgt hs least S' T = tgt hs least S T := by
  unfold tgt
  have e1 : sumP (fun i => ind (S' i) * (T - hh hs least i)) hs.length = sumP (fun i => ind (S i) * (T - hh hs least i)) hs.length := sumP_congr fun i _ => by
    by_cases a : S i
    · rw [ind_t a, ind_t ((hS _).mpr (.inl a))]
    · by_cases b : S' i
      · have := hf _ (((hS _).mp b).resolve_left a)
        rw [this]; simp
      · rw [ind_f a, ind_f b]
  have e2 : sumP (fun i => ind (S' i ∧ S' (i + 1)) * (T - max (hh hs least i) (hh hs least (i + 1)))) hs.length = sumP (fun i => ind (S i ∧ S (i + 1)) * (T - max (hh hs least i) (hh hs least (i + 1)))) hs.length := sumP_congr fun i _ => by
    by_cases a : S i ∧ S (i + 1)
    · rw [ind_t a, ind_t ⟨(hS _).mpr (.inl a.1), (hS _).mpr (.inl a.2)⟩]
    · by_cases b : S' i ∧ S' (i + 1)
      · have h1 := hle _ b.1
        have h2 := hle _ b.2
        have : max (hh hs least i) (hh hs least (i + 1)) = T := by
          rcases (hS _).mp b.1 with c | c
          · rcases (hS _).mp b.2 with d | d
            · exact absurd ⟨c, d⟩ a
            · have := hf _ d; omega
          · have := hf _ c; omega
        rw [this]; simp
      · rw [ind_f a, ind_f b]
  rw [e1, e2]
def Tj (ds : List Int) (least : Int) (j : Nat) : Int := if j = 0 then 0 else ds.getD (j - 1) 0 - least
/-- behind j heights -/
structure Lv (hs ds : List Int) (least : Int) (j : Nat) (st : MS) : Prop where
  jj : J hs.length (Sj hs ds j) [] (Tj ds least j) (fun q => Sj hs ds j q ∧ Sj hs ds j (q + 1)) st
  w : Wt hs.length (Tj ds least j) st = tgt hs least (Sj hs ds j) (Tj ds least j)
  z : Sz hs.length st ≤ j * hs.length
theorem lv_step {hs ds : List Int} {least ht : Int} {j : Nat} {st : MS} (hj : ds[j]? = some ht) (hp : ds.Pairwise (· < ·)) (hm : ∀ k, k ∈ ds ↔ k ∈ hs) (hl : ∀ k ∈ hs, least ≤ k) (L : Lv hs ds least j st) : Lv hs ds least (j + 1) (level hs least st ht) := by
  have hjl : j < ds.length := (List.getElem?_eq_some_iff.mp hj).1
  have hje : ds[j] = ht := (List.getElem?_eq_some_iff.mp hj).2
  have hT' : Tj ds least (j + 1) = ht - least := by
    unfold Tj
    rw [if_neg (by omega), Nat.add_sub_cancel, List.getD_eq_getElem?_getD, hj]; rfl
  have hmem : ht ∈ hs := (hm ht).mp (List.mem_of_getElem? hj)
  have hT0 : 0 ≤ ht - least := by have := hl ht hmem; omega
  have hTT : Tj ds least j ≤ ht - least := by
    unfold Tj
    by_cases e : j = 0
    · rw [if_pos e]; exact hT0
    · rw [if_neg e]
      have := List.pairwise_iff_getElem.mp hp (j - 1) j (by omega) hjl (by omega)
      rw [List.getD_eq_getElem?_getD, List.getElem?_eq_getElem (show j - 1 < ds.length by omega)]
      simp only [Option.getD_some]
      omega
  have hS := sj_split hj hp hm
  have hSi := sj_next hj hp hm
  have hn : ∀ i ∈ idx hs ht, ¬ Sj hs ds j i := fun i hi => (idx_sub hj hp hm i hi).2
  have hf : ∀ i ∈ idx hs ht, Sj hs ds (j + 1) i := fun i hi => (idx_sub hj hp hm i hi).1
  have hfh : ∀ i ∈ idx hs ht, hh hs least i = ht - least := fun i hi => by
    unfold hh; rw [(mem_idx.mp hi).2.2]
  have hle : ∀ i, Sj hs ds (j + 1) i → hh hs least i ≤ ht - least := fun i hi => by
    have := (inS_iff.mp ((hSi i).mp hi)).2.2
    unfold hh; omega
  have j1 := L.jj.more hS hn (fun i hi => ⟨hi.1, hi.2.1⟩) hTT
  have w1 : Wt hs.length (ht - least) st = tgt hs least (Sj hs ds (j + 1)) (ht - least) := by
    rw [Wt_up L.jj, L.w, tgt_more hS hfh hle]; exact (tgt_up (T := Tj ds least j)).symm
  obtain ⟨j2, w2, z2⟩ := J.steps hSi hf (idx hs ht) j1 fun p hp' => hp'
  have j3 := j2.congr (P' := fun q => Sj hs ds (j + 1) q ∧ Sj hs ds (j + 1) (q + 1)) fun q => by
    constructor
    · intro h
      by_cases a : Sj hs ds j q
      · by_cases b : Sj hs ds j (q + 1)
        · exact .inl ⟨a, b⟩
        · exact .inr ⟨q + 1, ((hS _).mp h.2).resolve_left b, .inr (by omega), h⟩
      · exact .inr ⟨q, ((hS _).mp h.1).resolve_left a, .inl rfl, h⟩
    · rintro (h | ⟨_, _, _, h⟩)
      · exact ⟨(hS _).mpr (.inl h.1), (hS _).mpr (.inl h.2)⟩
      · exact h
  obtain ⟨j4, w4, z4⟩ := j3.done hT0 hf
  rw [← hT'] at j4 w4 z4 w1
  refine ⟨?_, ?_, ?_⟩
  · rw [hT'] at j4 ⊢; exact j4
  · have : level hs least st ht = (((idx hs ht).foldl (stepJ hs ht) st).1, settleM ((idx hs ht).foldl (stepJ hs ht) st).1 (ht - least) (idx hs ht) ((idx hs ht).foldl (stepJ hs ht) st).2) := rfl
    rw [this, ← hT', w4, ← w1, hT', w2]
  · have : level hs least st ht = (((idx hs ht).foldl (stepJ hs ht) st).1, settleM ((idx hs ht).foldl (stepJ hs ht) st).1 (ht - least) (idx hs ht) ((idx hs ht).foldl (stepJ hs ht) st).2) := rfl
    rw [this, ← hT']
    have hz := L.z
    have hil : (idx hs ht).length ≤ hs.length := by
      unfold idx
      rw [List.length_map]
      refine Nat.le_trans (List.length_filter_le _ _) ?_
      rw [List.length_range]; exact Nat.le_refl _
    have e : ((j + 1 : Nat) : Int) * (hs.length : Int) = (j : Int) * hs.length + hs.length := by
      rw [Int.natCast_add, Int.add_mul]; simp
    rw [e]
    omega
theorem lv_all {hs ds : List Int} {least : Int} (hp : ds.Pairwise (· < ·)) (hm : ∀ k, k ∈ ds ↔ k ∈ hs) (hl : ∀ k ∈ hs, least ≤ k) : ∀ j, j ≤ ds.length → Lv hs ds least j (rowSt hs least (ds.take j))
  | 0, _ => by
    have hn : ∀ i, ¬ Sj hs ds 0 i := fun i h => by have := h.2.2; simp at this
    have z : ∀ f : Int → Int, (∀ i, f i = 0) → ∀ n, sumP f n = 0 := fun f hf n => by
      rw [← sumP_zero n]; exact sumP_congr fun i _ => hf i
    refine ⟨⟨fun i hi => absurd hi (hn i), fun i _ => ⟨rfl, rfl⟩, fun i hi => absurd hi (hn i), fun m hm => absurd hm.1 (hn m), fun i k hi => absurd hi (hn i), ?_, fun i hi => absurd rfl hi, fun i hi => absurd hi (hn i), fun i r hr => by cases hr⟩, ?_, ?_⟩
    · rw [z _ (fun i => ind_f fun h => hn _ h.1), z _ (fun i => ind_f (hn _)), z _ (fun i => ind_f fun h => hn _ h.1)]; rfl
    · unfold Wt tgt
      rw [z (fun i => Es (Tj ds least 0) ((rowSt hs least (List.take 0 ds)).snd i)) (fun i => rfl), z _ (fun i => by rw [ind_f (hn _), Int.zero_mul]), z _ (fun i => by rw [ind_f (fun h => hn _ h.1), Int.zero_mul])]; rfl
    · unfold Sz
      rw [z (fun i => ((sizes ((rowSt hs least (List.take 0 ds)).snd i) : Nat) : Int)) (fun i => rfl)]; simp
  | j + 1, hj => by
    have e : ds[j]? = some ds[j] := List.getElem?_eq_getElem (by omega)
    rw [rowSt_take e]
    exact lv_step e hp hm hl (lv_all hp hm hl j (by omega))
/-- the greater ones of neighbours, added up -/
def nbMax (hs : List Int) : Int := sumP (fun j => max (hs.getD j.toNat 0) (hs.getD (j + 1).toNat 0)) (hs.length - 1)
theorem sumP_list (hs : List Int) : sumP (fun i => hs.getD i.toNat 0) hs.length = hs.sum := by
  have key : ∀ n, n ≤ hs.length → sumP (fun i => hs.getD i.toNat 0) n = (hs.take n).sum := by
    intro n
    induction n with
    | zero => intro _; simp [sumP]
    | succ n ih =>
      intro h
      simp only [sumP]
      have e : hs.take (n + 1) = hs.take n ++ [hs[n]] := by
        rw [List.take_add_one, List.getElem?_eq_getElem (show n < hs.length by omega)]; rfl
      rw [ih (by omega), e, List.sum_append]
      have : ((n : Int).toNat) = n := by omega
      rw [this, List.getD_eq_getElem?_getD, List.getElem?_eq_getElem (show n < hs.length by omega)]
      simp
  have := key hs.length (Nat.le_refl _)
  rwa [List.take_of_length_le (Nat.le_refl _)] at this
/-- what is left of the rank of the root of a row -/
theorem row_left {hs ds : List Int} {least : Int} (h0 : 0 < hs.length) (hp : ds.Pairwise (· < ·)) (hm : ∀ k, k ∈ ds ↔ k ∈ hs) (hl : ∀ k ∈ hs, least ≤ k) :
    left (rowRoot hs least ds) = least + nbMax hs - hs.sum ∧ Good (rowRoot hs least ds) ∧ size (rowRoot hs least ds) ≤ ds.length * hs.length ∧ dep (rowRoot hs least ds) ≤ max 1 ds.length ∧ (rowRoot hs least ds).h ≤ Tj ds least ds.length := by
  have L := lv_all hp hm hl ds.length (Nat.le_refl _)
  have O := (row_ok (least := least) hp hm ds.length (Nat.le_refl _)).1
  rw [List.take_of_length_le (Nat.le_refl _)] at L O
  generalize hT : Tj ds least ds.length = T at L
  have hS : ∀ i : Int, 0 ≤ i → i < hs.length → Sj hs ds ds.length i := fun i a b => ⟨a, b, by
    rw [List.take_of_length_le (Nat.le_refl _), hm, List.getD_eq_getElem?_getD, List.getElem?_eq_getElem (show i.toNat < hs.length by omega)]
    exact List.getElem_mem _⟩
  have hSr : ∀ i, Sj hs ds ds.length i → 0 ≤ i ∧ i < hs.length := fun i h => ⟨h.1, h.2.1⟩
  unfold rowRoot
  obtain ⟨Lj, Lw, Lz⟩ := L
  rw [hT] at Lj Lw
  generalize rowSt hs least ds = st at Lj Lw Lz O
  have h00 := hS 0 (Int.le_refl _) (by omega)
  obtain ⟨s0, r0⟩ := Lj.idem 0 h00
  obtain ⟨c0, c1⟩ := hSr _ s0
  have all : ∀ i, Sj hs ds ds.length i → st.1 i = st.1 0 := fun i hi => by
    have hr := hSr i hi
    exact ((Lj.conn 0 i h00 hi hr.1).mpr fun m m0 m1 => ⟨hS m m0 (by omega), hS (m + 1) (by omega) (by omega)⟩).symm
  have hone : (st.2 (st.1 0)).length = 1 := by
    rcases Lj.one _ s0 r0 with h | ⟨_, h, _⟩
    · exact h
    · cases h
  obtain ⟨r, hr⟩ : ∃ r, st.2 (st.1 0) = [r] := List.length_eq_one_iff.mp hone
  have hother : ∀ i, i ≠ st.1 0 → st.2 i = [] := fun i hi => by
    by_cases e : Sj hs ds ds.length i
    · refine Lj.non i fun z => hi ?_
      rw [← z]; exact all i e
    · exact (Lj.out i e).2
  rw [hr]
  show left r = _ ∧ Good r ∧ size r ≤ _ ∧ dep r ≤ _ ∧ r.h ≤ _
  have hw : Wt hs.length T st = E r + (T - r.h) := by
    unfold Wt
    rw [sumP_delta c0 c1 fun i _ hi => by rw [hother _ hi]; rfl, hr]
    simp only [Es]; omega
  refine ⟨?_, (Lj.good (st.1 0) r (by rw [hr]; exact List.mem_singleton_self r)).1, ?_, ?_, (Lj.good (st.1 0) r (by rw [hr]; exact List.mem_singleton_self r)).2⟩
  · have t1 : sumP (fun i => ind (Sj hs ds ds.length i) * (T - hh hs least i)) hs.length = sumP (fun i => (T + least) - hs.getD i.toNat 0) hs.length := sumP_congr fun i hi => by
      rw [ind_t (hS i (by omega) (by omega)), Int.one_mul]; unfold hh; omega
    have t2 : sumP (fun i => ind (Sj hs ds ds.length i ∧ Sj hs ds ds.length (i + 1)) * (T - max (hh hs least i) (hh hs least (i + 1)))) hs.length = sumP (fun i => (T + least) - max (hs.getD i.toNat 0) (hs.getD (i + 1).toNat 0)) (hs.length - 1) := by
      obtain ⟨n, hn⟩ : ∃ n, hs.length = n + 1 := ⟨hs.length - 1, by omega⟩
      rw [hn, Nat.add_sub_cancel]
      show sumP _ n + ind (Sj hs ds ds.length ((n : Nat) : Int) ∧ Sj hs ds ds.length (((n : Nat) : Int) + 1)) * _ = _
      rw [ind_f (p := Sj hs ds ds.length ((n : Nat) : Int) ∧ Sj hs ds ds.length (((n : Nat) : Int) + 1)) (fun h => by have := h.2.2.1; omega), Int.zero_mul, Int.add_zero]
      refine sumP_congr fun i hi => ?_
      rw [ind_t ⟨hS i (by omega) (by omega), hS (i + 1) (by omega) (by omega)⟩, Int.one_mul]; unfold hh; omega
    have cst : ∀ (c : Int) n, sumP (fun _ => c) n = c * n := fun c n => by
      induction n with
      | zero => simp [sumP]
      | succ n ih => simp only [sumP, ih, Int.natCast_add, Int.mul_add]; simp
    rw [hw] at Lw
    unfold tgt at Lw
    rw [t1, t2, sumP_sub, sumP_sub, cst, cst, sumP_list] at Lw
    have hc : ((hs.length - 1 : Nat) : Int) = (hs.length : Int) - 1 := by omega
    rw [hc, Int.mul_sub, Int.mul_one] at Lw
    have : sumP (fun i => max (hs.getD i.toNat 0) (hs.getD (i + 1).toNat 0)) (hs.length - 1) = nbMax hs := rfl
    rw [this] at Lw
    unfold left; omega
  · have : Sz hs.length st = size r := by
      unfold Sz
      rw [sumP_delta c0 c1 fun i _ hi => by rw [hother _ hi]; rfl, hr]
      simp only [sizes]; omega
    rw [this] at Lz
    have e : ((ds.length * hs.length : Nat) : Int) = (ds.length : Int) * hs.length := by rw [Int.natCast_mul]
    omega
  · have h1 := O.dep (st.1 0)
    rw [hr] at h1
    simp only [deps] at h1
    omega
end RankRow
set_option Elab.async false
set_option maxRecDepth 100000
set_option maxHeartbeats 4000000
set_option linter.all false
/-! SortR: the order of roots is total; sorted of a permutation. -/
namespace RT
open PySem PyProof.Rows PySem.W
mutual
theorem toks_inj : ∀ (a b : Rt) (l m : List (Int ⊕ List Nat)), keyToks (enc a) ++ l = keyToks (enc b) ++ m → a = b ∧ l = m
  | .mk h rs, .mk h' rs', l, m, e => by
    simp only [enc, keyToks, keyToksAll, List.cons_append, List.nil_append, List.append_assoc, List.cons.injEq, Sum.inl.injEq, true_and] at e
    obtain ⟨e1, e2⟩ := e
    obtain ⟨e3, e4⟩ := toksAll_inj rs rs' _ _ e2
    simp only [List.cons.injEq, true_and] at e4
    exact ⟨by rw [e1, e3], e4⟩
theorem toksAll_inj : ∀ (a b : List Rt) (l m : List (Int ⊕ List Nat)), keyToksAll (encs a) ++ l = keyToksAll (encs b) ++ m → a = b ∧ l = m
  | [], [], l, m, e => by
    simp only [encs, keyToksAll, List.cons_append, List.nil_append, List.cons.injEq, true_and] at e
    exact ⟨rfl, e⟩
  | [], _ :: _, l, m, e => by simp [encs, keyToksAll] at e
  | _ :: _, [], l, m, e => by simp [encs, keyToksAll] at e
  | r :: rs, r' :: rs', l, m, e => by
    simp only [encs, keyToksAll, List.cons_append, List.append_assoc, List.cons.injEq, true_and] at e
    obtain ⟨e1, e2⟩ := toks_inj r r' _ _ e
    obtain ⟨e3, e4⟩ := toksAll_inj rs rs' _ _ e2
    exact ⟨by rw [e1, e3], e4⟩
end
theorem rle_iff {a b : Rt} : rle a b = true ↔ lexLt itemOrd (keyToks (enc b)) (keyToks (enc a)) = false := by
  unfold rle
  rw [dataLe_eq]
  show (!dataLt (enc b) (enc a)) = true ↔ _
  unfold dataLt
  simp
theorem rle_trans (a b c : Rt) (h1 : rle a b = true) (h2 : rle b c = true) : rle a c = true := by
  rw [rle_iff] at h1 h2 ⊢
  cases e : lexLt itemOrd (keyToks (enc c)) (keyToks (enc a)) with
  | false => rfl
  | true =>
    rcases lex_negTrans _ (keyToks (enc b)) _ e with h | h
    · rw [h2] at h; cases h
    · rw [h1] at h; cases h
theorem rle_total (a b : Rt) : (rle a b || rle b a) = true := by
  rw [Bool.or_eq_true, rle_iff, rle_iff]
  cases e : lexLt itemOrd (keyToks (enc b)) (keyToks (enc a)) with
  | false => exact .inl rfl
  | true =>
    right
    cases e2 : lexLt itemOrd (keyToks (enc a)) (keyToks (enc b)) with
    | false => rfl
    | true =>
      have := lex_trans _ _ _ e e2
      rw [lex_irrefl] at this; cases this
theorem rle_anti {a b : Rt} (h1 : rle a b = true) (h2 : rle b a = true) : a = b := by
  rw [rle_iff] at h1 h2
  have := lex_total _ _ h1 h2
  exact ((toks_inj b a [] [] (by rw [this])).1).symm
theorem sortR_congr {a b : List Rt} (p : a.Perm b) : sortR a = sortR b := by
  refine List.Perm.eq_of_pairwise (le := fun x y => rle x y = true) (fun x y _ _ h1 h2 => rle_anti h1 h2) ?_ ?_ ?_
  · exact List.pairwise_mergeSort rle_trans rle_total a
  · exact List.pairwise_mergeSort rle_trans rle_total b
  · exact (sortR_perm a).trans (p.trans (sortR_perm b).symm)
end RT
set_option Elab.async false
set_option maxRecDepth 100000
set_option maxHeartbeats 4000000
set_option linter.all false
/-! RunRoot: the root of a run of heights, in plain Lean. -/
namespace RunRoot
open PySem RT
def push {α : Type} : List α → List (List α) → List (List α)
  | [], ss => ss
  | x :: c, ss => (x :: c) :: ss
def cut {α : Type} (p : α → Bool) : List α → List α × List (List α)
  | [] => ([], [])
  | x :: l => if p x = true then (x :: (cut p l).1, (cut p l).2) else ([], push (cut p l).1 (cut p l).2)
/-- the longest stretches all of which is p -/
def segs {α : Type} (p : α → Bool) (l : List α) : List (List α) := push (cut p l).1 (cut p l).2
section
variable {α β : Type} {p : α → Bool}
theorem push_app : ∀ (c : List α) (s t : List (List α)), push c (s ++ t) = push c s ++ t
  | [], _, _ => rfl
  | _ :: _, _, _ => rfl
theorem cut_all : ∀ {l : List α}, (∀ x ∈ l, p x = true) → cut p l = (l, [])
  | [], _ => rfl
  | x :: l, h => by
    rw [cut, if_pos (h x List.mem_cons_self), cut_all fun y hy => h y (List.mem_cons_of_mem _ hy)]
theorem segs_nil : segs p [] = [] := rfl
theorem segs_all {l : List α} (h : ∀ x ∈ l, p x = true) (hl : l ≠ []) : segs p l = [l] := by
  unfold segs
  rw [cut_all h]
  cases l with
  | nil => exact absurd rfl hl
  | cons x l => rfl
theorem cut_mid {x : α} {v : List α} (hx : p x = false) : ∀ u : List α, cut p (u ++ x :: v) = ((cut p u).1, (cut p u).2 ++ segs p v)
  | [] => by
    show cut p (x :: v) = ([], segs p v)
    rw [cut, if_neg (by simp [hx])]; rfl
  | y :: u => by
    rw [List.cons_append, cut, cut, cut_mid hx u]
    by_cases e : p y = true
    · rw [if_pos e, if_pos e]
    · rw [if_neg e, if_neg e, push_app]
theorem segs_mid {x : α} {u v : List α} (hx : p x = false) : segs p (u ++ x :: v) = segs p u ++ segs p v := by
  unfold segs
  rw [cut_mid hx, push_app]; rfl
theorem segs_skip {x : α} {v : List α} (hx : p x = false) : segs p (x :: v) = segs p v := segs_mid (u := []) hx
/-- either all of it, or there is one that is not -/
theorem split_or (p : α → Bool) (l : List α) : (∀ x ∈ l, p x = true) ∨ ∃ u x v, l = u ++ x :: v ∧ p x = false := by
  by_cases h : ∀ x ∈ l, p x = true
  · exact .inl h
  · right
    have : ∃ x, x ∈ l ∧ p x = false := by
      apply Classical.byContradiction
      intro n
      exact h fun x hx => by
        cases e : p x with
        | true => rfl
        | false => exact absurd ⟨x, hx, e⟩ n
    obtain ⟨x, hx, e⟩ := this
    obtain ⟨u, v, rfl⟩ := List.append_of_mem hx
    exact ⟨u, x, v, rfl, e⟩
theorem ind {motive : List α → Prop} (h0 : motive []) (h1 : ∀ l, l ≠ [] → (∀ x ∈ l, p x = true) → motive l) (h2 : ∀ u x v, p x = false → motive u → motive v → motive (u ++ x :: v)) : ∀ l, motive l := by
  intro l
  have key : ∀ n, ∀ l : List α, l.length ≤ n → motive l := by
    intro n
    induction n with
    | zero =>
      intro l hl
      have : l = [] := List.length_eq_zero_iff.mp (by omega)
      rw [this]; exact h0
    | succ n ih =>
      intro l hl
      rcases split_or p l with h | ⟨u, x, v, rfl, e⟩
      · by_cases hn : l = []
        · rw [hn]; exact h0
        · exact h1 l hn h
      · rw [List.length_append, List.length_cons] at hl
        exact h2 u x v e (ih u (by omega)) (ih v (by omega))
  exact key l.length l (Nat.le_refl _)
theorem segs_map {q : β → Bool} {f : α → β} (h : ∀ x, q (f x) = p x) (l : List α) : segs q (l.map f) = (segs p l).map (List.map f) := by
  refine ind (p := p) (motive := fun l => segs q (l.map f) = (segs p l).map (List.map f)) rfl (fun l hl ha => ?_) (fun u x v hx hu hv => ?_) l
  · rw [segs_all ha hl, segs_all (p := q) (fun y hy => ?_) (by simpa using hl)]
    · rfl
    · obtain ⟨x, hx, rfl⟩ := List.mem_map.mp hy
      rw [h]; exact ha x hx
  · rw [List.map_append, List.map_cons, segs_mid (by rw [h]; exact hx), segs_mid hx, hu, hv, List.map_append]
theorem segs_rev (l : List α) : segs p l.reverse = ((segs p l).map List.reverse).reverse := by
  refine ind (p := p) (motive := fun l => segs p l.reverse = ((segs p l).map List.reverse).reverse) rfl (fun l hl ha => ?_) (fun u x v hx hu hv => ?_) l
  · rw [segs_all ha hl, segs_all (fun y hy => ha y (List.mem_reverse.mp hy)) (by simpa using hl)]; rfl
  · have e : (u ++ x :: v).reverse = v.reverse ++ x :: u.reverse := by simp
    rw [e, segs_mid hx, segs_mid hx, hu, hv, List.map_append, List.reverse_append]
theorem segs_flat (l : List α) : (segs p l).flatten = l.filter p := by
  refine ind (p := p) (motive := fun l => (segs p l).flatten = l.filter p) rfl (fun l hl ha => ?_) (fun u x v hx hu hv => ?_) l
  · rw [segs_all ha hl, List.filter_eq_self.mpr ha]; simp
  · rw [segs_mid hx, List.flatten_append, hu, hv, List.filter_append, List.filter_cons, if_neg (by simp [hx])]
/-- what a stretch is -/
theorem segs_mem {l s : List α} (h : s ∈ segs p l) : s ≠ [] ∧ (∀ x ∈ s, p x = true) ∧ ∃ u v, l = u ++ s ++ v ∧ (u = [] ∨ ∃ u' z, u = u' ++ [z] ∧ p z = false) ∧ (v = [] ∨ ∃ z v', v = z :: v' ∧ p z = false) := by
  revert h
  refine ind (p := p) (motive := fun l => s ∈ segs p l → s ≠ [] ∧ (∀ x ∈ s, p x = true) ∧ ∃ u v, l = u ++ s ++ v ∧ (u = [] ∨ ∃ u' z, u = u' ++ [z] ∧ p z = false) ∧ (v = [] ∨ ∃ z v', v = z :: v' ∧ p z = false)) (fun h => absurd h (by simp [segs_nil])) (fun l hl ha h => ?_) (fun u x v hx hu hv h => ?_) l
  · rw [segs_all ha hl] at h
    obtain rfl := List.mem_singleton.mp h
    exact ⟨hl, ha, [], [], by simp, .inl rfl, .inl rfl⟩
  · rw [segs_mid hx] at h
    rcases List.mem_append.mp h with h | h
    · obtain ⟨h1, h2, u1, v1, rfl, h3, h4⟩ := hu h
      refine ⟨h1, h2, u1, v1 ++ x :: v, by simp, h3, .inr ?_⟩
      rcases h4 with e | ⟨z, v', e, hz⟩
      · exact ⟨x, v, by rw [e]; rfl, hx⟩
      · exact ⟨z, v' ++ x :: v, by rw [e]; rfl, hz⟩
    · obtain ⟨h1, h2, u1, v1, rfl, h3, h4⟩ := hv h
      refine ⟨h1, h2, u ++ x :: u1, v1, by simp, .inr ?_, h4⟩
      rcases h3 with e | ⟨u', z, e, hz⟩
      · exact ⟨u, x, by rw [e], hx⟩
      · exact ⟨u ++ x :: u', z, by rw [e]; simp, hz⟩
theorem segs_pre {u l : List α} (h : ∀ x ∈ u, p x = false) : segs p (u ++ l) = segs p l := by
  induction u with
  | nil => rfl
  | cons x u ih =>
    rw [List.cons_append, segs_skip (h x List.mem_cons_self), ih fun y hy => h y (List.mem_cons_of_mem _ hy)]
theorem segs_post {l v : List α} (h : ∀ x ∈ v, p x = false) : segs p (l ++ v) = segs p l := by
  cases v with
  | nil => rw [List.append_nil]
  | cons x v =>
    rw [segs_mid (h x List.mem_cons_self)]
    have e : segs p v = [] := by
      have := segs_pre (p := p) (u := v) (l := []) fun y hy => h y (List.mem_cons_of_mem _ hy)
      rwa [List.append_nil] at this
    rw [e, List.append_nil]
theorem le_sumN {n : Nat} : ∀ {ns : List Nat}, n ∈ ns → n ≤ ns.sum
  | m :: ns, h => by
    rw [List.sum_cons]
    rcases List.mem_cons.mp h with e | h
    · omega
    · have := le_sumN h; omega
theorem seg_len {l s : List α} (h : s ∈ segs p l) : s.length ≤ (l.filter p).length := by
  rw [← segs_flat, List.length_flatten]
  exact le_sumN (List.mem_map.mpr ⟨s, h, rfl⟩)
theorem seg_sub {l s : List α} (h : s ∈ segs p l) : ∀ x ∈ s, x ∈ l := by
  obtain ⟨_, _, u, v, rfl, _⟩ := segs_mem h
  intro x hx; simp [hx]
end
/-! ### the greatest -/
def mx : List Int → Int
  | [] => 0
  | [x] => x
  | x :: y :: l => max x (mx (y :: l))
theorem mx_mem : ∀ {l : List Int}, l ≠ [] → mx l ∈ l
  | [], h => absurd rfl h
  | [x], _ => by simp [mx]
  | x :: y :: l, _ => by
    have ih := mx_mem (l := y :: l) (by simp)
    simp only [mx]
    rcases Int.le_total x (mx (y :: l)) with h | h
    · rw [Int.max_eq_right h]; exact List.mem_cons_of_mem _ ih
    · rw [Int.max_eq_left h]; exact List.mem_cons_self
theorem le_mx : ∀ {l : List Int} {x : Int}, x ∈ l → x ≤ mx l
  | [], _, h => by cases h
  | [x], y, h => by rw [List.mem_singleton.mp h]; simp [mx]
  | x :: y :: l, z, h => by
    simp only [mx]
    rcases List.mem_cons.mp h with e | h
    · rw [e]; omega
    · have := le_mx h; omega
theorem mx_eq {l : List Int} {m : Int} (h : m ∈ l) (hl : ∀ x ∈ l, x ≤ m) : mx l = m := by
  have h1 := le_mx h
  have h2 := hl _ (mx_mem (List.ne_nil_of_mem h))
  omega
/-! ### the root -/
abbrev lt (t : Int) (x : Int) : Bool := decide (x < t)
def RV (least : Int) : Nat → List Int → Rt
  | 0, l => .mk (mx l - least) []
  | n + 1, l => match segs (lt (mx l)) l with
    | [] => .mk (mx l - least) []
    | [s] => RV least n s
    | s :: s' :: ss => .mk (mx l - least) (sortR ((s :: s' :: ss).map (RV least n)))
theorem RV_nil {least : Int} {n : Nat} {l : List Int} (h : segs (lt (mx l)) l = []) : RV least (n + 1) l = .mk (mx l - least) [] := by rw [RV, h]
theorem RV_one {least : Int} {n : Nat} {l s : List Int} (h : segs (lt (mx l)) l = [s]) : RV least (n + 1) l = RV least n s := by rw [RV, h]
theorem RV_many {least : Int} {n : Nat} {l : List Int} (h : 1 < (segs (lt (mx l)) l).length) : RV least (n + 1) l = .mk (mx l - least) (sortR ((segs (lt (mx l)) l).map (RV least n))) := by
  rw [RV]
  match e : segs (lt (mx l)) l, h with
  | s :: s' :: ss, _ => rfl
theorem three {α : Type} (l : List α) : l = [] ∨ (∃ s, l = [s]) ∨ 1 < l.length := by
  match l with
  | [] => exact .inl rfl
  | [s] => exact .inr (.inl ⟨s, rfl⟩)
  | s :: s' :: l => right; right; simp
theorem seg_less {l s : List Int} (h : s ∈ segs (lt (mx l)) l) : s.length < l.length := by
  have hl : l ≠ [] := fun e => by rw [e] at h; cases h
  refine Nat.lt_of_le_of_lt (seg_len h) ?_
  refine List.length_filter_lt_length_iff_exists.mpr ⟨mx l, mx_mem hl, by simp [lt]⟩
theorem RV_up {least : Int} : ∀ {n : Nat} {l : List Int}, l.length ≤ n → RV least (n + 1) l = RV least n l
  | 0, l, h => by
    have : l = [] := List.length_eq_zero_iff.mp (by omega)
    subst this; rfl
  | n + 1, l, h => by
    rcases three (segs (lt (mx l)) l) with e | ⟨s, e⟩ | e
    · rw [RV_nil e, RV_nil e]
    · rw [RV_one e, RV_one e]
      exact RV_up (by have := seg_less (l := l) (s := s) (by rw [e]; exact List.mem_singleton_self s); omega)
    · rw [RV_many e, RV_many e]
      congr 2
      refine List.map_congr_left fun s hs => RV_up (by have := seg_less hs; omega)
def R (least : Int) (l : List Int) : Rt := RV least l.length l
theorem RV_ge {least : Int} {l : List Int} : ∀ {n : Nat}, l.length ≤ n → RV least n l = R least l := by
  intro n h
  induction n with
  | zero =>
    have : l.length = 0 := by omega
    unfold R; rw [this]
  | succ n ih =>
    by_cases e : l.length ≤ n
    · rw [RV_up e, ih e]
    · have : l.length = n + 1 := by omega
      unfold R; rw [this]
theorem R_nil {least : Int} {l : List Int} (h : segs (lt (mx l)) l = []) : R least l = .mk (mx l - least) [] := by
  rw [← RV_ge (n := l.length + 1) (by omega), RV_nil h]
theorem R_one {least : Int} {l s : List Int} (h : segs (lt (mx l)) l = [s]) : R least l = R least s := by
  have := seg_less (l := l) (s := s) (by rw [h]; exact List.mem_singleton_self s)
  rw [← RV_ge (n := l.length + 1) (by omega), RV_one h, RV_ge (by omega)]
theorem R_many {least : Int} {l : List Int} (h : 1 < (segs (lt (mx l)) l).length) : R least l = .mk (mx l - least) (sortR ((segs (lt (mx l)) l).map (R least))) := by
  rw [← RV_ge (n := l.length + 1) (by omega), RV_many h]
  congr 2
  refine List.map_congr_left fun s hs => RV_ge (by have := seg_less hs; omega)
/-! ### what leaves it -/
theorem RV_rev {least : Int} : ∀ (n : Nat) (l : List Int), RV least n l.reverse = RV least n l := by
  have hm : ∀ l : List Int, mx l.reverse = mx l := fun l => by
    by_cases e : l = []
    · rw [e]; rfl
    · exact mx_eq (List.mem_reverse.mpr (mx_mem e)) fun x hx => le_mx (List.mem_reverse.mp hx)
  intro n
  induction n with
  | zero => intro l; rw [RV, RV, hm]
  | succ n ih =>
    intro l
    have e := segs_rev (p := lt (mx l)) l
    rcases three (segs (lt (mx l)) l) with h | ⟨s, h⟩ | h
    · rw [RV_nil h, RV_nil (by rw [hm, e, h]; rfl), hm]
    · rw [RV_one h, RV_one (s := s.reverse) (by rw [hm, e, h]; rfl), ih]
    · rw [RV_many h, RV_many (by rw [hm, e]; simpa using h), hm, e]
      congr 1
      refine sortR_congr ?_
      refine (List.Perm.map _ (List.reverse_perm _)).trans ?_
      rw [List.map_map]
      have : (segs (lt (mx l)) l).map (RV least n ∘ List.reverse) = (segs (lt (mx l)) l).map (RV least n) := List.map_congr_left fun s _ => ih s
      rw [this]
theorem R_rev {least : Int} (l : List Int) : R least l.reverse = R least l := by
  unfold R; rw [List.length_reverse, RV_rev]
theorem mx_add {c : Int} {l : List Int} (h : l ≠ []) : mx (l.map (· + c)) = mx l + c :=
  mx_eq (List.mem_map.mpr ⟨_, mx_mem h, rfl⟩) fun x hx => by
    obtain ⟨y, hy, rfl⟩ := List.mem_map.mp hx
    have := le_mx hy; omega
theorem RV_add {least c : Int} : ∀ (n : Nat) (l : List Int), l ≠ [] → RV (least + c) n (l.map (· + c)) = RV least n l := by
  intro n
  induction n with
  | zero => intro l hl; rw [RV, RV, mx_add hl]; congr 1; omega
  | succ n ih =>
    intro l hl
    have e : segs (lt (mx (l.map (· + c)))) (l.map (· + c)) = (segs (lt (mx l)) l).map (List.map (· + c)) := segs_map (fun x => by rw [mx_add hl]; unfold lt; congr 1; apply propext; constructor <;> intro h <;> omega) l
    have hm : mx (l.map (· + c)) - (least + c) = mx l - least := by rw [mx_add hl]; omega
    rcases three (segs (lt (mx l)) l) with h | ⟨s, h⟩ | h
    · rw [RV_nil h, RV_nil (by rw [e, h]; rfl), hm]
    · have hs := (segs_mem (l := l) (s := s) (p := lt (mx l)) (by rw [h]; exact List.mem_singleton_self s)).1
      rw [RV_one h, RV_one (s := s.map (· + c)) (by rw [e, h]; rfl), ih s hs]
    · rw [RV_many h, RV_many (by rw [e]; simpa using h), hm, e, List.map_map]
      congr 2
      exact List.map_congr_left fun s hs => ih s (segs_mem hs).1
theorem R_add {least c : Int} {l : List Int} (hl : l ≠ []) : R (least + c) (l.map (· + c)) = R least l := by
  unfold R; rw [List.length_map, RV_add _ _ hl]
def dbl : List Int → List Int
  | [] => []
  | x :: l => x :: x :: dbl l
theorem dbl_mem {x : Int} : ∀ {l : List Int}, x ∈ dbl l ↔ x ∈ l
  | [] => Iff.rfl
  | y :: l => by simp [dbl, dbl_mem (l := l)]
theorem dbl_app (u v : List Int) : dbl (u ++ v) = dbl u ++ dbl v := by
  induction u with
  | nil => rfl
  | cons x u ih => simp [dbl, ih]
theorem dbl_len (l : List Int) : (dbl l).length = 2 * l.length := by
  induction l with
  | nil => rfl
  | cons x l ih => simp only [dbl, List.length_cons, ih]; omega
theorem dbl_ne {l : List Int} (h : l ≠ []) : dbl l ≠ [] := by cases l <;> simp [dbl] at *
theorem segs_dbl {p : Int → Bool} (l : List Int) : segs p (dbl l) = (segs p l).map dbl := by
  refine ind (p := p) (motive := fun l => segs p (dbl l) = (segs p l).map dbl) rfl (fun l hl ha => ?_) (fun u x v hx hu hv => ?_) l
  · rw [segs_all ha hl, segs_all (fun y hy => ha y (dbl_mem.mp hy)) (dbl_ne hl)]; rfl
  · rw [dbl_app, dbl, segs_mid hx, segs_skip hx, segs_mid hx, hu, hv, List.map_append]
theorem RV_dbl {least : Int} : ∀ (n : Nat) (l : List Int), RV least n (dbl l) = RV least n l := by
  have hm : ∀ l : List Int, mx (dbl l) = mx l := fun l => by
    by_cases e : l = []
    · rw [e]; rfl
    · exact mx_eq (dbl_mem.mpr (mx_mem e)) fun x hx => le_mx (dbl_mem.mp hx)
  intro n
  induction n with
  | zero => intro l; rw [RV, RV, hm]
  | succ n ih =>
    intro l
    have e := segs_dbl (p := lt (mx l)) l
    rcases three (segs (lt (mx l)) l) with h | ⟨s, h⟩ | h
    · rw [RV_nil h, RV_nil (by rw [hm, e, h]; rfl), hm]
    · rw [RV_one h, RV_one (s := dbl s) (by rw [hm, e, h]; rfl), ih]
    · rw [RV_many h, RV_many (by rw [hm, e]; simpa using h), hm, e, List.map_map]
      congr 2
      exact List.map_congr_left fun s _ => ih s
theorem R_dbl {least : Int} (l : List Int) : R least (dbl l) = R least l := by
  have : R least (dbl l) = RV least (2 * l.length) (dbl l) := by unfold R; rw [dbl_len]
  rw [this, RV_dbl, RV_ge (by omega)]
theorem asc_split {t : Int} : ∀ {l : List Int}, l.Pairwise (· ≤ ·) → ∃ u v, l = u ++ v ∧ (∀ x ∈ u, lt t x = true) ∧ ∀ x ∈ v, lt t x = false
  | [], _ => ⟨[], [], rfl, by simp, by simp⟩
  | x :: l, h => by
    obtain ⟨h1, h2⟩ := List.pairwise_cons.mp h
    by_cases e : x < t
    · obtain ⟨u, v, rfl, hu, hv⟩ := asc_split (t := t) h2
      refine ⟨x :: u, v, rfl, fun y hy => ?_, hv⟩
      rcases List.mem_cons.mp hy with z | hy
      · rw [z]; simp [lt, e]
      · exact hu y hy
    · refine ⟨[], x :: l, rfl, by simp, fun y hy => ?_⟩
      have : x ≤ y := by
        rcases List.mem_cons.mp hy with z | hy
        · rw [z]; exact Int.le_refl _
        · exact h1 y hy
      simp only [lt, decide_eq_false_iff_not]; omega
/-- a row that rises has one part alone -/
theorem R_asc {least : Int} : ∀ {l : List Int} {x : Int}, (x :: l).Pairwise (· ≤ ·) → R least (x :: l) = .mk (x - least) [] := by
  have key : ∀ n, ∀ (l : List Int) (x : Int), l.length ≤ n → (x :: l).Pairwise (· ≤ ·) → R least (x :: l) = .mk (x - least) [] := by
    intro n
    induction n with
    | zero =>
      intro l x hl h
      have : l = [] := List.length_eq_zero_iff.mp (by omega)
      subst this
      rw [R_nil]
      · rfl
      · simp [segs, cut, mx, lt, push]
    | succ n ih =>
      intro l x hl h
      obtain ⟨u, v, e, hu, hv⟩ := asc_split (t := mx (x :: l)) h
      have hseg : segs (lt (mx (x :: l))) (x :: l) = segs (lt (mx (x :: l))) u := by
        rw [show segs (lt (mx (x :: l))) (x :: l) = segs (lt (mx (x :: l))) (u ++ v) by rw [← e]]
        exact segs_post hv
      match u, e, hu with
      | [], e, _ =>
        have e : x :: l = v := e
        have hx : lt (mx (x :: l)) x = false := hv x (by rw [← e]; exact List.mem_cons_self)
        have h2 := le_mx (l := x :: l) List.mem_cons_self
        rw [R_nil (by rw [hseg]; rfl)]
        have : mx (x :: l) = x := by
          simp only [lt, decide_eq_false_iff_not] at hx; omega
        rw [this]
      | y :: u, e, hu =>
        have e : x :: l = y :: (u ++ v) := e
        obtain ⟨rfl, rfl⟩ := List.cons.inj e
        have h1 : segs (lt (mx (x :: (u ++ v)))) (x :: (u ++ v)) = [x :: u] := by rw [hseg]; exact segs_all hu (by simp)
        rw [R_one h1]
        have hless := seg_less (l := x :: (u ++ v)) (s := x :: u) (by rw [h1]; exact List.mem_singleton_self _)
        simp only [List.length_cons] at hless
        refine ih u x (by omega) ?_
        have h' : (x :: u ++ v).Pairwise (· ≤ ·) := h
        exact (List.pairwise_append.mp h').1
  intro l x h
  exact key l.length l x (Nat.le_refl _) h
end RunRoot
set_option Elab.async false
set_option maxRecDepth 100000
set_option maxHeartbeats 4000000
set_option linter.all false
/-! RunRow: what root_of_row's mirror gives is the root of the run, in plain Lean. -/
namespace RunRow
open PySem RT Row RankRow RunRoot
def ivl (a : Int) (n : Nat) : List Int := (List.range n).map fun k : Nat => a + k
theorem mem_ivl {a i : Int} {n : Nat} : i ∈ ivl a n ↔ a ≤ i ∧ i < a + n := by
  unfold ivl
  rw [List.mem_map]
  constructor
  · rintro ⟨k, hk, rfl⟩
    have := List.mem_range.mp hk
    omega
  · rintro ⟨h1, h2⟩
    exact ⟨(i - a).toNat, List.mem_range.mpr (by omega), by omega⟩
theorem ivl_len (a : Int) (n : Nat) : (ivl a n).length = n := by unfold ivl; rw [List.length_map, List.length_range]
theorem ivl_nodup (a : Int) (n : Nat) : (ivl a n).Nodup := by
  unfold ivl
  refine List.pairwise_map.mpr (List.pairwise_lt_range.imp fun h => ?_)
  omega
theorem ivl_get {a : Int} {n k : Nat} (h : k < n) : (ivl a n)[k]? = some (a + k) := by
  unfold ivl
  rw [List.getElem?_map, List.getElem?_range h]; rfl
/-- a piece of an interval is one -/
theorem ivl_piece {a : Int} {n : Nat} {u s v : List Int} (h : ivl a n = u ++ s ++ v) : s = ivl (a + u.length) s.length ∧ n = u.length + s.length + v.length := by
  have hn : n = u.length + s.length + v.length := by
    have := congrArg List.length h
    rw [ivl_len, List.length_append, List.length_append] at this; exact this
  refine ⟨?_, hn⟩
  refine List.ext_getElem? fun k => ?_
  by_cases e : k < s.length
  · rw [ivl_get e]
    have h1 : (ivl a n)[u.length + k]? = some (a + (u.length + k : Nat)) := ivl_get (by omega)
    rw [h, List.getElem?_append_left (by rw [List.length_append]; omega), List.getElem?_append_right (by omega), Nat.add_sub_cancel_left] at h1
    rw [h1]
    congr 1
    omega
  · rw [List.getElem?_eq_none (by omega), List.getElem?_eq_none (by rw [ivl_len]; omega)]
theorem ivl_last {a z : Int} {n : Nat} {u s v : List Int} (h : ivl a n = (u ++ [z]) ++ s ++ v) : z = a + (u ++ [z]).length - 1 := by
  have h1 : (ivl a n)[u.length]? = some (a + u.length) := ivl_get (by
    have := congrArg List.length h
    rw [ivl_len] at this
    simp only [List.length_append, List.length_cons, List.length_nil] at this; omega)
  rw [h] at h1
  simp at h1
  rw [List.length_append, List.length_singleton]; omega
theorem ivl_next {a z : Int} {n : Nat} {u s v : List Int} (h : ivl a n = u ++ s ++ (z :: v)) : z = a + (u.length + s.length) := by
  have h1 : (ivl a n)[u.length + s.length]? = some (a + (u.length + s.length : Nat)) := ivl_get (by
    have := congrArg List.length h
    rw [ivl_len] at this
    simp only [List.length_append, List.length_cons] at this; omega)
  rw [h, List.getElem?_append_right (by rw [List.length_append]; exact Nat.le_refl _), List.length_append, Nat.sub_self, List.getElem?_cons_zero] at h1
  have := Option.some.inj h1
  omega
section
variable {α : Type}
theorem flm_one {l : List Int} {f : Int → List α} {h : Int} (hd : l.Nodup) (hh : h ∈ l) (ho : ∀ i ∈ l, i ≠ h → f i = []) : l.flatMap f = f h := by
  obtain ⟨u, v, rfl⟩ := List.append_of_mem hh
  have hd' := List.nodup_append.mp hd
  have hu : u.flatMap f = [] := List.flatMap_eq_nil_iff.mpr fun i hi => ho i (by simp [hi]) (hd'.2.2 i hi h List.mem_cons_self)
  have hv : v.flatMap f = [] := List.flatMap_eq_nil_iff.mpr fun i hi => ho i (by simp [hi]) (fun e => by
    have := (List.nodup_cons.mp hd'.2.1).1
    rw [e] at hi; exact this hi)
  rw [List.flatMap_append, List.flatMap_cons, hu, hv]; simp
theorem flm_congr {l : List Int} {f g : Int → List α} (h : ∀ i ∈ l, f i = g i) : l.flatMap f = l.flatMap g := by
  rw [List.flatMap_def, List.flatMap_def, List.map_congr_left h]
/-- what moves from one place to another leaves the whole -/
theorem flm_move {l : List Int} {f g : Int → List α} {u v : Int} (hd : l.Nodup) (hu : u ∈ l) (hv : v ∈ l) (hne : u ≠ v) (gu : g u = []) (gv : g v = f u ++ f v) (ho : ∀ i, i ≠ u → i ≠ v → g i = f i) : (l.flatMap g).Perm (l.flatMap f) := by
  have p1 := List.perm_cons_erase hu
  have hv1 : v ∈ l.erase u := (List.mem_erase_of_ne hne.symm).mpr hv
  have p2 := List.perm_cons_erase hv1
  have p : l.Perm (u :: v :: (l.erase u).erase v) := p1.trans (List.Perm.cons u p2)
  have hd1 : (l.erase u).Nodup := hd.erase u
  have hrest : ((l.erase u).erase v).flatMap g = ((l.erase u).erase v).flatMap f := flm_congr fun i hi => ho i (fun e => by
    rw [e] at hi
    have h1 := List.mem_of_mem_erase hi
    exact (hd.not_mem_erase) h1) (fun e => by
    rw [e] at hi
    exact hd1.not_mem_erase hi)
  refine (p.flatMap_right g).trans (List.Perm.trans ?_ (p.flatMap_right f).symm)
  rw [List.flatMap_cons, List.flatMap_cons, List.flatMap_cons, List.flatMap_cons, gu, gv, hrest]
  simp
end
/-- what settle does at a head -/
def one (T : Int) (l : List Rt) : List Rt := if l = [] then [.mk T []] else if 1 < l.length then [.mk T (sortR l)] else l
theorem one_len (T : Int) (l : List Rt) : (one T l).length = 1 := by
  unfold one
  split
  · rfl
  · split
    · rfl
    · rename_i h1 h2
      have : l.length ≠ 0 := fun e => h1 (List.length_eq_zero_iff.mp e)
      omega
theorem one_of_len {T : Int} {l : List Rt} (h : l.length = 1) : one T l = l := by
  unfold one
  rw [if_neg (fun e => by rw [e] at h; cases h), if_neg (by omega)]
theorem settle1_one {rep : Int → Int} {T : Int} {R : Int → List Rt} {x h : Int} : settle1 rep T R x h = if rep x = h then one T (R h) else R h := by
  by_cases e : rep x = h
  · rw [if_pos e]
    unfold settle1 one
    subst e
    split
    · simp
    · split
      · simp
      · rfl
  · rw [if_neg e]
    exact settle1_at.1 (Ne.symm e)
theorem settleM_one' {rep : Int → Int} {T : Int} {h : Int} : ∀ (fr : List Int) (R : Int → List Rt), ((∃ x ∈ fr, rep x = h) → settleM rep T fr R h = one T (R h)) ∧ ((∀ x ∈ fr, rep x ≠ h) → settleM rep T fr R h = R h)
  | [], R => ⟨fun h => (by obtain ⟨_, h, _⟩ := h; cases h), fun _ => rfl⟩
  | x :: fr, R => by
    obtain ⟨ih1, ih2⟩ := settleM_one' (rep := rep) (T := T) (h := h) fr (settle1 rep T R x)
    have e : settleM rep T (x :: fr) R h = settleM rep T fr (settle1 rep T R x) h := rfl
    constructor
    · rintro ⟨y, hy, hyh⟩
      rw [e]
      by_cases c : ∃ z ∈ fr, rep z = h
      · rw [ih1 c, settle1_one]
        by_cases d : rep x = h
        · rw [if_pos d]; exact one_of_len (one_len _ _)
        · rw [if_neg d]
      · have c' : ∀ z ∈ fr, rep z ≠ h := fun z hz q => c ⟨z, hz, q⟩
        rw [ih2 c', settle1_one]
        rcases List.mem_cons.mp hy with q | q
        · rw [if_pos (by rw [← q]; exact hyh)]
        · exact absurd hyh (c' y q)
    · intro hn
      rw [e, ih2 fun z hz => hn z (List.mem_cons_of_mem _ hz), settle1_one, if_neg (hn x List.mem_cons_self)]
/-! ### the joins leave what stands in a part -/
section
variable {N : Nat} {S : Int → Prop} {fr : List Int} {T : Int} {P : Int → Prop} {st : MS} {a : Int} {n : Nat}
theorem rep_in (j : J N S fr T P st) (hl : ¬ S (a - 1)) (hr : ¬ S (a + n)) {x : Int} (hx : S x) : st.1 x ∈ ivl a n ↔ x ∈ ivl a n := by
  obtain ⟨sx, rx⟩ := j.idem x hx
  have tie : ∀ m, (x ≤ m ∧ m < st.1 x) ∨ (st.1 x ≤ m ∧ m < x) → S m ∧ S (m + 1) := fun m hm => by
    rcases hm with ⟨h1, h2⟩ | ⟨h1, h2⟩
    · exact j.tie m ((j.conn x (st.1 x) hx sx (by omega)).mp rx.symm m h1 h2)
    · exact j.tie m ((j.conn (st.1 x) x sx hx (by omega)).mp rx m h1 h2)
  have nl : ¬ ((x ≤ a - 1 ∧ a - 1 < st.1 x) ∨ (st.1 x ≤ a - 1 ∧ a - 1 < x)) := fun h => hl (tie _ h).1
  have nr : ¬ ((x ≤ a + n - 1 ∧ a + n - 1 < st.1 x) ∨ (st.1 x ≤ a + n - 1 ∧ a + n - 1 < x)) := fun h => hr (by have := (tie _ h).2; rwa [show a + n - 1 + 1 = a + n by omega] at this)
  rw [mem_ivl, mem_ivl]; omega
theorem join_flm (j : J N S fr T P st) (hl : ¬ S (a - 1)) (hr : ¬ S (a + n)) {x y : Int} (hx : S x) (hy : S y) (hxy : x ∈ ivl a n ↔ y ∈ ivl a n) : ((ivl a n).flatMap (joinM st x y).2).Perm ((ivl a n).flatMap st.2) := by
  unfold joinM
  by_cases e : st.1 x = st.1 y
  · rw [if_pos e]
  · rw [if_neg e]
    have hrx := rep_in j hl hr hx
    have hry := rep_in j hl hr hy
    have Ru : joinR st.1 st.2 x y (st.1 x) = [] := by unfold joinR; rw [if_neg e, if_pos rfl]
    have Rv : joinR st.1 st.2 x y (st.1 y) = st.2 (st.1 x) ++ st.2 (st.1 y) := by unfold joinR; rw [if_pos rfl]
    have Ro : ∀ i, i ≠ st.1 x → i ≠ st.1 y → joinR st.1 st.2 x y i = st.2 i := fun i h1 h2 => by unfold joinR; rw [if_neg h2, if_neg h1]
    by_cases c : x ∈ ivl a n
    · exact flm_move (ivl_nodup a n) (hrx.mpr c) (hry.mpr (hxy.mp c)) e Ru Rv Ro
    · show ((ivl a n).flatMap (joinR st.1 st.2 x y)).Perm _
      rw [flm_congr (g := st.2) fun i hi => Ro i (fun q => c (hrx.mp (by rw [← q]; exact hi))) (fun q => c (hxy.mpr (hry.mp (by rw [← q]; exact hi))))]
theorem near_in (hl : ¬ S (a - 1)) (hr : ¬ S (a + n)) {x y : Int} (hx : S x) (hy : S y) (hxy : y = x - 1 ∨ y = x + 1) : x ∈ ivl a n ↔ y ∈ ivl a n := by
  have h1 : x ≠ a - 1 := fun e => hl (e ▸ hx)
  have h2 : y ≠ a - 1 := fun e => hl (e ▸ hy)
  have h3 : x ≠ a + n := fun e => hr (e ▸ hx)
  have h4 : y ≠ a + n := fun e => hr (e ▸ hy)
  rw [mem_ivl, mem_ivl]; omega
theorem nb_flm {hs : List Int} {ht : Int} (j : J N S fr T P st) (hS : ∀ i, S i ↔ inS hs ht i = true) (hl : ¬ S (a - 1)) (hr : ¬ S (a + n)) {p o : Int} (hp : S p) (ho : o = p - 1 ∨ o = p + 1) : ((ivl a n).flatMap (nb hs ht p st o).2).Perm ((ivl a n).flatMap st.2) := by
  unfold nb
  by_cases e : inS hs ht o = true
  · rw [if_pos e]
    have hoS := (hS o).mpr e
    exact join_flm j hl hr hp hoS (near_in hl hr hp hoS ho)
  · rw [if_neg e]
end
theorem steps_flm {hs : List Int} {ht : Int} {N : Nat} {S : Int → Prop} {fr : List Int} {T : Int} {a : Int} {n : Nat} (hS : ∀ i, S i ↔ inS hs ht i = true) (hf : ∀ p ∈ fr, S p) (hl : ¬ S (a - 1)) (hr : ¬ S (a + n)) : ∀ (l : List Int) {P : Int → Prop} {st : MS}, J N S fr T P st → (∀ p ∈ l, p ∈ fr) →
    ((ivl a n).flatMap (l.foldl (stepJ hs ht) st).2).Perm ((ivl a n).flatMap st.2)
  | [], P, st, j, _ => List.Perm.refl _
  | p :: l, P, st, j, h => by
    have hp := h p List.mem_cons_self
    obtain ⟨j1, _, _⟩ := j.nb hS (o := p - 1) (m := p - 1) hp (hf p hp) (.inr ⟨by omega, rfl⟩)
    obtain ⟨j2, _, _⟩ := j1.nb hS (o := p + 1) (m := p) hp (hf p hp) (.inl ⟨rfl, rfl⟩)
    have p1 := nb_flm j hS hl hr (hf p hp) (o := p - 1) (.inl rfl)
    have p2 := nb_flm j1 hS hl hr (hf p hp) (o := p + 1) (.inr rfl)
    exact (steps_flm hS hf hl hr l j2 fun q hq => h q (List.mem_cons_of_mem _ hq)).trans (p2.trans p1)
def vals (hs : List Int) (l : List Int) : List Int := l.map fun i => hs.getD i.toNat 0
/-- each part has its root -/
def FI (hs : List Int) (least : Int) (S : Int → Prop) (Rm : Int → List Rt) : Prop := ∀ (a : Int) (n : Nat), 0 < n → (∀ i ∈ ivl a n, S i) → ¬ S (a - 1) → ¬ S (a + n) → (ivl a n).flatMap Rm = [R least (vals hs (ivl a n))]
theorem flm_segs {α : Type} {p : Int → Bool} {f : Int → List α} (hf : ∀ i, p i = false → f i = []) (l : List Int) : l.flatMap f = (segs p l).flatMap fun s => s.flatMap f := by
  refine ind (p := p) (motive := fun l => l.flatMap f = (segs p l).flatMap fun s => s.flatMap f) rfl (fun l hl ha => ?_) (fun u x v hx hu hv => ?_) l
  · rw [segs_all ha hl]; simp
  · rw [segs_mid hx, List.flatMap_append, List.flatMap_append, List.flatMap_cons, hf x hx, hu, hv, List.nil_append]
theorem one_root {hs : List Int} {least ht : Int} {l : List Int} {c : List Rt} (hmx : mx (vals hs l) = ht) (hc : c.Perm ((segs (fun i => lt ht (hs.getD i.toNat 0)) l).map fun s => R least (vals hs s))) : one (ht - least) c = [R least (vals hs l)] := by
  have e : segs (lt (mx (vals hs l))) (vals hs l) = (segs (fun i => lt ht (hs.getD i.toNat 0)) l).map (vals hs) := by
    rw [hmx]
    exact segs_map (fun _ => rfl) l
  rcases three (segs (fun i => lt ht (hs.getD i.toNat 0)) l) with h | ⟨s, h⟩ | h
  · rw [h] at hc e
    have : c = [] := List.Perm.eq_nil hc
    rw [this, R_nil (l := vals hs l) (by rw [e]; rfl), hmx]; rfl
  · rw [h] at hc e
    have : c = [R least (vals hs s)] := List.perm_singleton.mp hc
    rw [this, R_one (l := vals hs l) (s := vals hs s) (by rw [e]; rfl)]; exact one_of_len (l := [R least (vals hs s)]) rfl
  · have hl := hc.length_eq
    rw [List.length_map] at hl
    unfold one
    rw [if_neg (fun z => by rw [z] at hl; have hl : 0 = _ := hl; omega), if_pos (by omega), R_many (l := vals hs l) (by rw [e, List.length_map]; exact h), e, hmx, List.map_map]
    congr 2
    exact sortR_congr hc
theorem fi_step {hs ds : List Int} {least ht : Int} {j : Nat} {st : MS} (hj : ds[j]? = some ht) (hp : ds.Pairwise (· < ·)) (hm : ∀ k, k ∈ ds ↔ k ∈ hs) (hl : ∀ k ∈ hs, least ≤ k) (L : Lv hs ds least j st) (F : FI hs least (Sj hs ds j) st.2) : FI hs least (Sj hs ds (j + 1)) (level hs least st ht).2 := by
  intro a n hn hin hla hra
  have hS := sj_split hj hp hm
  have hSi := sj_next hj hp hm
  have hjl : j < ds.length := (List.getElem?_eq_some_iff.mp hj).1
  have hje : ds[j] = ht := (List.getElem?_eq_some_iff.mp hj).2
  have hmem : ht ∈ hs := (hm ht).mp (List.mem_of_getElem? hj)
  have hT0 : 0 ≤ ht - least := by have := hl ht hmem; omega
  have hTT : Tj ds least j ≤ ht - least := by
    unfold Tj
    by_cases e : j = 0
    · rw [if_pos e]; exact hT0
    · rw [if_neg e]
      have := List.pairwise_iff_getElem.mp hp (j - 1) j (by omega) hjl (by omega)
      rw [List.getD_eq_getElem?_getD, List.getElem?_eq_getElem (show j - 1 < ds.length by omega)]
      simp only [Option.getD_some]
      omega
  have hnf : ∀ i ∈ idx hs ht, ¬ Sj hs ds j i := fun i hi => (idx_sub hj hp hm i hi).2
  have hf : ∀ i ∈ idx hs ht, Sj hs ds (j + 1) i := fun i hi => (idx_sub hj hp hm i hi).1
  have j1 := L.jj.more hS hnf (fun i hi => ⟨hi.1, hi.2.1⟩) hTT
  obtain ⟨j2, _, _⟩ := J.steps hSi hf (idx hs ht) j1 fun p hp' => hp'
  have pm := steps_flm hSi hf hla hra (idx hs ht) j1 (fun p hp' => hp') (n := n)
  have hlev : (level hs least st ht).2 = settleM ((idx hs ht).foldl (stepJ hs ht) st).1 (ht - least) (idx hs ht) ((idx hs ht).foldl (stepJ hs ht) st).2 := rfl
  rw [hlev]
  generalize (idx hs ht).foldl (stepJ hs ht) st = st1 at j2 pm
  by_cases hx : ∃ x ∈ idx hs ht, x ∈ ivl a n
  · obtain ⟨x, hxf, hxi⟩ := hx
    have hxS := hf x hxf
    have hhx := (rep_in j2 hla hra hxS).mpr hxi
    have allrep : ∀ i ∈ ivl a n, st1.1 i = st1.1 x := fun i hi => by
      have hiS := hin i hi
      have key : ∀ u v, u ∈ ivl a n → v ∈ ivl a n → u ≤ v → st1.1 u = st1.1 v := fun u v hu hv huv => by
        refine (j2.conn u v (hin u hu) (hin v hv) huv).mpr fun m m0 m1 => ?_
        have hu' := mem_ivl.mp hu
        have hv' := mem_ivl.mp hv
        have s0 : Sj hs ds (j + 1) m := hin m (mem_ivl.mpr (by omega))
        have s1 : Sj hs ds (j + 1) (m + 1) := hin (m + 1) (mem_ivl.mpr (by omega))
        by_cases c0 : Sj hs ds j m
        · by_cases c1 : Sj hs ds j (m + 1)
          · exact .inl ⟨c0, c1⟩
          · exact .inr ⟨m + 1, ((hS _).mp s1).resolve_left c1, .inr (by omega), s0, s1⟩
        · exact .inr ⟨m, ((hS _).mp s0).resolve_left c0, .inl rfl, s0, s1⟩
      rcases Int.le_total i x with h | h
      · exact key i x hi hxi h
      · exact (key x i hxi hi h).symm
    have out1 : ∀ i ∈ ivl a n, i ≠ st1.1 x → st1.2 i = [] := fun i hi hne => j2.non i fun z => hne (by rw [← z]; exact allrep i hi)
    have e1 : (ivl a n).flatMap st1.2 = st1.2 (st1.1 x) := flm_one (ivl_nodup a n) hhx out1
    have e2 : (ivl a n).flatMap (settleM st1.1 (ht - least) (idx hs ht) st1.2) = one (ht - least) (st1.2 (st1.1 x)) := by
      rw [flm_one (ivl_nodup a n) hhx fun i hi hne => ?_]
      · exact (settleM_one' _ _).1 ⟨x, hxf, rfl⟩
      · rw [(settleM_one' _ _).2 fun z hz q => hne ?_]
        · exact out1 i hi hne
        · have hz2 := (rep_in j2 hla hra (hf z hz)).mp (by rw [q]; exact hi)
          rw [← q]; exact allrep z hz2
    rw [e2]
    have hval : ∀ i, Sj hs ds (j + 1) i → hs.getD i.toNat 0 ≤ ht := fun i hi => (inS_iff.mp ((hSi i).mp hi)).2.2
    have hold : ∀ i, Sj hs ds (j + 1) i → (Sj hs ds j i ↔ hs.getD i.toNat 0 < ht) := fun i hi => by
      constructor
      · intro h
        have h1 := hval i hi
        have h2 : hs.getD i.toNat 0 ≠ ht := fun z => hnf i (mem_idx.mpr ⟨hi.1, hi.2.1, z⟩) h
        omega
      · intro h
        rcases (hS i).mp hi with c | c
        · exact c
        · have := (mem_idx.mp c).2.2; omega
    refine one_root (mx_eq ?_ fun y hy => ?_) ?_
    · exact List.mem_map.mpr ⟨x, hxi, (mem_idx.mp hxf).2.2⟩
    · obtain ⟨i, hi, rfl⟩ := List.mem_map.mp hy
      exact hval i (hin i hi)
    · rw [← e1]
      refine pm.trans ?_
      -- the parts of before
      have e3 : (ivl a n).flatMap st.2 = (segs (fun i => lt ht (hs.getD i.toNat 0)) (ivl a n)).flatMap fun s => s.flatMap st.2 := by
        have : (ivl a n).flatMap st.2 = (ivl a n).flatMap fun i => if lt ht (hs.getD i.toNat 0) = true then st.2 i else [] := flm_congr fun i hi => by
          by_cases c : lt ht (hs.getD i.toNat 0) = true
          · rw [if_pos c]
          · rw [if_neg c]
            exact (L.jj.out i fun z => c (by simp only [lt, decide_eq_true_eq]; exact (hold i (hin i hi)).mp z)).2
        rw [this, flm_segs (p := fun i => lt ht (hs.getD i.toNat 0)) (fun i hi => if_neg (fun z => by rw [hi] at z; cases z))]
        rw [List.flatMap_def, List.flatMap_def]
        congr 1
        refine List.map_congr_left fun s hs' => ?_
        obtain ⟨_, hall, _⟩ := segs_mem hs'
        exact flm_congr fun i hi => by rw [if_pos (hall i hi)]
      rw [e3]
      have e4 : ((segs (fun i => lt ht (hs.getD i.toNat 0)) (ivl a n)).flatMap fun s => s.flatMap st.2) = (segs (fun i => lt ht (hs.getD i.toNat 0)) (ivl a n)).map fun s => R least (vals hs s) := by
        rw [List.flatMap_def]
        have : ((segs (fun i => lt ht (hs.getD i.toNat 0)) (ivl a n)).map fun s => s.flatMap st.2) = ((segs (fun i => lt ht (hs.getD i.toNat 0)) (ivl a n)).map fun s => R least (vals hs s)).map fun r => [r] := by
          rw [List.map_map]
          refine List.map_congr_left fun s hs' => ?_
          obtain ⟨hne, hall, u, v, e, hu, hv⟩ := segs_mem hs'
          obtain ⟨es, en⟩ := ivl_piece e
          have hlen : 0 < s.length := List.length_pos_iff.mpr hne
          have hsub : ∀ i ∈ s, i ∈ ivl a n := fun i hi => by rw [e]; simp [hi]
          have hF := F (a + u.length) s.length hlen (fun i hi => by
            rw [← es] at hi
            refine (hold i (hin i (hsub i hi))).mpr ?_
            have := hall i hi
            simpa [lt] using this) ?_ ?_
          · rw [← es] at hF; exact hF
          · rcases hu with q | ⟨u', z, q, hz⟩
            · rw [q]
              intro h
              refine hla ((hS _).mpr (.inl ?_))
              have : a + (([] : List Int).length : Int) - 1 = a - 1 := by simp
              rw [this] at h; exact h
            · rw [q] at e
              have hzz := ivl_last e
              rw [q]
              intro h
              rw [← hzz] at h
              have := (hold z ((hS _).mpr (.inl h))).mp h
              simp only [lt, decide_eq_false_iff_not] at hz; exact hz this
          · rcases hv with q | ⟨z, v', q, hz⟩
            · rw [q] at en
              intro h
              refine hra ((hS _).mpr (.inl ?_))
              have : a + (u.length : Int) + (s.length : Int) = a + n := by rw [en]; simp; omega
              rw [this] at h; exact h
            · rw [q] at e
              have hzz := ivl_next e
              intro h
              have : a + (u.length : Int) + (s.length : Int) = z := by omega
              rw [this] at h
              have := (hold z ((hS _).mpr (.inl h))).mp h
              simp only [lt, decide_eq_false_iff_not] at hz; exact hz this
        rw [this]
        generalize ((segs (fun i => lt ht (hs.getD i.toNat 0)) (ivl a n)).map fun s => R least (vals hs s)) = L1
        induction L1 with
        | nil => rfl
        | cons r L1 ih => rw [List.map_cons, List.flatten_cons, ih]; rfl
      rw [e4]
  · have hno : ∀ x ∈ idx hs ht, x ∉ ivl a n := fun x hx1 hx2 => hx ⟨x, hx1, hx2⟩
    have e1 : (ivl a n).flatMap (settleM st1.1 (ht - least) (idx hs ht) st1.2) = (ivl a n).flatMap st1.2 := flm_congr fun i hi => (settleM_one' _ _).2 fun z hz q => hno z hz ((rep_in j2 hla hra (hf z hz)).mp (by rw [q]; exact hi))
    rw [e1]
    have e2 := F a n hn (fun i hi => ((hS i).mp (hin i hi)).resolve_right fun z => hno i z hi) (fun h => hla ((hS _).mpr (.inl h))) (fun h => hra ((hS _).mpr (.inl h)))
    rw [e2] at pm
    exact List.perm_singleton.mp pm
theorem fi_all {hs ds : List Int} {least : Int} (hp : ds.Pairwise (· < ·)) (hm : ∀ k, k ∈ ds ↔ k ∈ hs) (hl : ∀ k ∈ hs, least ≤ k) : ∀ j, j ≤ ds.length → FI hs least (Sj hs ds j) (rowSt hs least (ds.take j)).2
  | 0, _ => by
    intro a n hn hin _ _
    have := hin a (mem_ivl.mpr (by omega))
    have := this.2.2
    simp at this
  | j + 1, hj => by
    have e : ds[j]? = some ds[j] := List.getElem?_eq_getElem (by omega)
    rw [rowSt_take e]
    exact fi_step e hp hm hl (lv_all hp hm hl j (by omega)) (fi_all hp hm hl j (by omega))
theorem vals_all (hs : List Int) : vals hs (ivl 0 hs.length) = hs := by
  unfold vals ivl
  rw [List.map_map]
  refine List.ext_getElem? fun k => ?_
  rw [List.getElem?_map]
  by_cases e : k < hs.length
  · rw [List.getElem?_range e, List.getElem?_eq_getElem e]
    show some (hs.getD (0 + (k : Int)).toNat 0) = _
    rw [show (0 + (k : Int)).toNat = k by omega, List.getD_eq_getElem?_getD, List.getElem?_eq_getElem e]; rfl
  · rw [List.getElem?_eq_none (by rw [List.length_range]; omega), List.getElem?_eq_none (by omega)]; rfl
/-- root_of_row's mirror gives the root of the run -/
theorem row_R {hs ds : List Int} {least : Int} (h0 : 0 < hs.length) (hp : ds.Pairwise (· < ·)) (hm : ∀ k, k ∈ ds ↔ k ∈ hs) (hl : ∀ k ∈ hs, least ≤ k) : rowRoot hs least ds = R least hs := by
  have L := (lv_all hp hm hl ds.length (Nat.le_refl _)).jj
  have F := fi_all hp hm hl ds.length (Nat.le_refl _)
  have hS : ∀ i : Int, 0 ≤ i → i < hs.length → Sj hs ds ds.length i := fun i a b => ⟨a, b, by
    rw [List.take_of_length_le (Nat.le_refl _), hm, List.getD_eq_getElem?_getD, List.getElem?_eq_getElem (show i.toNat < hs.length by omega)]
    exact List.getElem_mem _⟩
  have F0 := F 0 hs.length h0 (fun i hi => by have := mem_ivl.mp hi; exact hS i (by omega) (by omega)) (fun h => by have := h.1; omega) (fun h => by have := h.2.1; omega)
  rw [vals_all] at F0
  unfold rowRoot
  rw [List.take_of_length_le (Nat.le_refl _)] at L F0
  generalize rowSt hs least ds = st at L F0
  have h00 := hS 0 (Int.le_refl _) (by omega)
  have hin : st.1 0 ∈ ivl 0 hs.length := by
    have := L.rng _ (L.idem 0 h00).1
    exact mem_ivl.mpr (by omega)
  have e : (ivl 0 hs.length).flatMap st.2 = st.2 (st.1 0) := flm_one (ivl_nodup _ _) hin fun i hi hne => L.non i fun z => hne ?_
  · rw [← e, F0]; rfl
  · have hi' := mem_ivl.mp hi
    rw [← z]
    exact ((L.conn 0 i h00 (hS i (by omega) (by omega)) (by omega)).mpr fun m m0 m1 => ⟨hS m (by omega) (by omega), hS (m + 1) (by omega) (by omega)⟩).symm
end RunRow
set_option Elab.async false
set_option maxRecDepth 100000
set_option maxHeartbeats 4000000
set_option linter.all false
/-! UG: repr of data; the law's def where it is known that nothing is being shown (guards). -/
namespace UG
open PySem PySem.Spec PyProof.Rows L2 U PySem.W
def rReprB (K : PySem.W.Frag) (n : Nat) : List V → Hp → VK → Prop := fun xs H Q => ∃ (p : Addr) (d : PyData), xs = [.ref p] ∧ Dp K H (.ref p) d ∧ d.showable = true ∧ d.hasDict = false ∧ d.depth ≤ n ∧ d.shown.length ≤ sizeLine ∧ Q (.str d.shown) H
theorem cr_reprB {X : Cx} {n : Nat} (hg : X.A.guards = some []) (hu : X.A.units + 1 + n < cLine) : CallR X (.builtin "repr") (rReprB X.K n) := by
  intro pins s σ H xs us Q I r h
  obtain ⟨p, d, rfl, hd, h1, h2, h3, h4, q⟩ := h
  rw [Vals.ref1 r]
  obtain ⟨as, rd⟩ := Dp.reads I d (.ref p) (.ref p) hd rfl
  exact repr_of_reads' rd h1 (PyData.noDict_hsm h2) hg (by omega) (fun _ _ e => e) (fun h' u tk hk => ⟨.str d.shown, H, I.kept hk, ⟨u, rfl⟩, q⟩) h4
section
variable {P : Program} {w : World} {K : PySem.W.Frag} {mg : Str → Option Value} {base : Heap}
/-- a def of the text, called at one place with what is known there -/
theorem fun_at {x qual : Str} {st : Stmt} {f : Addr} {fd : FuncData} {N ps : List Str} {k : Nat} (F : Fun K x qual st f fd) (S : FnScope N ps (defScope st)) {A : Around} {s : Shared} {H : Hp} {args : Args} {us : List Value} {vs : List V} {Q : VK} {E : XK}
    (room : Room (k + 1) A) (env0 : Env0 P w K mg base A [] s H) (bind : BindsTo s fd args (ps.zip us)) (rv : Vals vs us) (len : vs.length = ps.length)
    (body : ∀ cdv : Value, Room k (A.deeper (envOfC qual (defScope st) s.heap.objs.size f cdv)) →
      ∃ t, PSs (cxOf CX0 P w K mg base N qual (defScope st) f cdv A [] s H E).nox (defBody st) t ∧ t { nx := fun _ H' => Q .non H', rt := Q } (start N vs) H) :
    codeAny (model P w) A (.call (.ref f) args) (CR CX0 [] P w H s Q E) s := by
  obtain ⟨c1, c2, c3, c4, c5, c6, cdv, c8, c9, rfl, look, code⟩ := F.ex
  have inK : K.In s.heap := env0.mod.kin.keeps fun b o z => (env0.bs b o z).1
  have noLim : s.heap.NoLimit := env0.mod.nolimit.keeps fun b o z => (env0.bs b o z).1
  refine codeAny_call_function room.depth (inK _ _ look) rfl S.co S.gen rfl (PySem.W.codeRec_of inK code) (bind _ _ _ _ ?_)
  have kinds : ∀ y ∈ ps.zip us, (defScope st).names.lookup y.1 = some .local ∨ ((defScope st).names.lookup y.1 = some .cell ∧ ((cellsFrom (s.heap.objs.size + 1) (defScope st).names []).lookup y.1).isSome = true) := by
    rintro ⟨n, v⟩ hy
    exact (S.par n (List.of_mem_zip hy).1).imp id fun q => ⟨q, PySem.W.cellsFrom_some _ _ _ (.inl q)⟩
  refine wpAny_newFunctionEnv_cells S.kind kinds fun env henv s1 call => ?_
  subst henv
  refine ⟨noLim.keeps call.toInCall.keep, codeAny_func ?_⟩
  obtain ⟨t, walk, q⟩ := body cdv (room.deeper _)
  have start0 : Inv (cxOf CX0 P w K mg base N qual (defScope st) f cdv A [] s H E) [] (start N vs) H s1 := inv_start S room.hd env0 len rv call
  refine wpAny_mono (walk.nox.run [] s1 (start N vs) H _ start0 q) (fun flow s2 ends => ?_) fun _ _ z => z
  match flow, ends with
  | .ret u, ⟨v, _, H', J, r, z⟩ => exact ⟨v, H', J.os, J.bare, J.base, J.hok, r, z⟩
  | .next, ⟨_, H', J, z⟩ => exact ⟨.non, H', J.os, J.bare, J.base, J.hok, rfl, z⟩
  | .brk, ⟨_, _, _, z⟩ => exact z.elim
  | .cont, ⟨_, _, _, z⟩ => exact z.elim
end
section
variable {P : Program} {w : World} {K : PySem.W.Frag} {mg mb : Str → Option Value}
/-- what the law's body has to give, called by nobody -/
def Body (P : Program) (w : World) (K : PySem.W.Frag) (mg : Str → Option Value) (N : List Str) (st : Stmt) (k : Nat) (fa a : Addr) (ns : List Int) : Prop :=
  ∀ (base : Heap), K.In base → base.Ns mainGlobals mg → ∀ (s : Shared) (H : Hp) (cdv : Value), SqL K H a (ns.map V.int) → Room k (callerA.deeper (envOfC "law" (defScope st) s.heap.objs.size fa cdv)) →
    ∃ t, PSs (cxOf CX0 P w K mg base N "law" (defScope st) fa cdv callerA [] s H E0).nox (defBody st) t ∧ t { nx := fun _ _ => (V.non : V) = .bl true, rt := fun v _ => v = .bl true } (start N [.ref a]) H
theorem from_heap {st : Stmt} {N : List Str} {k : Nat} {fa a : Addr} {fd : FuncData} {s₁ : Shared} {vs : List Value} {ns : List Int}
    (inK : K.In s₁.heap) (spaceM : s₁.heap.Ns mainGlobals mg) (spaceB : s₁.heap.Ns builtinsNs mb) (boot : ∀ x : Str, x ≠ "__name__" → mb x = bootBuiltins x) (noLim : s₁.heap.NoLimit) (noGen : s₁.gens = #[])
    (script : s₁.heap.get? a = some { cls := .type "list", data := .seq vs.toArray }) (room : Room (k + 1) callerA) (F : Fun K "law" "law" st fa fd) (S : FnScope N ["script"] (defScope st)) (bind : ∀ (s : Shared) (u : Value), BindsTo s fd ⟨[u], []⟩ [("script", u)])
    (body : Body P w K mg N st k fa a ns) (H : Hp) (only : Only H) (seq : SqL K H a (ns.map V.int)) (ok : HOk P w H s₁.heap) (lone : ∀ b, H b ≠ none → b = a) (free : H a ≠ none → K.lookup a = none) :
    codeAny (model P w) callerA (.call (.ref fa) ⟨[.ref a], []⟩) (fun r s' => r = .ok (.ret (.bool true)) ∧ OldK s₁.heap s'.heap ∧ s'.os = s₁.os ∧ AllBare s'.gens) s₁ := by
  have untracked : ∀ {b : Addr} {o : Obj} {es : Array DictEntry} {ep : Nat}, s₁.heap.get? b = some o → o.data = .dict es ep → H b = none := by
    intro b o es ep e d
    apply Classical.byContradiction
    intro n
    have eb := lone b n
    rw [eb, script] at e
    have eo := Option.some.inj e
    rw [← eo] at d
    exact absurd (show Data.seq vs.toArray _ = Data.dict es ep from d) (by intro z; cases z)
  have spaces : ∀ {b : Addr} {m : Str → Option Value}, s₁.heap.Ns b m → (hidT s₁.heap H).Ns b m := by
    rintro b m ⟨o, es, ep, e, d, r⟩
    exact ⟨o, es, ep, hidT_get e (untracked e d), d, r⟩
  have inB : K.In (hidT s₁.heap H) := by
    intro b o e
    refine hidT_get (inK b o e) ?_
    apply Classical.byContradiction
    intro n
    have eb := lone b n
    subst eb
    rw [free n] at e
    cases e
  have env0 : Env0 P w K mg (hidT s₁.heap H) callerA [] s₁ H :=
    ⟨rfl, ⟨inB, spaces spaceM, ⟨mb, spaces spaceB, boot⟩, noLim.imp fun _ h => ⟨spaces h.1, h.2⟩⟩, fun _ _ e => of_hidT e, Nat.le_of_eq (hidT_size _ _), trivial, fun b h => (by cases h), ok, .of_eq noGen⟩
  refine codeAny_mono (fun_at (Q := fun v _ => v = .bl true) (E := E0) (vs := [.ref a]) (us := [.ref a]) (ps := ["script"]) F S room env0 (bind s₁ (.ref a)) (.cons rfl .nil) rfl fun cdv r => body _ inB (spaces spaceM) s₁ H cdv seq r) fun r s' h => ?_
  match r, h with
  | .ok (.ret u), ⟨v, H', os, bare, un, ok', rel, q⟩ =>
    have q : v = .bl true := q
    subst q
    obtain rfl : u = Value.bool true := rel
    refine ⟨rfl, OldK.of_keep fun b o e => ?_, os, bare⟩
    rcases only b with z | ⟨o1, xs, z⟩
    · exact un.keep b o e z (fun n => by cases n) (by simp)
    · have z1 := (ok b _ z).1
      have z2 := (ok' b _ (un.frzs b o1 _ z)).1
      rw [e] at z1
      rw [← Option.some.inj z1] at z2
      exact z2
  | .ok .next, h => exact h.elim
  | .ok .brk, h => exact h.elim
  | .ok .cont, h => exact h.elim
  | .error e, h => exact h.elim
theorem law_at {st : Stmt} {N : List Str} {k : Nat} {fa a : Addr} {fd : FuncData} {s₁ : Shared} {vs : List Value} {ns : List Int}
    (inK : K.In s₁.heap) (spaceM : s₁.heap.Ns mainGlobals mg) (spaceB : s₁.heap.Ns builtinsNs mb) (boot : ∀ x : Str, x ≠ "__name__" → mb x = bootBuiltins x) (noLim : s₁.heap.NoLimit) (noGen : s₁.gens = #[])
    (script : s₁.heap.get? a = some { cls := .type "list", data := .seq vs.toArray }) (whole : IntsAre vs ns) (short : ns.length ≤ sizeLine) (room : Room (k + 1) callerA) (F : Fun K "law" "law" st fa fd) (S : FnScope N ["script"] (defScope st))
    (bind : ∀ (s : Shared) (u : Value), BindsTo s fd ⟨[u], []⟩ [("script", u)]) (body : Body P w K mg N st k fa a ns) :
    codeAny (model P w) callerA (.call (.ref fa) ⟨[.ref a], []⟩) (fun r s' => r = .ok (.ret (.bool true)) ∧ OldK s₁.heap s'.heap ∧ s'.os = s₁.os ∧ AllBare s'.gens) s₁ := by
  have rv := vals_ints whole
  have go := from_heap (ns := ns) inK spaceM spaceB boot noLim noGen script room F S bind body
  have hlen : vs.length = ns.length := whole.length
  cases look : K.lookup a with
  | some o =>
    have e := inK a o look
    rw [script] at e
    have eo := Option.some.inj e
    subst eo
    refine go (fun _ => none) (fun _ => .inl rfl) ?_ (fun b u z => by cases z) (fun b z => absurd rfl z) fun z => absurd rfl z
    exact .inr ⟨_, vs.toArray, _, look, rfl, rfl, rfl, by rw [List.size_toArray, hlen]; exact short, by simpa using rv⟩
  | none =>
    have at_a : ∀ {b : Addr} {u : HO}, (if b = a then some (HO.frz { cls := .type "list", data := .seq vs.toArray } (.lst (ns.map V.int))) else none) = some u → b = a ∧ u = HO.frz { cls := .type "list", data := .seq vs.toArray } (.lst (ns.map V.int)) := by
      intro b u z
      by_cases c : b = a
      · rw [if_pos c] at z
        exact ⟨c, (Option.some.inj z).symm⟩
      · rw [if_neg c] at z
        cases z
    refine go (fun b => if b = a then some (HO.frz { cls := .type "list", data := .seq vs.toArray } (.lst (ns.map V.int))) else none) (fun b => ?_) (.inl (.inr ⟨_, if_pos rfl⟩)) (fun b u z => ?_) (fun b n => ?_) fun _ => look
    · by_cases c : b = a
      · right
        exact ⟨_, _, if_pos c⟩
      · left
        exact if_neg c
    · obtain ⟨c1, c2⟩ := at_a z
      rw [c1, c2]
      exact ⟨script, by rw [List.length_map]; exact short, vs, _, rv, script⟩
    · apply Classical.byContradiction
      intro c
      exact n (if_neg c)
end
/-- the goal that the head leaves, where the law's def is looked at by itself -/
theorem walk_at_law {l : PySem.W.OpenLaw} {n k : Nat} {q : Program} {loose : List Str} {XP : (Str → Option Value) → Heap → Prop} {YP : World → Heap → Prop} {d : DefRec} {K : Params → PySem.W.Frag} {st : Stmt} {N : List Str}
    (most : l.most = some n) (few : n ≤ sizeLine) (noDef : d.params.defaults = []) (room : Room (k + 1) callerA) (inK : ∀ (w : World) (h : Heap), YP w h → (K w.params).In h) (S : FnScope N ["script"] (defScope st))
    (F : ∀ (w : World) (mg : Str → Option Value) (fa : Addr) (h : Heap), (K w.params).In h → h.Ns mainGlobals mg → mg d.name = some (.ref fa) →
      ∃ fd : FuncData, Fun (K w.params) "law" "law" st fa fd ∧ (∀ (s : Shared) (u : Value), BindsTo s fd ⟨[u], []⟩ [("script", u)]) ∧ ∀ (a : Addr) (ns : List Int), ns.length ≤ n → Body l.prog w (K w.params) mg N st k fa a ns) :
    PySem.W.WalkO q loose XP YP l.row.toRowW d [] (fun f vs => PySem.call f vs) := by
  refine Att.attach_call most noDef fun w s₀ s₁ mg mb fa o pm cd doc a vs ns G Y _ _ _ named script whole short noGen => ?_
  obtain ⟨fd, F1, bind, body⟩ := F w mg fa _ (inK w _ Y) G.T.g named
  exact law_at (inK w _ Y) G.T.g G.T.b G.T.builtins G.T.nolimit noGen script whole (Nat.le_trans short few) room F1 S bind (body a ns short)
end UG
set_option Elab.async false
set_option maxRecDepth 100000
set_option maxHeartbeats 4000000
set_option linter.all false
/-! UL: set of a list of ints. -/
namespace UL
open PySem PySem.Spec PyProof.Rows L2 U
abbrev emptyO (w : World) : Obj := { cls := .type "set", dict := none, data := .set #[] 0 (.fresh 0 0 (!w.params.followText "set-order")) }
section
variable {P : Program} {w : World} {A : Around} {E : Value → Shared → Prop} {s : Shared} {l : Addr} {items : Array Value} {ns : List Int}
set_option maxHeartbeats 8000000 in
theorem set_list {Q : Value → Shared → Prop} (free : A.handled = none) (isL : s.heap.IsList l items) (whole : IntsAre items.toList ns) (few : ns.length + 1 < scanBound)
    (fin : ∀ (h2 : Heap) (tk c : Nat), SetR w h2 s.heap.objs.size (fun j => decide (j ∈ ns)) c → c ≤ ns.length → (∀ b o, s.heap.get? b = some o → h2.get? b = some o) → Q (.ref s.heap.objs.size) { s with heap := h2, toks := tk }) :
    wpAny (model P w) A (call (.type "set") [.ref l]) Q E s := by
  have size : items.size = ns.length := by rw [← whole.length, Array.length_toList]
  have ⟨m1, m2, m3⟩ := F.called_set.mro
  have m4 := F.called_set.made
  have m5 := F.called_set.sub
  have m6 := F.called_set.notType
  have m7 := F.called_set.canCreate
  have m8 := F.typeCall_set_1 (.ref l)
  refine wpAny_call (codeAny_of_tree (show wpAny _ _ (callAny (.type "set") _) _ _ _ from wpAny_pure ⟨Code.quiet_builtin _ (by decide +kernel), codeAny_builtin F.entry_type_call ?_⟩))
  rw [Around.under_plain (weight_type_call_type "set" [.ref l] []) rfl]
  repeat (any_goals (first | assumption | wp_step))
  refine codeAny_mono (code_set_led1 (.ref l) (E := E) (Q₁ := fun x z => x = .ref s.heap.objs.size ∧ z = { s with heap := s.heap.push (emptyO w) }) ⟨rfl, rfl⟩) fun r1 z1 e1 => ?_
  match r1, e1 with
  | .error _, e1 => exact e1
  | .ok .next, e1 => exact e1.elim
  | .ok .brk, e1 => exact e1.elim
  | .ok .cont, e1 => exact e1.elim
  | .ok (.ret _), e1 =>
    obtain ⟨rfl, rfl⟩ := e1
    have there : (s.heap.push (emptyO w)).get? s.heap.objs.size = some (emptyO w) := Heap.get?_push_size _ rfl
    have isSet : Shared.TypeIs { s with heap := s.heap.push (emptyO w) } (.ref s.heap.objs.size) "set" := ⟨_, there, rfl⟩
    have m9 := F.called_set.init.lookup
    have m10 := F.called_set.init.bind (.ref s.heap.objs.size)
    repeat (any_goals (first | assumption | wp_step))
    let R2 : Value → Shared → Prop := fun r z => r = .none ∧ ∃ h2 tk c, z = { s with heap := h2, toks := tk } ∧ SetR w h2 s.heap.objs.size (fun j => decide (j ∈ ns)) c ∧ c ≤ ns.length ∧ ∀ b o, s.heap.get? b = some o → h2.get? b = some o
    refine codeAny_mono (codeAny_call_builtin (R := wants R2 E) F.called_set.init.plain F.entry_set_init (check_set_init_1 isSet ?_)) fun r2 z2 e2 => ?_
    · obtain ⟨⟨_, od, _, os⟩, at_l, rfl, nl, rfl⟩ := isL
      have at_l2 : (s.heap.push (emptyO w)).get? l = some { cls := .type "list", dict := od, data := .seq items nl, slots := os } := Heap.get?_push_of_some _ at_l
      have isL2 : (s.heap.push (emptyO w)).IsList l items := ⟨_, at_l2, rfl, nl, rfl⟩
      have m11 := F.sub_list_set
      have m12 := F.sub_list_frozenset
      have m13 : (Value.type "list" == Value.type "dict") = false := by decide
      unfold Builtin.«set.__init__» noKeywords Builtin.Frozenset.updateFrom
      generalize iterE : pyIter = iter
      wp_walk
      subst iterE
      refine wpAny_pyIter_list isL2 (wpAny_bind (wpAny_runValue ?_))
      have below : l < s.heap.objs.size := Heap.lt_size at_l
      have size2 : (s.heap.push (emptyO w)).objs.size = s.heap.objs.size + 1 := Heap.size_push ..
      have vals : ∀ (i : Nat) (v : Value), items[i]? = some v → ∃ k t, ns[i]? = some k ∧ v = .int k t := by
        intro i v hv
        have lt : i < ns.length := by rw [← size]; exact (Array.getElem?_eq_some_iff.mp hv).1
        obtain ⟨t, e⟩ := IntsAre.int_at whole i v (by rw [Array.getElem?_toList]; exact hv)
        rw [List.getD_eq_getElem?_getD, List.getElem?_eq_getElem lt] at e
        exact ⟨ns[i], t, List.getElem?_eq_getElem lt, e⟩
      have ne1 : l ≠ (s.heap.push (emptyO w)).objs.size := by rw [Heap.size_push]; exact Nat.ne_of_lt (Nat.lt_succ_of_lt below)
      have ne2 : ∀ b : Addr, b ≤ s.heap.objs.size → b ≠ (s.heap.push (emptyO w)).objs.size := fun b hb => by rw [Heap.size_push]; exact Nat.ne_of_lt (Nat.lt_succ_of_le hb)
      have walks := (Walks.list (prog := P) (w := w) (A := A.in1.in1.in1) (by simp [free]) (s.heap.push (emptyO w)).objs.size l ne1 items).toS
      refine set_update_ints walks s.heap.objs.size ?_ ns size few vals (items.size - 0) 0 _ (by omega) (Nat.zero_le _) ⟨⟨_, Heap.get?_push_size _ rfl, rfl, rfl⟩, isL2.push _⟩ ⟨0, Nat.le_refl 0, setR_new_at (Heap.get?_push_of_some _ there)⟩ ?_
      · intro h
        rcases List.mem_cons.mp h with h | h
        · exact ne2 _ (Nat.le_refl _) h
        · exact Nat.ne_of_gt below (List.mem_singleton.mp h)
      · intro z c moved le R
        rw [size] at le
        obtain ⟨h2, g2, d2, tk, os2⟩ := z
        obtain rfl : g2 = s.gens := moved.gens
        obtain rfl : d2 = s.drawn := moved.drawn
        obtain rfl : os2 = s.os := moved.os
        refine (show wpAny _ _ _ _ _ _ from wpAny_pure (show wpAny _ _ (ret Value.none) _ _ _ from wpAny_pure ⟨rfl, h2, tk, c, rfl, R, le, fun b o e => ?_⟩))
        have lt := Heap.lt_size e
        refine moved.heap b o ?_ (Heap.get?_push_of_some _ (Heap.get?_push_of_some _ e))
        intro h
        rcases List.mem_cons.mp h with h | h
        · exact Nat.ne_of_lt lt h
        · exact ne2 b (Nat.le_of_lt lt) (List.mem_singleton.mp h)
    · match r2, e2 with
      | .error _, e2 => exact e2
      | .ok .next, e2 => exact e2.elim
      | .ok .brk, e2 => exact e2.elim
      | .ok .cont, e2 => exact e2.elim
      | .ok (.ret _), e2 =>
        obtain ⟨rfl, h2, tk, c, rfl, R, le, keep⟩ := e2
        repeat (any_goals (first | assumption | wp_step))
        exact fin _ _ _ R le keep
end
def rSetL (K : PySem.W.Frag) (w : World) : List V → Hp → VK → Prop := fun vs H Q => ∃ (a : Addr) (ns : List Int), vs = [V.ref a] ∧ SqL K H a (ns.map V.int) ∧ ns.length ≤ 1000 ∧
  ∀ (p : Addr) (c : Nat), c ≤ ns.length → H p = none → Q (.ref p) (upd H p (SetO w p (fun j => decide (j ∈ ns)) c))
theorem cr_setL {X : Cx} (hc : X.calm = true) : CallR X (.type "set") (rSetL X.K X.w) := by
  intro pins s σ H vs us Q I r h
  obtain ⟨a, ns, rfl, hs, hn, q⟩ := h
  obtain ⟨its, rv, ⟨o, n, o1, o2, o3, o4⟩, hz⟩ := I.list hs
  rw [Vals.ref1 r]
  have hi : IntsAre its.toArray.toList ns := ints_of_vals rv
  refine set_list (I.ok.hd hc) ⟨o, o1, o2, n, o4⟩ hi (by unfold scanBound; omega) fun h2 tk c R1 le keep => ?_
  exact ⟨.ref _, _, I.laid (t' := tk) keep (Nat.le_refl _) (setO_new R1), rfl, q _ c le (I.hok.fresh (Nat.le_refl _))⟩
end UL
set_option Elab.async false
set_option maxRecDepth 100000
set_option maxHeartbeats 8000000
set_option linter.all false
/-! K59Bd: the defs of the text as transformers (written by gen.py). -/
namespace K59
open PySem PySem.Spec PyProof.Rows L2 U RootsTr

def topS (i : Nat) : Stmt := PySem.Challenge.pw_blowntrees_k59_roots_of_rows.main.body.getD i (.Pass ⟨0, 0, 0, 0⟩)
structure Blt (mg : Str → Option Value) : Prop where
  enumerate : mg "enumerate" = none
  int : mg "int" = none
  len : mg "len" = none
  list : mg "list" = none
  min : mg "min" = none
  range : mg "range" = none
  repr : mg "repr" = none
  set : mg "set" = none
  sorted : mg "sorted" = none
  tuple : mg "tuple" = none
abbrev st_leader : Stmt := topS 1
theorem sc_leader : FnScope nm_leader ["leaders", "one"] (defScope st_leader) := ⟨rfl, rfl, rfl, by decide +kernel, rfl, by decide +kernel, by decide +kernel⟩
theorem bd_leader {P : Program} {w : World} {K : PySem.W.Frag} {mg : Str → Option Value} {base : Heap} (T : Blt mg) {fa : Addr} {cdv : Value} {A : Around} {outer : List Env} {s : Shared} {H : Hp} {E : XK} {k : Nat} (hk : 60 ≤ k)
  
  (hr : Room k (A.deeper (envOfC "leader" (defScope st_leader) s.heap.objs.size fa cdv))) :
  PSs (cxOf CX0 P w K mg base nm_leader "leader" (defScope st_leader) fa cdv A outer s H E).nox (defBody st_leader) (tr_leader K w ) :=
 (pss_cons (ps_while PassesOwn.never (pt_cmpR (op_neU (n := 800) (room_n hr hk (by decide))) (pe_ix (ix_u (room_n hr hk (by decide))) (pv 0) (pv 1) (fun _ _ => rfl)) (pv 1) (nomark _))
 (pss_cons (ps_asg (pe_ix (ix_u (room_n hr hk (by decide))) (pv 0) (pe_ix (ix_u (room_n hr hk (by decide))) (pv 0) (pv 1) (fun _ _ => rfl)) (fun _ _ => rfl)) (pg_sub (pv 0) (pv 1) (set_u (room_n hr hk (by decide)))))
 (pss_one (ps_set (i := 1) sc_leader.nd rfl (Or.inl rfl) (pe_ix (ix_u (room_n hr hk (by decide))) (pv 0) (pv 1) (fun _ _ => rfl))))))
 (pss_one (ps_ret (pv 1))))
abbrev st_join : Stmt := topS 2
theorem sc_join : FnScope nm_join ["leaders", "roots", "one", "other"] (defScope st_join) := ⟨rfl, rfl, rfl, by decide +kernel, rfl, by decide +kernel, by decide +kernel⟩
theorem bd_join {P : Program} {w : World} {K : PySem.W.Frag} {mg : Str → Option Value} {base : Heap} (T : Blt mg) {fa : Addr} {cdv : Value} {A : Around} {outer : List Env} {s : Shared} {H : Hp} {E : XK} {k : Nat} (hk : 60 ≤ k)
  {k_leader : Nat} {sp_leader : Sp} (A_leader : Fn K mg "leader" (topS 1) ["leaders", "one"]) (G_leader : FnOk P w K mg base CX0 k_leader A_leader.f A_leader.fd ["leaders", "one"] sp_leader) (h_leader : k_leader ≤ k)
  (hr : Room k (A.deeper (envOfC "join" (defScope st_join) s.heap.objs.size fa cdv))) :
  PSs (cxOf CX0 P w K mg base nm_join "join" (defScope st_join) fa cdv A outer s H E).nox (defBody st_join) (tr_join K w sp_leader) :=
 (pss_cons (ps_par (i := 4) (j := 5) rfl sc_join.nd rfl rfl (by decide) rfl rfl (pa_cons (pe_call G_leader (hr.mono h_leader) (by rfl) A_leader.m A_leader.F.kp A_leader.b .nil pass0 (pa_cons (pv 0) (pa_cons (pv 2) pa_nil))) (pa_cons (pe_call G_leader (hr.mono h_leader) (by rfl) A_leader.m A_leader.F.kp A_leader.b .nil pass0 (pa_cons (pv 0) (pa_cons (pv 3) pa_nil))) pa_nil)) (by rfl))
 (pss_cons (ps_if (pt_cmpR (op_eqU (n := 800) (room_n hr hk (by decide))) (pv 4) (pv 5) (nomark _))
 (pss_one (ps_ret pe_int))
 pss_nil)
 (pss_cons (ps_asg (pv 5) (pg_sub (pv 0) (pv 4) (set_u (room_n hr hk (by decide)))))
 (pss_cons (ps_asg (pe_op op_addU (pe_ix (ix_u (room_n hr hk (by decide))) (pv 1) (pv 4) (fun _ _ => rfl)) (pe_ix (ix_u (room_n hr hk (by decide))) (pv 1) (pv 5) (fun _ _ => rfl))) (pg_sub (pv 1) (pv 5) (set_u (room_n hr hk (by decide)))))
 (pss_cons (ps_asg (pe_lst pa_nil) (pg_sub (pv 1) (pv 4) (set_u (room_n hr hk (by decide)))))
 (pss_one (ps_ret pe_int)))))))
abbrev st_settle : Stmt := topS 3
theorem sc_settle : FnScope nm_settle ["leaders", "roots", "fresh", "height"] (defScope st_settle) := ⟨rfl, rfl, rfl, by decide +kernel, rfl, by decide +kernel, by decide +kernel⟩
theorem bd_settle {P : Program} {w : World} {K : PySem.W.Frag} {mg : Str → Option Value} {base : Heap} (T : Blt mg) {fa : Addr} {cdv : Value} {A : Around} {outer : List Env} {s : Shared} {H : Hp} {E : XK} {k : Nat} (hk : 60 ≤ k)
  {k_leader : Nat} {sp_leader : Sp} (A_leader : Fn K mg "leader" (topS 1) ["leaders", "one"]) (G_leader : FnOk P w K mg base CX0 k_leader A_leader.f A_leader.fd ["leaders", "one"] sp_leader) (h_leader : k_leader ≤ k)
  (hr : Room k (A.deeper (envOfC "settle" (defScope st_settle) s.heap.objs.size fa cdv))) :
  PSs (cxOf CX0 P w K mg base nm_settle "settle" (defScope st_settle) fa cdv A outer s H E).nox (defBody st_settle) (tr_settle K w sp_leader) :=
 (pss_one (ps_for PassesOwn.never rfl (pi_u (pv 2)) (pg_name (i := 4) sc_settle.nd rfl (Or.inl rfl))
 (pss_cons (ps_set (i := 5) sc_settle.nd rfl (Or.inl rfl) (pe_call G_leader (hr.mono h_leader) (by rfl) A_leader.m A_leader.F.kp A_leader.b .nil pass0 (pa_cons (pv 0) (pa_cons (pv 4) pa_nil))))
 (pss_one (ps_if (pt_cmpR (op_eqU (n := 800) (room_n hr hk (by decide))) (pe_ix (ix_u (room_n hr hk (by decide))) (pv 1) (pv 5) (fun _ _ => rfl)) (pe_lst pa_nil) (nomark _))
 (pss_one (ps_asg (pe_lst (pa_cons (pe_tup (pa_cons (pv 3) (pa_cons (pe_tup pa_nil) pa_nil))) pa_nil)) (pg_sub (pv 1) (pv 5) (set_u (room_n hr hk (by decide))))))
 (pss_one (ps_if (pt_cmpR op_gt (pe_callB cr_lenU (by rfl) T.len PySem.boot_len (pa_cons (pe_ix (ix_u (room_n hr hk (by decide))) (pv 1) (pv 5) (fun _ _ => rfl)) pa_nil)) pe_int (nomark _))
 (pss_one (ps_asg (pe_lst (pa_cons (pe_tup (pa_cons (pv 3) (pa_cons (pe_callTy cr_tupleU (by rfl) T.tuple (by decide +kernel) (pa_cons (pe_callB (cr_sortedU (n := 800) rfl (room_2n hr hk (by decide))) (by rfl) T.sorted PyProof.Rows.boot_sorted (pa_cons (pe_ix (ix_u (room_n hr hk (by decide))) (pv 1) (pv 5) (fun _ _ => rfl)) pa_nil)) pa_nil)) pa_nil))) pa_nil)) (pg_sub (pv 1) (pv 5) (set_u (room_n hr hk (by decide))))))
 pss_nil)))))))
abbrev st_root_of_row : Stmt := topS 4
theorem sc_root_of_row : FnScope nm_root_of_row ["heights"] (defScope st_root_of_row) := ⟨rfl, rfl, rfl, by decide +kernel, rfl, by decide +kernel, by decide +kernel⟩
theorem bd_root_of_row {P : Program} {w : World} {K : PySem.W.Frag} {mg : Str → Option Value} {base : Heap} (T : Blt mg) {fa : Addr} {cdv : Value} {A : Around} {outer : List Env} {s : Shared} {H : Hp} {E : XK} {k : Nat} (hk : 60 ≤ k)
  {k_join : Nat} {sp_join : Sp} (A_join : Fn K mg "join" (topS 2) ["leaders", "roots", "one", "other"]) (G_join : FnOk P w K mg base CX0 k_join A_join.f A_join.fd ["leaders", "roots", "one", "other"] sp_join) (h_join : k_join ≤ k)
  {k_leader : Nat} {sp_leader : Sp} (A_leader : Fn K mg "leader" (topS 1) ["leaders", "one"]) (G_leader : FnOk P w K mg base CX0 k_leader A_leader.f A_leader.fd ["leaders", "one"] sp_leader) (h_leader : k_leader ≤ k)
  {k_settle : Nat} {sp_settle : Sp} (A_settle : Fn K mg "settle" (topS 3) ["leaders", "roots", "fresh", "height"]) (G_settle : FnOk P w K mg base CX0 k_settle A_settle.f A_settle.fd ["leaders", "roots", "fresh", "height"] sp_settle) (h_settle : k_settle ≤ k)
  (hr : Room k (A.deeper (envOfC "root_of_row" (defScope st_root_of_row) s.heap.objs.size fa cdv))) :
  PSs (cxOf CX0 P w K mg base nm_root_of_row "root_of_row" (defScope st_root_of_row) fa cdv A outer s H E).nox (defBody st_root_of_row) (tr_root_of_row K w sp_join sp_leader sp_settle) :=
 (pss_cons (ps_par3 (i := 1) (j := 2) (l := 3) rfl sc_root_of_row.nd rfl rfl rfl (by decide) (by decide) (by decide) rfl rfl rfl (pa_cons (pe_callB (cr_minU rfl (room_n hr hk (by decide))) (by rfl) T.min PyProof.Rows.boot_min (pa_cons (pv 0) pa_nil)) (pa_cons pe_dnewK (pa_cons pe_dnewK pa_nil))) (by rfl))
 (pss_cons (ps_for PassesOwn.never rfl (pi_u (pe_callB (cr_sortedU (n := 800) rfl (room_2n hr hk (by decide))) (by rfl) T.sorted PyProof.Rows.boot_sorted (pa_cons (pe_callTy (cr_setTI rfl) (by rfl) T.set (by decide +kernel) (pa_cons (pv 0) pa_nil)) pa_nil))) (pg_name (i := 4) sc_root_of_row.nd rfl (Or.inr rfl))
 (pss_cons (ps_setLc (i := 5) (own := [("place", 6), ("entry", 7)]) (g := (gTup K 2 (gCons (gName 6) (gCons (gName 7) gNil)))) (tt := (tTest (tOp (rEqU K 800) (tVar 7) (tVar 4)))) rfl sc_root_of_row.nd rfl rfl (sw_true rfl rfl rfl (by decide +kernel)) (pi_enumU (by rfl) T.enumerate (pa_cons (pv 0) pa_nil)) (blkOk_by (own := [("place", 6), ("entry", 7)]) (N := nm_root_of_row) (sc := defScope st_root_of_row) (by decide +kernel)) (fun _ _ _ _ _ => (pg_tup (by rfl) (pgs_cons (pg_name (i := 6) sc_root_of_row.nd rfl (by first | exact Or.inl rfl | exact Or.inr rfl)) (pgs_cons (pg_name (i := 7) sc_root_of_row.nd rfl (by first | exact Or.inl rfl | exact Or.inr rfl)) pgs_nil)))) (fun _ _ _ _ _ => (pts_one (pt_cmpR (op_eqU (n := 800) (room_n hr hk (by decide))) (pv 7) (pv 4) (nomark _)))) (fun _ _ _ _ _ => (pv 6)))
 (pss_cons (ps_for PassesOwn.never rfl (pi_u (pv 5)) (pg_name (i := 6) sc_root_of_row.nd rfl (Or.inl rfl))
 (pss_one (ps_asg (pe_tup (pa_cons (pv 6) (pa_cons (pe_lst pa_nil) pa_nil))) (pg_tup (by rfl) (pgs_cons (pg_sub (pv 2) (pv 6) (set_u (room_n hr hk (by decide)))) (pgs_cons (pg_sub (pv 3) (pv 6) (set_u (room_n hr hk (by decide)))) pgs_nil))))))
 (pss_cons (ps_for PassesOwn.never rfl (pi_u (pv 5)) (pg_name (i := 6) sc_root_of_row.nd rfl (Or.inl rfl))
 (pss_one (ps_for PassesOwn.never rfl (pi_u (pe_tup (pa_cons (pe_op op_sub (pv 6) pe_int) (pa_cons (pe_op op_addU (pv 6) pe_int) pa_nil)))) (pg_name (i := 8) sc_root_of_row.nd rfl (Or.inl rfl))
 (pss_one (ps_if (pt_cmpR (op_inU (room_n hr hk (by decide))) (pv 8) (pv 2) (by rfl))
 (pss_one (ps_expr (pe_call G_join (hr.mono h_join) (by rfl) A_join.m A_join.F.kp A_join.b .nil pass0 (pa_cons (pv 2) (pa_cons (pv 3) (pa_cons (pv 6) (pa_cons (pv 8) pa_nil)))))))
 pss_nil)))))
 (pss_one (ps_expr (pe_call G_settle (hr.mono h_settle) (by rfl) A_settle.m A_settle.F.kp A_settle.b .nil pass0 (pa_cons (pv 2) (pa_cons (pv 3) (pa_cons (pv 5) (pa_cons (pe_op op_sub (pv 4) (pv 1)) pa_nil)))))))))))
 (pss_one (ps_ret (pe_ix (ix_u (room_n hr hk (by decide))) (pe_ix (ix_u (room_n hr hk (by decide))) (pv 3) (pe_call G_leader (hr.mono h_leader) (by rfl) A_leader.m A_leader.F.kp A_leader.b .nil pass0 (pa_cons (pv 2) (pa_cons pe_int pa_nil))) (fun _ _ => rfl)) pe_int (fun _ _ => rfl))))))
abbrev st__law_begun : Stmt := topS 6
abbrev nm__law_begun : List Str := ["script", "k", "cells", "great", "cell", "seed"]
theorem sc__law_begun : FnScope nm__law_begun ["script", "k"] (defScope st__law_begun) := ⟨rfl, rfl, rfl, by decide +kernel, rfl, by decide +kernel, by decide +kernel⟩
def tr__law_begun (K : PySem.W.Frag) (w : World)  : TS :=
 (tSeq (tAsg (tOp (rAddU K) (tSl (rSlU K) (tVar 0) (tPart (tVar 1)) tNoPart) (tSl (rSlU K) (tVar 0) tNoPart (tPart (tVar 1)))) (gName 2))
 (tSeq (tAsg (tLc (iU K (tVar 2)) (gName 4) (tTest (tOp (rI0 fun i j => .bl (decide (j ≤ i))) (tVar 4) (tOp (rI CPow fun i j => .int (i ^ j.toNat)) (tC (.int 10)) (tC (.int 18))))) (tVar 4) [4]) (gName 3))
 (tSeq (tAsg (tOp (rAddU K) (tC (.int 71)) (tVar 1)) (gName 5))
 (tSeq (tFor (iU K (tVar 2)) (gName 4)
 (tAsg (tOp (rI (fun _ j => 0 < j) fun i j => .int (i % j)) (tCB rIntI (tCons (tOp (rAddU K) (tOp rMulU (tVar 5) (tC (.int 48271))) (tVar 4)) tNil)) (tC (.int 2147483647))) (gName 5)))
 (tRet (tDisp [((tC (.str "left")), (tIf (tTest (tOp (rNeU K 800) (tVar 3) (tLst tNil))) (tOp (rIxU K) (tVar 3) (tC (.int 0))) (tC (.int 0)))), ((tC (.str "seed")), (tVar 5)), ((tC (.str "cells")), (tOp (rAddU K) (tVar 2) (tLst (tCons (tOp (rAddU K) (tOp rMulU (tC (.int 53)) (tVar 1)) (tC (.int 11))) tNil)))), ((tC (.str "spot")), (tC (.int 0)))]))))))
theorem bd__law_begun {P : Program} {w : World} {K : PySem.W.Frag} {mg : Str → Option Value} {base : Heap} (T : Blt mg) {fa : Addr} {cdv : Value} {A : Around} {outer : List Env} {s : Shared} {H : Hp} {E : XK} {k : Nat} (hk : 60 ≤ k)
  
  (hr : Room k (A.deeper (envOfC "_law_begun" (defScope st__law_begun) s.heap.objs.size fa cdv))) :
  PSs (cxOf CX0 P w K mg base nm__law_begun "_law_begun" (defScope st__law_begun) fa cdv A outer s H E).nox (defBody st__law_begun) (tr__law_begun K w ) :=
 (pss_cons (ps_set (i := 2) sc__law_begun.nd rfl (Or.inl rfl) (pe_op op_addU (pe_slice sl_u (pv 0) (po_some (pv 1)) po_none) (pe_slice sl_u (pv 0) po_none (po_some (pv 1)))))
 (pss_cons (ps_setLc (i := 3) (own := [("cell", 4)]) (g := (gName 4)) (tt := (tTest (tOp (rI0 fun i j => .bl (decide (j ≤ i))) (tVar 4) (tOp (rI CPow fun i j => .int (i ^ j.toNat)) (tC (.int 10)) (tC (.int 18)))))) rfl sc__law_begun.nd rfl rfl (sw_true rfl rfl rfl (by decide +kernel)) (pi_u (pv 2)) (blkOk_by (own := [("cell", 4)]) (N := nm__law_begun) (sc := defScope st__law_begun) (by decide +kernel)) (fun _ _ _ _ _ => (pg_name (i := 4) sc__law_begun.nd rfl (by first | exact Or.inl rfl | exact Or.inr rfl))) (fun _ _ _ _ _ => (pts_one (pt_cmpR op_ge (pv 4) (pe_op op_pow pe_int pe_int) (nomark _)))) (fun _ _ _ _ _ => (pv 4)))
 (pss_cons (ps_set (i := 5) sc__law_begun.nd rfl (Or.inl rfl) (pe_op op_addU pe_int (pv 1)))
 (pss_cons (ps_for PassesOwn.never rfl (pi_u (pv 2)) (pg_name (i := 4) sc__law_begun.nd rfl (Or.inl rfl))
 (pss_one (ps_set (i := 5) sc__law_begun.nd rfl (Or.inl rfl) (pe_op op_mod (pe_callTy call_int1 (by rfl) T.int (by decide +kernel) (pa_cons (pe_op op_addU (pe_op op_mulU (pv 5) pe_int) (pv 4)) pa_nil)) pe_int))))
 (pss_one (ps_ret (pe_disp (pps_cons pe_str (pe_ifExp (pt_cmpR (op_neU (n := 800) (room_n hr hk (by decide))) (pv 3) (pe_lst pa_nil) (nomark _)) (pe_ix (ix_u (room_n hr hk (by decide))) (pv 3) pe_int (fun _ _ => rfl)) pe_int) (pps_cons pe_str (pv 5) (pps_cons pe_str (pe_op op_addU (pv 2) (pe_lst (pa_cons (pe_op op_addU (pe_op op_mulU pe_int (pv 1)) pe_int) pa_nil))) (pps_cons pe_str pe_int pps_nil)))) (by rfl) (by rfl) (fun z => by cases z) (by decide))))))))
abbrev st__law_draw : Stmt := topS 7
abbrev nm__law_draw : List Str := ["m", "bound", "found", "spot", "cells", "extra", "cell", "blend"]
theorem sc__law_draw : FnScope nm__law_draw ["m", "bound"] (defScope st__law_draw) := ⟨rfl, rfl, rfl, by decide +kernel, rfl, by decide +kernel, by decide +kernel⟩
def tr__law_draw (K : PySem.W.Frag) (w : World)  : TS :=
 (tSeq (tIfS (tTest (tOp (rI0 fun i j => .bl (decide (j < i))) (tOp (rIxU K) (tVar 0) (tC (.str "left"))) (tC (.int 0))))
 (tSeq (tAsg (tOp (rI (fun _ j => 0 < j) fun i j => .int (i % j)) (tCB rIntI (tCons (tOp (rIxU K) (tVar 0) (tC (.str "left"))) tNil)) (tVar 1)) (gName 2))
 (tSeq (tAsg (tOp (rI CDivW fun i j => .int (i / j)) (tOp (rIxU K) (tVar 0) (tC (.str "left"))) (tVar 1)) (gSub (tVar 0) (tC (.str "left")) rSetU))
 (tRet (tVar 2))))
 tNext)
 (tSeq (tAsg (tOp (rIxU K) (tVar 0) (tC (.str "spot"))) (gName 3))
 (tSeq (tAsg (tOp (rAddU K) (tVar 3) (tC (.int 1))) (gSub (tVar 0) (tC (.str "spot")) rSetU))
 (tSeq (tPar 4 5 (tCons (tOp (rIxU K) (tVar 0) (tC (.str "cells"))) (tCons (tOp (rAddU K) (tOp (rIxU K) (tVar 0) (tC (.str "seed"))) (tOp rMulU (tOp rMulU (tC (.int 40503)) (tVar 3)) (tVar 3))) tNil)))
 (tSeq (tAsg (tOp (rIxU K) (tVar 4) (tOp (rI (fun _ j => 0 < j) fun i j => .int (i % j)) (tCB rIntI (tCons (tVar 3) tNil)) (tCB (rLenU K) (tCons (tVar 4) tNil)))) (gName 6))
 (tSeq (tAsg (tOp (rI (fun _ j => 0 < j) fun i j => .int (i % j)) (tCB rIntI (tCons (tOp (rAddU K) (tOp rMulU (tVar 6) (tOp (rAddU K) (tOp rMulU (tC (.int 2)) (tVar 3)) (tC (.int 3)))) (tVar 5)) tNil)) (tC (.int 2147483647))) (gName 7))
 (tSeq (tAsg (tOp (rI (fun _ j => 0 < j) fun i j => .int (i % j)) (tCB rIntI (tCons (tOp (rAddU K) (tOp (rAddU K) (tOp rMulU (tVar 7) (tVar 7)) (tOp rMulU (tC (.int 69621)) (tVar 3))) (tOp (rIxU K) (tVar 0) (tC (.str "seed")))) tNil)) (tC (.int 2147483629))) (gName 7))
 (tRet (tOp (rI (fun _ j => 0 < j) fun i j => .int (i % j)) (tOp (rI CDivW fun i j => .int (i / j)) (tOp (rI (fun _ j => 0 < j) fun i j => .int (i % j)) (tCB rIntI (tCons (tOp (rAddU K) (tOp rMulU (tVar 7) (tC (.int 48271))) (tVar 3)) tNil)) (tC (.int 2147483647))) (tC (.int 11))) (tVar 1))))))))))
theorem bd__law_draw {P : Program} {w : World} {K : PySem.W.Frag} {mg : Str → Option Value} {base : Heap} (T : Blt mg) {fa : Addr} {cdv : Value} {A : Around} {outer : List Env} {s : Shared} {H : Hp} {E : XK} {k : Nat} (hk : 60 ≤ k)
  
  (hr : Room k (A.deeper (envOfC "_law_draw" (defScope st__law_draw) s.heap.objs.size fa cdv))) :
  PSs (cxOf CX0 P w K mg base nm__law_draw "_law_draw" (defScope st__law_draw) fa cdv A outer s H E).nox (defBody st__law_draw) (tr__law_draw K w ) :=
 (pss_cons (ps_if (pt_cmpR op_gt (pe_ix (ix_u (room_n hr hk (by decide))) (pv 0) pe_str (fun _ _ => rfl)) pe_int (nomark _))
 (pss_cons (ps_set (i := 2) sc__law_draw.nd rfl (Or.inl rfl) (pe_op op_mod (pe_callTy call_int1 (by rfl) T.int (by decide +kernel) (pa_cons (pe_ix (ix_u (room_n hr hk (by decide))) (pv 0) pe_str (fun _ _ => rfl)) pa_nil)) (pv 1)))
 (pss_cons (ps_asg (pe_op op_fdivW (pe_ix (ix_u (room_n hr hk (by decide))) (pv 0) pe_str (fun _ _ => rfl)) (pv 1)) (pg_sub (pv 0) pe_str (set_u (room_n hr hk (by decide)))))
 (pss_one (ps_ret (pv 2)))))
 pss_nil)
 (pss_cons (ps_set (i := 3) sc__law_draw.nd rfl (Or.inl rfl) (pe_ix (ix_u (room_n hr hk (by decide))) (pv 0) pe_str (fun _ _ => rfl)))
 (pss_cons (ps_asg (pe_op op_addU (pv 3) pe_int) (pg_sub (pv 0) pe_str (set_u (room_n hr hk (by decide)))))
 (pss_cons (ps_par (i := 4) (j := 5) rfl sc__law_draw.nd rfl rfl (by decide) rfl rfl (pa_cons (pe_ix (ix_u (room_n hr hk (by decide))) (pv 0) pe_str (fun _ _ => rfl)) (pa_cons (pe_op op_addU (pe_ix (ix_u (room_n hr hk (by decide))) (pv 0) pe_str (fun _ _ => rfl)) (pe_op op_mulU (pe_op op_mulU pe_int (pv 3)) (pv 3))) pa_nil)) (by rfl))
 (pss_cons (ps_set (i := 6) sc__law_draw.nd rfl (Or.inl rfl) (pe_ix (ix_u (room_n hr hk (by decide))) (pv 4) (pe_op op_mod (pe_callTy call_int1 (by rfl) T.int (by decide +kernel) (pa_cons (pv 3) pa_nil)) (pe_callB cr_lenU (by rfl) T.len PySem.boot_len (pa_cons (pv 4) pa_nil))) (fun _ _ => rfl)))
 (pss_cons (ps_set (i := 7) sc__law_draw.nd rfl (Or.inl rfl) (pe_op op_mod (pe_callTy call_int1 (by rfl) T.int (by decide +kernel) (pa_cons (pe_op op_addU (pe_op op_mulU (pv 6) (pe_op op_addU (pe_op op_mulU pe_int (pv 3)) pe_int)) (pv 5)) pa_nil)) pe_int))
 (pss_cons (ps_set (i := 7) sc__law_draw.nd rfl (Or.inl rfl) (pe_op op_mod (pe_callTy call_int1 (by rfl) T.int (by decide +kernel) (pa_cons (pe_op op_addU (pe_op op_addU (pe_op op_mulU (pv 7) (pv 7)) (pe_op op_mulU pe_int (pv 3))) (pe_ix (ix_u (room_n hr hk (by decide))) (pv 0) pe_str (fun _ _ => rfl))) pa_nil)) pe_int))
 (pss_one (ps_ret (pe_op op_mod (pe_op op_fdivW (pe_op op_mod (pe_callTy call_int1 (by rfl) T.int (by decide +kernel) (pa_cons (pe_op op_addU (pe_op op_mulU (pv 7) pe_int) (pv 3)) pa_nil)) pe_int) pe_int) (pv 1)))))))))))
abbrev st__law_of : Stmt := topS 8
abbrev nm__law_of : List Str := ["m", "some"]
theorem sc__law_of : FnScope nm__law_of ["m", "some"] (defScope st__law_of) := ⟨rfl, rfl, rfl, by decide +kernel, rfl, by decide +kernel, by decide +kernel⟩
def tr__law_of (K : PySem.W.Frag) (w : World) (sp__law_draw : Sp) : TS :=
 (tRet (tOp (rIxU K) (tVar 1) (tCall sp__law_draw [] E0 (tCons (tVar 0) (tCons (tCB (rLenU K) (tCons (tVar 1) tNil)) tNil)))))
theorem bd__law_of {P : Program} {w : World} {K : PySem.W.Frag} {mg : Str → Option Value} {base : Heap} (T : Blt mg) {fa : Addr} {cdv : Value} {A : Around} {outer : List Env} {s : Shared} {H : Hp} {E : XK} {k : Nat} (hk : 60 ≤ k)
  {k__law_draw : Nat} {sp__law_draw : Sp} (A__law_draw : Fn K mg "_law_draw" (topS 7) ["m", "bound"]) (G__law_draw : FnOk P w K mg base CX0 k__law_draw A__law_draw.f A__law_draw.fd ["m", "bound"] sp__law_draw) (h__law_draw : k__law_draw ≤ k)
  (hr : Room k (A.deeper (envOfC "_law_of" (defScope st__law_of) s.heap.objs.size fa cdv))) :
  PSs (cxOf CX0 P w K mg base nm__law_of "_law_of" (defScope st__law_of) fa cdv A outer s H E).nox (defBody st__law_of) (tr__law_of K w sp__law_draw) :=
 (pss_one (ps_ret (pe_ix (ix_u (room_n hr hk (by decide))) (pv 1) (pe_call G__law_draw (hr.mono h__law_draw) (by rfl) A__law_draw.m A__law_draw.F.kp A__law_draw.b .nil pass0 (pa_cons (pv 0) (pa_cons (pe_callB cr_lenU (by rfl) T.len PySem.boot_len (pa_cons (pv 1) pa_nil)) pa_nil))) (fun _ _ => rfl))))
abbrev st__law_runs : Stmt := topS 9
abbrev nm__law_runs : List Str := ["spots", "found", "spot"]
theorem sc__law_runs : FnScope nm__law_runs ["spots"] (defScope st__law_runs) := ⟨rfl, rfl, rfl, by decide +kernel, rfl, by decide +kernel, by decide +kernel⟩
def tr__law_runs (K : PySem.W.Frag) (w : World)  : TS :=
 (tSeq (tAsg (tLst tNil) (gName 1))
 (tSeq (tFor (iU K (tVar 0)) (gName 2)
 (tIfS (tAnd (tTest (tOp (rNeU K 800) (tVar 1) (tLst tNil))) (tTest (tOp (rEqU K 800) (tOp (rIxU K) (tOp (rIxU K) (tVar 1) (tUn (rU fun i => .int (-i)) (tC (.int 1)))) (tUn (rU fun i => .int (-i)) (tC (.int 1)))) (tOp (rI0 fun i j => .int (i - j)) (tVar 2) (tC (.int 1))))))
 (tDrop (tBM K "list" rAppend (tOp (rIxU K) (tVar 1) (tUn (rU fun i => .int (-i)) (tC (.int 1)))) (tCons (tVar 2) tNil)))
 (tDrop (tBM K "list" rAppend (tVar 1) (tCons (tLst (tCons (tVar 2) tNil)) tNil)))))
 (tRet (tVar 1))))
theorem bd__law_runs {P : Program} {w : World} {K : PySem.W.Frag} {mg : Str → Option Value} {base : Heap} (T : Blt mg) {fa : Addr} {cdv : Value} {A : Around} {outer : List Env} {s : Shared} {H : Hp} {E : XK} {k : Nat} (hk : 60 ≤ k)
  
  (hr : Room k (A.deeper (envOfC "_law_runs" (defScope st__law_runs) s.heap.objs.size fa cdv))) :
  PSs (cxOf CX0 P w K mg base nm__law_runs "_law_runs" (defScope st__law_runs) fa cdv A outer s H E).nox (defBody st__law_runs) (tr__law_runs K w ) :=
 (pss_cons (ps_set (i := 1) sc__law_runs.nd rfl (Or.inl rfl) (pe_lst pa_nil))
 (pss_cons (ps_for PassesOwn.never rfl (pi_u (pv 0)) (pg_name (i := 2) sc__law_runs.nd rfl (Or.inl rfl))
 (pss_one (ps_if (PW.pt (pw_and (pt_cmpR (op_neU (n := 800) (room_n hr hk (by decide))) (pv 1) (pe_lst pa_nil) (nomark _)) (pw_and1 (pt_cmpR (op_eqU (n := 800) (room_n hr hk (by decide))) (pe_ix (ix_u (room_n hr hk (by decide))) (pe_ix (ix_u (room_n hr hk (by decide))) (pv 1) (pe_un un_neg pe_int) (fun _ _ => rfl)) (pe_un un_neg pe_int) (fun _ _ => rfl)) (pe_op op_sub (pv 2) pe_int) (nomark _)))))
 (pss_one (ps_expr (pe_bm PySem.F.plainAttrs_list PySem.F.slot_list_append PySem.F.type_list_append mt_append (pe_ix (ix_u (room_n hr hk (by decide))) (pv 1) (pe_un un_neg pe_int) (fun _ _ => rfl)) (pa_cons (pv 2) pa_nil))))
 (pss_one (ps_expr (pe_bm PySem.F.plainAttrs_list PySem.F.slot_list_append PySem.F.type_list_append mt_append (pv 1) (pa_cons (pe_lst (pa_cons (pv 2) pa_nil)) pa_nil)))))))
 (pss_one (ps_ret (pv 1)))))
abbrev st__law_run_root : Stmt := topS 10
abbrev nm__law_run_root : List Str := ["heights", "spots", "least", "t", "spot", "runs", "run"]
theorem sc__law_run_root : FnScope nm__law_run_root ["heights", "spots", "least"] (defScope st__law_run_root) := ⟨rfl, rfl, rfl, by decide +kernel, rfl, by decide +kernel, by decide +kernel⟩
def tr__law_run_root (K : PySem.W.Frag) (w : World) (sp__law_run_root : Sp) (sp__law_runs : Sp) : TS :=
 (tSeq (tFor (iU K (tRevL K (tCB (rSortedU K w 800) (tCons (tCB (UL.rSetL K w) (tCons (tLc (iU K (tVar 1)) (gName 4) tYes (tOp (rIxU K) (tVar 0) (tVar 4)) [4]) tNil)) tNil)))) (gName 3)
 (tSeq (tAsg (tCall sp__law_runs [] E0 (tCons (tLc (iU K (tVar 1)) (gName 4) (tTest (tOp (rI0 fun i j => .bl (decide (i < j))) (tOp (rIxU K) (tVar 0) (tVar 4)) (tVar 3))) (tVar 4) [4]) tNil)) (gName 5))
 (tIfS (tTest (tOp (rI0 fun i j => .bl (decide (j < i))) (tCB (rLenU K) (tCons (tVar 5) tNil)) (tC (.int 1))))
 (tRet (tTup (tCons (tOp (rI0 fun i j => .int (i - j)) (tVar 3) (tVar 2)) (tCons (tCB (rTupleU K) (tCons (tCB (rSortedU K w 800) (tCons (tLc (iU K (tVar 5)) (gName 6) tYes (tCall sp__law_run_root [] E0 (tCons (tVar 0) (tCons (tVar 6) (tCons (tVar 2) tNil)))) [6]) tNil)) tNil)) tNil))))
 tNext)))
 (tRet (tTup (tCons (tOp (rI0 fun i j => .int (i - j)) (tCB (rMinU K) (tCons (tLc (iU K (tVar 1)) (gName 4) tYes (tOp (rIxU K) (tVar 0) (tVar 4)) [4]) tNil)) (tVar 2)) (tCons (tTup tNil) tNil)))))
theorem bd__law_run_root {P : Program} {w : World} {K : PySem.W.Frag} {mg : Str → Option Value} {base : Heap} (T : Blt mg) {fa : Addr} {cdv : Value} {A : Around} {outer : List Env} {s : Shared} {H : Hp} {E : XK} {k : Nat} (hk : 60 ≤ k)
  {k__law_run_root : Nat} {sp__law_run_root : Sp} (A__law_run_root : Fn K mg "_law_run_root" (topS 10) ["heights", "spots", "least"]) (G__law_run_root : FnOk P w K mg base CX0 k__law_run_root A__law_run_root.f A__law_run_root.fd ["heights", "spots", "least"] sp__law_run_root) (h__law_run_root : k__law_run_root ≤ k)
  {k__law_runs : Nat} {sp__law_runs : Sp} (A__law_runs : Fn K mg "_law_runs" (topS 9) ["spots"]) (G__law_runs : FnOk P w K mg base CX0 k__law_runs A__law_runs.f A__law_runs.fd ["spots"] sp__law_runs) (h__law_runs : k__law_runs ≤ k)
  (hr : Room k (A.deeper (envOfC "_law_run_root" (defScope st__law_run_root) s.heap.objs.size fa cdv))) :
  PSs (cxOf CX0 P w K mg base nm__law_run_root "_law_run_root" (defScope st__law_run_root) fa cdv A outer s H E).nox (defBody st__law_run_root) (tr__law_run_root K w sp__law_run_root sp__law_runs) :=
 (pss_cons (ps_for PassesOwn.never rfl (pi_u (pe_revL (pe_callB (cr_sortedU (n := 800) rfl (room_2n hr hk (by decide))) (by rfl) T.sorted PyProof.Rows.boot_sorted (pa_cons (pe_callTy (UL.cr_setL rfl) (by rfl) T.set (by decide +kernel) (pa_cons (pe_lc (own := [("spot", 4)]) (g := (gName 4)) (tt := tYes) rfl sc__law_run_root.nd (pi_u (pv 1)) (blkOk_by (own := [("spot", 4)]) (N := nm__law_run_root) (sc := defScope st__law_run_root) (by decide +kernel)) (fun _ _ _ _ _ => (pg_name (i := 4) sc__law_run_root.nd rfl (by first | exact Or.inl rfl | exact Or.inr rfl))) (fun _ _ _ _ _ => pts_nil) (fun _ _ _ _ _ => (pe_ix (ix_u (room_n hr hk (by decide))) (pv 0) (pv 4) (fun _ _ => rfl)))) pa_nil)) pa_nil)))) (pg_name (i := 3) sc__law_run_root.nd rfl (Or.inr rfl))
 (pss_cons (ps_set (i := 5) sc__law_run_root.nd rfl (Or.inl rfl) (pe_call G__law_runs (hr.mono h__law_runs) (by rfl) A__law_runs.m A__law_runs.F.kp A__law_runs.b .nil pass0 (pa_cons (pe_lc (own := [("spot", 4)]) (g := (gName 4)) (tt := (tTest (tOp (rI0 fun i j => .bl (decide (i < j))) (tOp (rIxU K) (tVar 0) (tVar 4)) (tVar 3)))) rfl sc__law_run_root.nd (pi_u (pv 1)) (blkOk_by (own := [("spot", 4)]) (N := nm__law_run_root) (sc := defScope st__law_run_root) (by decide +kernel)) (fun _ _ _ _ _ => (pg_name (i := 4) sc__law_run_root.nd rfl (by first | exact Or.inl rfl | exact Or.inr rfl))) (fun _ _ _ _ _ => (pts_one (pt_cmpR op_lt (pe_ix (ix_u (room_n hr hk (by decide))) (pv 0) (pv 4) (fun _ _ => rfl)) (pv 3) (nomark _)))) (fun _ _ _ _ _ => (pv 4))) pa_nil)))
 (pss_one (ps_if (pt_cmpR op_gt (pe_callB cr_lenU (by rfl) T.len PySem.boot_len (pa_cons (pv 5) pa_nil)) pe_int (nomark _))
 (pss_one (ps_ret (pe_tup (pa_cons (pe_op op_sub (pv 3) (pv 2)) (pa_cons (pe_callTy cr_tupleU (by rfl) T.tuple (by decide +kernel) (pa_cons (pe_callB (cr_sortedU (n := 800) rfl (room_2n hr hk (by decide))) (by rfl) T.sorted PyProof.Rows.boot_sorted (pa_cons (pe_lc (own := [("run", 6)]) (g := (gName 6)) (tt := tYes) rfl sc__law_run_root.nd (pi_u (pv 5)) (blkOk_by (own := [("run", 6)]) (N := nm__law_run_root) (sc := defScope st__law_run_root) (by decide +kernel)) (fun _ _ _ _ _ => (pg_name (i := 6) sc__law_run_root.nd rfl (by first | exact Or.inl rfl | exact Or.inr rfl))) (fun _ _ _ _ _ => pts_nil) (fun _ _ _ _ _ => (pe_call G__law_run_root (hr.mono h__law_run_root) (by rfl) A__law_run_root.m A__law_run_root.F.kp A__law_run_root.b .nil pass0 (pa_cons (pv 0) (pa_cons (pv 6) (pa_cons (pv 2) pa_nil)))))) pa_nil)) pa_nil)) pa_nil)))))
 pss_nil))))
 (pss_one (ps_ret (pe_tup (pa_cons (pe_op op_sub (pe_callB (cr_minU rfl (room_n hr hk (by decide))) (by rfl) T.min PyProof.Rows.boot_min (pa_cons (pe_lc (own := [("spot", 4)]) (g := (gName 4)) (tt := tYes) rfl sc__law_run_root.nd (pi_u (pv 1)) (blkOk_by (own := [("spot", 4)]) (N := nm__law_run_root) (sc := defScope st__law_run_root) (by decide +kernel)) (fun _ _ _ _ _ => (pg_name (i := 4) sc__law_run_root.nd rfl (by first | exact Or.inl rfl | exact Or.inr rfl))) (fun _ _ _ _ _ => pts_nil) (fun _ _ _ _ _ => (pe_ix (ix_u (room_n hr hk (by decide))) (pv 0) (pv 4) (fun _ _ => rfl)))) pa_nil)) (pv 2)) (pa_cons (pe_tup pa_nil) pa_nil))))))
abbrev st__law_row_root : Stmt := topS 11
abbrev nm__law_row_root : List Str := ["heights"]
theorem sc__law_row_root : FnScope nm__law_row_root ["heights"] (defScope st__law_row_root) := ⟨rfl, rfl, rfl, by decide +kernel, rfl, by decide +kernel, by decide +kernel⟩
def tr__law_row_root (K : PySem.W.Frag) (w : World) (sp__law_run_root : Sp) : TS :=
 (tRet (tCall sp__law_run_root [] E0 (tCons (tVar 0) (tCons (tLstRg (tRg1 (tCB (rLenU K) (tCons (tVar 0) tNil)))) (tCons (tCB (rMinU K) (tCons (tVar 0) tNil)) tNil)))))
theorem bd__law_row_root {P : Program} {w : World} {K : PySem.W.Frag} {mg : Str → Option Value} {base : Heap} (T : Blt mg) {fa : Addr} {cdv : Value} {A : Around} {outer : List Env} {s : Shared} {H : Hp} {E : XK} {k : Nat} (hk : 60 ≤ k)
  {k__law_run_root : Nat} {sp__law_run_root : Sp} (A__law_run_root : Fn K mg "_law_run_root" (topS 10) ["heights", "spots", "least"]) (G__law_run_root : FnOk P w K mg base CX0 k__law_run_root A__law_run_root.f A__law_run_root.fd ["heights", "spots", "least"] sp__law_run_root) (h__law_run_root : k__law_run_root ≤ k)
  (hr : Room k (A.deeper (envOfC "_law_row_root" (defScope st__law_row_root) s.heap.objs.size fa cdv))) :
  PSs (cxOf CX0 P w K mg base nm__law_row_root "_law_row_root" (defScope st__law_row_root) fa cdv A outer s H E).nox (defBody st__law_row_root) (tr__law_row_root K w sp__law_run_root) :=
 (pss_one (ps_ret (pe_call G__law_run_root (hr.mono h__law_run_root) (by rfl) A__law_run_root.m A__law_run_root.F.kp A__law_run_root.b .nil pass0 (pa_cons (pv 0) (pa_cons (pe_listRg rfl (by rfl) T.list (prg_1 (by rfl) T.range (pe_callB cr_lenU (by rfl) T.len PySem.boot_len (pa_cons (pv 0) pa_nil)))) (pa_cons (pe_callB (cr_minU rfl (room_n hr hk (by decide))) (by rfl) T.min PyProof.Rows.boot_min (pa_cons (pv 0) pa_nil)) pa_nil))))))
abbrev st_law : Stmt := topS 12
abbrev nm_law : List Str := ["script", "turn", "m", "wide", "row", "step", "entry", "told", "due", "more", "twice", "far"]
theorem sc_law : FnScope nm_law ["script"] (defScope st_law) := ⟨rfl, rfl, rfl, by decide +kernel, rfl, by decide +kernel, by decide +kernel⟩
def tr_law (K : PySem.W.Frag) (w : World) (sp__law_begun : Sp) (sp__law_draw : Sp) (sp__law_of : Sp) (sp__law_row_root : Sp) (sp_root_of_row : Sp) : TS :=
 (tSeq (tFor (iRng1 (tCons (tC (.int 3)) tNil)) (gName 1)
 (tSeq (tAsg (tCall sp__law_begun [] E0 (tCons (tVar 0) (tCons (tVar 1) tNil))) (gName 2))
 (tSeq (tPar 3 4 (tCons (tCall sp__law_of [] E0 (tCons (tVar 2) (tCons (tLst (tCons (tC (.int 2)) (tCons (tC (.int 3)) (tCons (tC (.int 6)) (tCons (tC (.int 40)) (tCons (tOp (rI CPow fun i j => .int (i ^ j.toNat)) (tC (.int 10)) (tC (.int 12))) tNil)))))) tNil))) (tCons (tLst tNil) tNil)))
 (tSeq (tFor (iRng1 (tCons (tOp (rAddU K) (tC (.int 1)) (tCall sp__law_draw [] E0 (tCons (tVar 2) (tCons (tC (.int 20)) tNil)))) tNil)) (gName 5)
 (tSeq (tAsg (tOp (rI0 fun i j => .int (i - j)) (tCall sp__law_draw [] E0 (tCons (tVar 2) (tCons (tVar 3) tNil))) (tOp (rI CDivW fun i j => .int (i / j)) (tVar 3) (tC (.int 2)))) (gName 6))
 (tDrop (tBM K "list" rAppend (tVar 4) (tCons (tIf (tAnd (tTest (tOp (rNeU K 800) (tVar 4) (tLst tNil))) (tTest (tOp (rEqU K 800) (tCall sp__law_draw [] E0 (tCons (tVar 2) (tCons (tC (.int 5)) tNil))) (tC (.int 0))))) (tOp (rIxU K) (tVar 4) (tUn (rU fun i => .int (-i)) (tC (.int 1)))) (tVar 6)) tNil)))))
 (tSeq (tPar 7 8 (tCons (tCall sp_root_of_row [] E0 (tCons (tCB (rTupleU K) (tCons (tVar 4) tNil)) tNil)) (tCons (tCall sp__law_row_root [] E0 (tCons (tVar 4) tNil)) tNil)))
 (tSeq (tIfS (tOr (tTest (tOp (rNeU K 800) (tCB (UG.rReprB K 800) (tCons (tVar 7) tNil)) (tCB (UG.rReprB K 800) (tCons (tVar 8) tNil)))) (tTest (tOp (rNeU K 800) (tCall sp_root_of_row [] E0 (tCons (tCB (rTupleU K) (tCons (tRevL K (tVar 4)) tNil)) tNil)) (tVar 8))))
 (tRet (tC (.bl false)))
 tNext)
 (tSeq (tAsg (tOp (rI0 fun i j => .int (i - j)) (tCall sp__law_draw [] E0 (tCons (tVar 2) (tCons (tC (.int 100)) tNil))) (tC (.int 50))) (gName 9))
 (tSeq (tIfS (tTest (tOp (rNeU K 800) (tCall sp_root_of_row [] E0 (tCons (tCB (rTupleU K) (tCons (tLc (iU K (tVar 4)) (gName 6) tYes (tOp (rAddU K) (tVar 6) (tVar 9)) [6]) tNil)) tNil)) (tVar 8)))
 (tRet (tC (.bl false)))
 tNext)
 (tSeq (tAsg (tLst tNil) (gName 10))
 (tSeq (tFor (iU K (tVar 4)) (gName 6)
 (tDrop (tBM K "list" rExtend (tVar 10) (tCons (tLst (tCons (tVar 6) (tCons (tVar 6) tNil))) tNil))))
 (tSeq (tIfS (tTest (tOp (rNeU K 800) (tCall sp_root_of_row [] E0 (tCons (tCB (rTupleU K) (tCons (tVar 10) tNil)) tNil)) (tVar 8)))
 (tRet (tC (.bl false)))
 tNext)
 (tIfS (tOr (tTest (tOp (rNeU K 800) (tCall sp_root_of_row [] E0 (tCons (tCB (rTupleU K) (tCons (tCB (rSortedU K w 800) (tCons (tVar 4) tNil)) tNil)) tNil)) (tTup (tCons (tC (.int 0)) (tCons (tTup tNil) tNil))))) (tTest (tOp (rNeU K 800) (tCall sp_root_of_row [] E0 (tCons (tCB (rTupleU K) (tCons (tRevL K (tCB (rSortedU K w 800) (tCons (tVar 4) tNil))) tNil)) tNil)) (tTup (tCons (tC (.int 0)) (tCons (tTup tNil) tNil))))))
 (tRet (tC (.bl false)))
 tNext))))))))))))
 (tSeq (tIfS (tTest (tOp (rEqU K 800) (tCall sp__law_draw [] E0 (tCons (tVar 2) (tCons (tC (.int 10)) tNil))) (tC (.int 0))))
 (tSeq (tAsg (tCB (rTupleU K) (tCons (tLc (iRng1 (tCons (tC (.int 500)) tNil)) (gName 5) tYes (tCall sp__law_draw [] E0 (tCons (tVar 2) (tCons (tC (.int 5)) tNil))) [5]) tNil)) (gName 11))
 (tIfS (tTest (tOp (rNeU K 800) (tCall sp_root_of_row [] E0 (tCons (tVar 11) tNil)) (tCall sp__law_row_root [] E0 (tCons (tCB (rListOf K) (tCons (tVar 11) tNil)) tNil))))
 (tRet (tC (.bl false)))
 tNext))
 tNext)
 (tRet (tOp (rEqU K 800) (tCall sp_root_of_row [] E0 (tCons (tTup (tCons (tC (.int 0)) (tCons (tC (.int 2)) (tCons (tC (.int 0)) (tCons (tC (.int 1)) (tCons (tC (.int 0)) tNil)))))) tNil)) (tTup (tCons (tC (.int 2)) (tCons (tTup (tCons (tTup (tCons (tC (.int 0)) (tCons (tTup tNil) tNil))) (tCons (tTup (tCons (tC (.int 1)) (tCons (tTup (tCons (tTup (tCons (tC (.int 0)) (tCons (tTup tNil) tNil))) (tCons (tTup (tCons (tC (.int 0)) (tCons (tTup tNil) tNil))) tNil))) tNil))) tNil))) tNil)))))))
theorem bd_law {P : Program} {w : World} {K : PySem.W.Frag} {mg : Str → Option Value} {base : Heap} (T : Blt mg) {fa : Addr} {cdv : Value} {A : Around} {outer : List Env} {s : Shared} {H : Hp} {E : XK} {k : Nat} (hk : 60 ≤ k)
  (hg : (A.deeper (envOfC "law" (defScope st_law) s.heap.objs.size fa cdv)).guards = some [])
  {k__law_begun : Nat} {sp__law_begun : Sp} (A__law_begun : Fn K mg "_law_begun" (topS 6) ["script", "k"]) (G__law_begun : FnOk P w K mg base CX0 k__law_begun A__law_begun.f A__law_begun.fd ["script", "k"] sp__law_begun) (h__law_begun : k__law_begun ≤ k)
  {k__law_draw : Nat} {sp__law_draw : Sp} (A__law_draw : Fn K mg "_law_draw" (topS 7) ["m", "bound"]) (G__law_draw : FnOk P w K mg base CX0 k__law_draw A__law_draw.f A__law_draw.fd ["m", "bound"] sp__law_draw) (h__law_draw : k__law_draw ≤ k)
  {k__law_of : Nat} {sp__law_of : Sp} (A__law_of : Fn K mg "_law_of" (topS 8) ["m", "some"]) (G__law_of : FnOk P w K mg base CX0 k__law_of A__law_of.f A__law_of.fd ["m", "some"] sp__law_of) (h__law_of : k__law_of ≤ k)
  {k__law_row_root : Nat} {sp__law_row_root : Sp} (A__law_row_root : Fn K mg "_law_row_root" (topS 11) ["heights"]) (G__law_row_root : FnOk P w K mg base CX0 k__law_row_root A__law_row_root.f A__law_row_root.fd ["heights"] sp__law_row_root) (h__law_row_root : k__law_row_root ≤ k)
  {k_root_of_row : Nat} {sp_root_of_row : Sp} (A_root_of_row : Fn K mg "root_of_row" (topS 4) ["heights"]) (G_root_of_row : FnOk P w K mg base CX0 k_root_of_row A_root_of_row.f A_root_of_row.fd ["heights"] sp_root_of_row) (h_root_of_row : k_root_of_row ≤ k)
  (hr : Room k (A.deeper (envOfC "law" (defScope st_law) s.heap.objs.size fa cdv))) :
  PSs (cxOf CX0 P w K mg base nm_law "law" (defScope st_law) fa cdv A outer s H E).nox (defBody st_law) (tr_law K w sp__law_begun sp__law_draw sp__law_of sp__law_row_root sp_root_of_row) :=
 (pss_cons (ps_for PassesOwn.never rfl (pi_range1 (by rfl) T.range (pa_cons pe_int pa_nil)) (pg_name (i := 1) sc_law.nd rfl (Or.inl rfl))
 (pss_cons (ps_set (i := 2) sc_law.nd rfl (Or.inr rfl) (pe_call G__law_begun (hr.mono h__law_begun) (by rfl) A__law_begun.m A__law_begun.F.kp A__law_begun.b .nil pass0 (pa_cons (pv 0) (pa_cons (pv 1) pa_nil))))
 (pss_cons (ps_par (i := 3) (j := 4) rfl sc_law.nd rfl rfl (by decide) rfl rfl (pa_cons (pe_call G__law_of (hr.mono h__law_of) (by rfl) A__law_of.m A__law_of.F.kp A__law_of.b .nil pass0 (pa_cons (pv 2) (pa_cons (pe_lst (pa_cons pe_int (pa_cons pe_int (pa_cons pe_int (pa_cons pe_int (pa_cons (pe_op op_pow pe_int pe_int) pa_nil)))))) pa_nil))) (pa_cons (pe_lst pa_nil) pa_nil)) (by rfl))
 (pss_cons (ps_for PassesOwn.never rfl (pi_range1 (by rfl) T.range (pa_cons (pe_op op_addU pe_int (pe_call G__law_draw (hr.mono h__law_draw) (by rfl) A__law_draw.m A__law_draw.F.kp A__law_draw.b .nil pass0 (pa_cons (pv 2) (pa_cons pe_int pa_nil)))) pa_nil)) (pg_name (i := 5) sc_law.nd rfl (Or.inl rfl))
 (pss_cons (ps_set (i := 6) sc_law.nd rfl (Or.inl rfl) (pe_op op_sub (pe_call G__law_draw (hr.mono h__law_draw) (by rfl) A__law_draw.m A__law_draw.F.kp A__law_draw.b .nil pass0 (pa_cons (pv 2) (pa_cons (pv 3) pa_nil))) (pe_op op_fdivW (pv 3) pe_int)))
 (pss_one (ps_expr (pe_bm PySem.F.plainAttrs_list PySem.F.slot_list_append PySem.F.type_list_append mt_append (pv 4) (pa_cons (pe_ifExp (PW.pt (pw_and (pt_cmpR (op_neU (n := 800) (room_n hr hk (by decide))) (pv 4) (pe_lst pa_nil) (nomark _)) (pw_and1 (pt_cmpR (op_eqU (n := 800) (room_n hr hk (by decide))) (pe_call G__law_draw (hr.mono h__law_draw) (by rfl) A__law_draw.m A__law_draw.F.kp A__law_draw.b .nil pass0 (pa_cons (pv 2) (pa_cons pe_int pa_nil))) pe_int (nomark _))))) (pe_ix (ix_u (room_n hr hk (by decide))) (pv 4) (pe_un un_neg pe_int) (fun _ _ => rfl)) (pv 6)) pa_nil))))))
 (pss_cons (ps_par (i := 7) (j := 8) rfl sc_law.nd rfl rfl (by decide) rfl rfl (pa_cons (pe_call G_root_of_row (hr.mono h_root_of_row) (by rfl) A_root_of_row.m A_root_of_row.F.kp A_root_of_row.b .nil pass0 (pa_cons (pe_callTy cr_tupleU (by rfl) T.tuple (by decide +kernel) (pa_cons (pv 4) pa_nil)) pa_nil)) (pa_cons (pe_call G__law_row_root (hr.mono h__law_row_root) (by rfl) A__law_row_root.m A__law_row_root.F.kp A__law_row_root.b .nil pass0 (pa_cons (pv 4) pa_nil)) pa_nil)) (by rfl))
 (pss_cons (ps_if (PW.pt (pw_or (pt_cmpR (op_neU (n := 800) (room_n hr hk (by decide))) (pe_callB (UG.cr_reprB (n := 800) hg (room_1n hr hk (by decide))) (by rfl) T.repr (by decide +kernel) (pa_cons (pv 7) pa_nil)) (pe_callB (UG.cr_reprB (n := 800) hg (room_1n hr hk (by decide))) (by rfl) T.repr (by decide +kernel) (pa_cons (pv 8) pa_nil)) (nomark _)) (pw_or1 (pt_cmpR (op_neU (n := 800) (room_n hr hk (by decide))) (pe_call G_root_of_row (hr.mono h_root_of_row) (by rfl) A_root_of_row.m A_root_of_row.F.kp A_root_of_row.b .nil pass0 (pa_cons (pe_callTy cr_tupleU (by rfl) T.tuple (by decide +kernel) (pa_cons (pe_revL (pv 4)) pa_nil)) pa_nil)) (pv 8) (nomark _)))))
 (pss_one (ps_ret pe_bl))
 pss_nil)
 (pss_cons (ps_set (i := 9) sc_law.nd rfl (Or.inr rfl) (pe_op op_sub (pe_call G__law_draw (hr.mono h__law_draw) (by rfl) A__law_draw.m A__law_draw.F.kp A__law_draw.b .nil pass0 (pa_cons (pv 2) (pa_cons pe_int pa_nil))) pe_int))
 (pss_cons (ps_if (pt_cmpR (op_neU (n := 800) (room_n hr hk (by decide))) (pe_call G_root_of_row (hr.mono h_root_of_row) (by rfl) A_root_of_row.m A_root_of_row.F.kp A_root_of_row.b .nil pass0 (pa_cons (pe_callTy cr_tupleU (by rfl) T.tuple (by decide +kernel) (pa_cons (pe_lc (own := [("entry", 6)]) (g := (gName 6)) (tt := tYes) rfl sc_law.nd (pi_u (pv 4)) (blkOk_by (own := [("entry", 6)]) (N := nm_law) (sc := defScope st_law) (by decide +kernel)) (fun _ _ _ _ _ => (pg_name (i := 6) sc_law.nd rfl (by first | exact Or.inl rfl | exact Or.inr rfl))) (fun _ _ _ _ _ => pts_nil) (fun _ _ _ _ _ => (pe_op op_addU (pv 6) (pv 9)))) pa_nil)) pa_nil)) (pv 8) (nomark _))
 (pss_one (ps_ret pe_bl))
 pss_nil)
 (pss_cons (ps_set (i := 10) sc_law.nd rfl (Or.inl rfl) (pe_lst pa_nil))
 (pss_cons (ps_for PassesOwn.never rfl (pi_u (pv 4)) (pg_name (i := 6) sc_law.nd rfl (Or.inl rfl))
 (pss_one (ps_expr (pe_bm PySem.F.plainAttrs_list PySem.F.slot_list_extend PySem.F.type_list_extend mt_extend (pv 10) (pa_cons (pe_lst (pa_cons (pv 6) (pa_cons (pv 6) pa_nil))) pa_nil)))))
 (pss_cons (ps_if (pt_cmpR (op_neU (n := 800) (room_n hr hk (by decide))) (pe_call G_root_of_row (hr.mono h_root_of_row) (by rfl) A_root_of_row.m A_root_of_row.F.kp A_root_of_row.b .nil pass0 (pa_cons (pe_callTy cr_tupleU (by rfl) T.tuple (by decide +kernel) (pa_cons (pv 10) pa_nil)) pa_nil)) (pv 8) (nomark _))
 (pss_one (ps_ret pe_bl))
 pss_nil)
 (pss_one (ps_if (PW.pt (pw_or (pt_cmpR (op_neU (n := 800) (room_n hr hk (by decide))) (pe_call G_root_of_row (hr.mono h_root_of_row) (by rfl) A_root_of_row.m A_root_of_row.F.kp A_root_of_row.b .nil pass0 (pa_cons (pe_callTy cr_tupleU (by rfl) T.tuple (by decide +kernel) (pa_cons (pe_callB (cr_sortedU (n := 800) rfl (room_2n hr hk (by decide))) (by rfl) T.sorted PyProof.Rows.boot_sorted (pa_cons (pv 4) pa_nil)) pa_nil)) pa_nil)) (pe_tup (pa_cons pe_int (pa_cons (pe_tup pa_nil) pa_nil))) (nomark _)) (pw_or1 (pt_cmpR (op_neU (n := 800) (room_n hr hk (by decide))) (pe_call G_root_of_row (hr.mono h_root_of_row) (by rfl) A_root_of_row.m A_root_of_row.F.kp A_root_of_row.b .nil pass0 (pa_cons (pe_callTy cr_tupleU (by rfl) T.tuple (by decide +kernel) (pa_cons (pe_revL (pe_callB (cr_sortedU (n := 800) rfl (room_2n hr hk (by decide))) (by rfl) T.sorted PyProof.Rows.boot_sorted (pa_cons (pv 4) pa_nil))) pa_nil)) pa_nil)) (pe_tup (pa_cons pe_int (pa_cons (pe_tup pa_nil) pa_nil))) (nomark _)))))
 (pss_one (ps_ret pe_bl))
 pss_nil)))))))))))))
 (pss_cons (ps_if (pt_cmpR (op_eqU (n := 800) (room_n hr hk (by decide))) (pe_call G__law_draw (hr.mono h__law_draw) (by rfl) A__law_draw.m A__law_draw.F.kp A__law_draw.b .nil pass0 (pa_cons (pv 2) (pa_cons pe_int pa_nil))) pe_int (nomark _))
 (pss_cons (ps_set (i := 11) sc_law.nd rfl (Or.inl rfl) (pe_callTy cr_tupleU (by rfl) T.tuple (by decide +kernel) (pa_cons (pe_lc (own := [("step", 5)]) (g := (gName 5)) (tt := tYes) rfl sc_law.nd (pi_range1 (by rfl) T.range (pa_cons pe_int pa_nil)) (blkOk_by (own := [("step", 5)]) (N := nm_law) (sc := defScope st_law) (by decide +kernel)) (fun _ _ _ _ _ => (pg_name (i := 5) sc_law.nd rfl (by first | exact Or.inl rfl | exact Or.inr rfl))) (fun _ _ _ _ _ => pts_nil) (fun _ _ _ _ _ => (pe_call G__law_draw (hr.mono h__law_draw) (by rfl) A__law_draw.m A__law_draw.F.kp A__law_draw.b .nil pass0 (pa_cons (pv 2) (pa_cons pe_int pa_nil))))) pa_nil)))
 (pss_one (ps_if (pt_cmpR (op_neU (n := 800) (room_n hr hk (by decide))) (pe_call G_root_of_row (hr.mono h_root_of_row) (by rfl) A_root_of_row.m A_root_of_row.F.kp A_root_of_row.b .nil pass0 (pa_cons (pv 11) pa_nil)) (pe_call G__law_row_root (hr.mono h__law_row_root) (by rfl) A__law_row_root.m A__law_row_root.F.kp A__law_row_root.b .nil pass0 (pa_cons (pe_callTy call_list_of (by rfl) T.list (by decide +kernel) (pa_cons (pv 11) pa_nil)) pa_nil)) (nomark _))
 (pss_one (ps_ret pe_bl))
 pss_nil)))
 pss_nil)
 (pss_one (ps_ret (pe_cmpR (op_eqU (n := 800) (room_n hr hk (by decide))) (pe_call G_root_of_row (hr.mono h_root_of_row) (by rfl) A_root_of_row.m A_root_of_row.F.kp A_root_of_row.b .nil pass0 (pa_cons (pe_tup (pa_cons pe_int (pa_cons pe_int (pa_cons pe_int (pa_cons pe_int (pa_cons pe_int pa_nil)))))) pa_nil)) (pe_tup (pa_cons pe_int (pa_cons (pe_tup (pa_cons (pe_tup (pa_cons pe_int (pa_cons (pe_tup pa_nil) pa_nil))) (pa_cons (pe_tup (pa_cons pe_int (pa_cons (pe_tup (pa_cons (pe_tup (pa_cons pe_int (pa_cons (pe_tup pa_nil) pa_nil))) (pa_cons (pe_tup (pa_cons pe_int (pa_cons (pe_tup pa_nil) pa_nil))) pa_nil))) pa_nil))) pa_nil))) pa_nil))) (nomark _))))))

end K59
set_option Elab.async false
set_option maxRecDepth 100000
set_option maxHeartbeats 4000000
set_option linter.all false
/-! K59P: plain things for the law of k59. -/
namespace K59P
open PySem RT RunRoot RunRow
def stepR (found : List (List Int)) (x : Int) : List (List Int) := match found.getLast? with
  | some s => if s.getLast? = some (x - 1) then found.dropLast ++ [s ++ [x]] else found ++ [[x]]
  | none => [[x]]
def runsM (l : List Int) : List (List Int) := l.foldl stepR []
theorem stepR_none (x : Int) : stepR [] x = [[x]] := rfl
theorem stepR_some {fs : List (List Int)} {s : List Int} {x : Int} : stepR (fs ++ [s]) x = if s.getLast? = some (x - 1) then fs ++ [s ++ [x]] else fs ++ [s] ++ [[x]] := by
  unfold stepR
  rw [List.getLast?_concat]
  show (if s.getLast? = some (x - 1) then (fs ++ [s]).dropLast ++ [s ++ [x]] else fs ++ [s] ++ [[x]]) = _
  rw [List.dropLast_concat]
theorem snoc_or {α : Type} (l : List α) : l = [] ∨ ∃ u x, l = u ++ [x] := by
  rcases List.eq_nil_or_concat l with h | ⟨u, x, h⟩
  · exact .inl h
  · exact .inr ⟨u, x, by rw [h, List.concat_eq_append]⟩
theorem stepR_app {A B : List (List Int)} {x : Int} (h : B ≠ []) : stepR (A ++ B) x = A ++ stepR B x := by
  rcases snoc_or B with e | ⟨u, s, rfl⟩
  · exact absurd e h
  · rw [← List.append_assoc, stepR_some, stepR_some]
    split <;> simp
theorem ivl_snoc (a : Int) (n : Nat) : ivl a (n + 1) = ivl a n ++ [a + n] := by
  unfold ivl
  rw [List.range_succ, List.map_append]; rfl
theorem ivl_getLast {a : Int} {n : Nat} (h : 0 < n) : (ivl a n).getLast? = some (a + n - 1) := by
  obtain ⟨m, rfl⟩ : ∃ m, n = m + 1 := ⟨n - 1, by omega⟩
  rw [ivl_snoc, List.getLast?_concat]
  congr 1
  omega
theorem segs_snoc {p : Int → Bool} : ∀ (n : Nat) (a : Int), p (a + n) = true → segs p (ivl a n ++ [a + n]) = stepR (segs p (ivl a n)) (a + n) := by
  intro n
  induction n using Nat.strongRecOn with
  | ind n ih =>
    intro a hx
    rcases split_or p (ivl a n) with hall | ⟨u, z, v, e, hz⟩
    · by_cases h0 : n = 0
      · subst h0
        have e0 : ivl a 0 = [] := rfl
        rw [e0, segs_nil, stepR_none, List.nil_append]
        exact segs_all (fun y hy => by rw [List.mem_singleton.mp hy]; exact hx) (by simp)
      · have hne : ivl a n ≠ [] := fun z => by
          have := ivl_len a n
          rw [z] at this
          exact h0 this.symm
        rw [segs_all hall hne]
        have e1 : ([ivl a n] : List (List Int)) = [] ++ [ivl a n] := rfl
        rw [e1, stepR_some, if_pos (ivl_getLast (by omega)), List.nil_append]
        refine segs_all (fun y hy => ?_) (by simp)
        rcases List.mem_append.mp hy with hy | hy
        · exact hall y hy
        · rw [List.mem_singleton.mp hy]; exact hx
    · have hn : n = u.length + (1 + v.length) := by
        have := congrArg List.length e
        rw [ivl_len] at this
        simp only [List.length_append, List.length_cons] at this
        omega
      obtain ⟨ev, _⟩ := ivl_piece (a := a) (n := n) (u := u ++ [z]) (s := v) (v := []) (by rw [e]; simp)
      obtain ⟨eu, _⟩ := ivl_piece (a := a) (n := n) (u := []) (s := u) (v := z :: v) (by rw [e]; simp)
      have hlen1 : ((u ++ [z]).length : Int) = u.length + 1 := by rw [List.length_append]; rfl
      rw [hlen1] at ev
      have hxv : a + (u.length + 1) + (v.length : Int) = a + n := by omega
      have key := ih v.length (by omega) (a + (u.length + 1)) (by rw [hxv]; exact hx)
      rw [← ev, hxv] at key
      rw [e, List.append_assoc, List.cons_append, segs_mid hz, segs_mid hz, key]
      by_cases hv : segs p v = []
      · rw [hv, stepR_none, List.append_nil]
        rcases snoc_or (segs p u) with q | ⟨fs, s, q⟩
        · rw [q, stepR_none]; rfl
        · rw [q, stepR_some, if_neg]
          intro hl
          have hs : s ∈ segs p u := by rw [q]; simp
          have hm := seg_sub hs _ (List.mem_of_getLast? hl)
          rw [eu] at hm
          have := (mem_ivl.mp hm).2
          simp only [List.length_nil] at this
          omega
      · rw [stepR_app hv]
/-- the runs of the places that are told -/
theorem runsM_segs {p : Int → Bool} (a : Int) : ∀ n : Nat, runsM ((ivl a n).filter p) = segs p (ivl a n)
  | 0 => rfl
  | n + 1 => by
    have ih := runsM_segs (p := p) a n
    rw [ivl_snoc, List.filter_append]
    by_cases h : p (a + n) = true
    · rw [segs_snoc n a h, ← ih]
      have : [a + (n : Int)].filter p = [a + n] := by simp [h]
      rw [this]
      unfold runsM
      rw [List.foldl_append]; rfl
    · have h' : p (a + n) = false := by simpa using h
      have : [a + (n : Int)].filter p = [] := by simp [h']
      rw [this, List.append_nil, ih, segs_post]
      intro y hy
      rw [List.mem_singleton.mp hy]; exact h'
/-! ### the loop over the heights, from the greatest on -/
/-- what is known when the first i heights did not split -/
def Inv (least : Int) (V ts : List Int) (i : Nat) : Prop :=
  (∀ t, ts[i]? = some t → R least V = R least (V.filter fun x => decide (x ≤ t)) ∧ ∀ t', t' ≤ t → segs (lt t') V = segs (lt t') (V.filter fun x => decide (x ≤ t))) ∧
  (i = ts.length → ∃ mn ∈ V, (∀ x ∈ V, mn ≤ x) ∧ R least V = .mk (mn - least) [])
theorem inv_start {least : Int} {V ts : List Int} (hd : ts.Pairwise (· > ·)) (hm : ∀ x, x ∈ ts ↔ x ∈ V) (hV : V ≠ []) : Inv least V ts 0 := by
  constructor
  · intro t ht
    have e : (V.filter fun x => decide (x ≤ t)) = V := List.filter_eq_self.mpr fun x hx => by
      have hx' := (hm x).mpr hx
      match ts, ht, hd, hx' with
      | t0 :: ts, ht, hd, hx' =>
        obtain rfl : t0 = t := Option.some.inj ht
        rcases List.mem_cons.mp hx' with q | q
        · simp [q]
        · have := (List.pairwise_cons.mp hd).1 x q
          simp only [decide_eq_true_eq]; omega
    rw [e]
    exact ⟨rfl, fun _ _ => rfl⟩
  · intro h
    exfalso
    have e : ts = [] := List.length_eq_zero_iff.mp h.symm
    obtain ⟨x, hx⟩ := List.exists_mem_of_ne_nil V hV
    have := (hm x).mpr hx
    rw [e] at this; cases this
theorem cur_mx {V ts : List Int} {i : Nat} {t : Int} (hm : ∀ x, x ∈ ts ↔ x ∈ V) (ht : ts[i]? = some t) : mx (V.filter fun x => decide (x ≤ t)) = t :=
  mx_eq (List.mem_filter.mpr ⟨(hm t).mp (List.mem_of_getElem? ht), by simp⟩) fun x hx => by simpa using (List.mem_filter.mp hx).2
theorem inv_many {least : Int} {V ts : List Int} {i : Nat} {t : Int} (hm : ∀ x, x ∈ ts ↔ x ∈ V) (ht : ts[i]? = some t) (h : Inv least V ts i) (hl : 1 < (segs (lt t) V).length) : R least V = .mk (t - least) (sortR ((segs (lt t) V).map (R least))) := by
  obtain ⟨h1, h2⟩ := h.1 t ht
  have hmx := cur_mx hm ht
  have e := h2 t (Int.le_refl _)
  rw [h1, R_many (by rw [hmx, ← e]; exact hl), hmx, ← e]
theorem inv_next {least : Int} {V ts : List Int} {i : Nat} {t : Int} (hd : ts.Pairwise (· > ·)) (hm : ∀ x, x ∈ ts ↔ x ∈ V) (ht : ts[i]? = some t) (h : Inv least V ts i) (hl : ¬ 1 < (segs (lt t) V).length) : Inv least V ts (i + 1) := by
  obtain ⟨h1, h2⟩ := h.1 t ht
  have hmx := cur_mx hm ht
  have e := h2 t (Int.le_refl _)
  have hil : i < ts.length := (List.getElem?_eq_some_iff.mp ht).1
  have hie : ts[i] = t := (List.getElem?_eq_some_iff.mp ht).2
  have below : ∀ x ∈ V, x < t → ∃ k, i < k ∧ ts[k]? = some x := fun x hx hxt => by
    obtain ⟨k, hk, ek⟩ := List.getElem_of_mem ((hm x).mpr hx)
    refine ⟨k, ?_, by rw [List.getElem?_eq_getElem hk, ek]⟩
    rcases Nat.lt_trichotomy k i with q | q | q
    · have := List.pairwise_iff_getElem.mp hd k i hk hil q
      omega
    · subst q; omega
    · exact q
  rcases three (segs (lt t) V) with q | ⟨s, q⟩ | q
  · -- the least one
    have hno : ∀ x ∈ V, t ≤ x := fun x hx => by
      have hf := segs_flat (p := lt t) V
      rw [q] at hf
      have : ¬ (lt t x = true) := fun z => by
        have : x ∈ V.filter (lt t) := List.mem_filter.mpr ⟨hx, z⟩
        rw [← hf] at this; cases this
      simp only [lt, decide_eq_true_eq] at this; omega
    constructor
    · intro t2 ht2
      exfalso
      have hi2 : i + 1 < ts.length := (List.getElem?_eq_some_iff.mp ht2).1
      have e2 : ts[i + 1] = t2 := (List.getElem?_eq_some_iff.mp ht2).2
      have := List.pairwise_iff_getElem.mp hd i (i + 1) hil hi2 (by omega)
      have := hno t2 ((hm t2).mp (List.mem_of_getElem? ht2))
      omega
    · intro _
      refine ⟨t, (hm t).mp (List.mem_of_getElem? ht), hno, ?_⟩
      rw [h1, R_nil (by rw [hmx, ← e]; exact q), hmx]
  · -- one run alone
    have hf : V.filter (lt t) = s := by
      have := segs_flat (p := lt t) V
      rw [q] at this; simpa using this.symm
    obtain ⟨hne, hall, u, v, eV, _⟩ := segs_mem (p := lt t) (l := V) (s := s) (by rw [q]; exact List.mem_singleton_self s)
    have hlen : (u.filter (lt t)).length + s.length + (v.filter (lt t)).length = s.length := by
      have := congrArg List.length hf
      rw [eV, List.filter_append, List.filter_append, List.length_append, List.length_append, List.filter_eq_self.mpr hall] at this
      exact this
    have hu : ∀ x ∈ u, t ≤ x := fun x hx => by
      have z : u.filter (lt t) = [] := List.length_eq_zero_iff.mp (by omega)
      have := List.filter_eq_nil_iff.mp z x hx
      simp only [lt, decide_eq_true_eq] at this; omega
    have hv : ∀ x ∈ v, t ≤ x := fun x hx => by
      have z : v.filter (lt t) = [] := List.length_eq_zero_iff.mp (by omega)
      have := List.filter_eq_nil_iff.mp z x hx
      simp only [lt, decide_eq_true_eq] at this; omega
    obtain ⟨y, hy⟩ := List.exists_mem_of_ne_nil s hne
    have hyV : y ∈ V := by rw [eV]; simp [hy]
    have hyt : y < t := by have := hall y hy; simpa [lt] using this
    obtain ⟨ky, hky, eky⟩ := below y hyV hyt
    have hkl : ky < ts.length := (List.getElem?_eq_some_iff.mp eky).1
    constructor
    · intro t2 ht2
      have hi2 : i + 1 < ts.length := (List.getElem?_eq_some_iff.mp ht2).1
      have e2 : ts[i + 1] = t2 := (List.getElem?_eq_some_iff.mp ht2).2
      have hlt2 := List.pairwise_iff_getElem.mp hd i (i + 1) hil hi2 (by omega)
      have ef : (V.filter fun x => decide (x ≤ t2)) = s := by
        rw [← hf]
        refine List.filter_congr fun x hx => ?_
        simp only [lt]
        refine decide_eq_decide.mpr ⟨fun z => by omega, fun z => ?_⟩
        obtain ⟨k, hk, ek⟩ := below x hx z
        have hkl : k < ts.length := (List.getElem?_eq_some_iff.mp ek).1
        have ek2 : ts[k] = x := (List.getElem?_eq_some_iff.mp ek).2
        rcases Nat.lt_or_eq_of_le (show i + 1 ≤ k by omega) with q | q
        · have := List.pairwise_iff_getElem.mp hd (i + 1) k hi2 hkl q
          omega
        · subst q; omega
      rw [ef]
      refine ⟨?_, fun t' ht' => ?_⟩
      · rw [h1]; exact R_one (by rw [hmx, ← e]; exact q)
      · rw [eV, segs_post (fun x hx => by have := hv x hx; simp only [lt, decide_eq_false_iff_not]; omega), segs_pre (fun x hx => by have := hu x hx; simp only [lt, decide_eq_false_iff_not]; omega)]
    · intro hi
      exfalso; omega
  · exact absurd q hl
/-! ### how deep -/
theorem dep_R {least : Int} : ∀ (n : Nat) (l ts : List Int), l.length ≤ n → l ≠ [] → (∀ x ∈ l, x ∈ ts) → dep (R least l) ≤ ts.length := by
  intro n
  induction n with
  | zero => intro l ts h hne; exact absurd (List.length_eq_zero_iff.mp (by omega)) hne
  | succ n ih =>
    intro l ts h hne hc
    have hmt := hc _ (mx_mem hne)
    have hpos : 0 < ts.length := List.length_pos_of_mem hmt
    rcases three (segs (lt (mx l)) l) with q | ⟨s, q⟩ | q
    · rw [R_nil q]; simp [dep, deps]; omega
    · rw [R_one q]
      have hs : s ∈ segs (lt (mx l)) l := by rw [q]; exact List.mem_singleton_self s
      exact ih s ts (by have := seg_less hs; omega) (segs_mem hs).1 fun x hx => hc x (seg_sub hs x hx)
    · rw [R_many q, dep]
      have : deps (sortR ((segs (lt (mx l)) l).map (R least))) ≤ ts.length - 1 := deps_le fun r hr => by
        obtain ⟨s, hs, rfl⟩ := List.mem_map.mp ((sortR_perm _).mem_iff.mp hr)
        rw [← List.length_erase_of_mem hmt]
        refine ih s _ (by have := seg_less hs; omega) (segs_mem hs).1 fun x hx => ?_
        have hlt := (segs_mem hs).2.1 x hx
        simp only [lt, decide_eq_true_eq] at hlt
        exact (List.mem_erase_of_ne (by omega)).mpr (hc x (seg_sub hs x hx))
      omega
theorem flat_len : ∀ {ss : List (List Int)}, (∀ s ∈ ss, s ≠ []) → ss.length ≤ ss.flatten.length
  | [], _ => Nat.le_refl _
  | s :: ss, h => by
    have h1 := List.length_pos_iff.mpr (h s List.mem_cons_self)
    have h2 := flat_len (ss := ss) fun t ht => h t (List.mem_cons_of_mem _ ht)
    rw [List.length_cons, List.flatten_cons, List.length_append]; omega
theorem segs_count {p : Int → Bool} (l : List Int) : (segs p l).length ≤ l.length := by
  have := flat_len (ss := segs p l) fun s hs => (segs_mem hs).1
  rw [segs_flat] at this
  exact Nat.le_trans this (List.length_filter_le _ _)
end K59P
set_option Elab.async false
set_option maxRecDepth 100000
set_option maxHeartbeats 8000000
set_option linter.all false
/-! K59W1: _law_runs. -/
namespace K59
open PySem PySem.Spec PyProof.Rows L2 U RT Row RootsTr PySem.W K59P RunRoot RunRow K63
local macro_rules | `(tactic| walk_at "wp") => `(tactic| try simp only [if_true, L2.wipe, U.w_lc, U.w_for, U.w_seq, U.w_next, U.w_asg, U.w_gname, U.w_gcons, U.w_gnil, U.w_gsub, U.w_ret, U.w_retn, U.w_drop, U.w_if, U.w_brk, U.w_cont, U.w_var, U.w_c, U.w_op, U.w_un, U.w_test, U.w_tb, U.w_and, U.w_or, U.w_not, U.w_andv, U.w_orv, U.w_notv, U.w_ifx, U.w_yes, U.w_nil, U.w_cons, U.w_tup, U.w_lst, U.w_par, U.w_par3, U.w_aug, U.w_ip, U.w_cb, U.w_call, U.w_sl, U.w_nopart, U.w_part, U.w_bm, U.w_bm0, U.w_I0, U.w_I, U.w_U, U.w_add, U.w_mul, U.w_eqI, U.w_neI, U.w_intI, U.w_min2, U.w_max2, U.w_ex, U.w_ex2, U.w_ex3, U.w_rng1, U.w_rng2, U.w_exI, U.w_exI2, U.w_reprI, U.w_absI, U.w_eqS, U.w_neS,
  List.getElem?_cons_zero, List.getElem?_cons_succ, List.set_cons_zero, List.set_cons_succ, Option.some.injEq, V.int.injEq, V.bl.injEq, V.str.injEq, V.ref.injEq, List.append_nil, List.nil_append, List.cons_append])
/-- lists of ints lie at some places -/
def RA (H : Hp) (ps : List Addr) (ss : List (List Int)) : Prop := ps.length = ss.length ∧ ∀ (i : Nat) (p : Addr) (s : List Int), ps[i]? = some p → ss[i]? = some s → H p = some (.lst (s.map V.int))
theorem RA.nil {H : Hp} : RA H [] [] := ⟨rfl, fun i p s h => by simp at h⟩
theorem RA.snoc {H : Hp} {ps : List Addr} {ss : List (List Int)} {p : Addr} {s : List Int} (h : RA H ps ss) (hp : H p = some (.lst (s.map V.int))) : RA H (ps ++ [p]) (ss ++ [s]) := by
  refine ⟨by simp [h.1], fun i q t hq ht => ?_⟩
  by_cases e : i < ps.length
  · rw [List.getElem?_append_left e] at hq
    rw [List.getElem?_append_left (by rw [← h.1]; exact e)] at ht
    exact h.2 i q t hq ht
  · have hil := (List.getElem?_eq_some_iff.mp hq).1
    rw [List.length_append, List.length_singleton] at hil
    obtain rfl : i = ps.length := by omega
    rw [List.getElem?_concat_length] at hq
    rw [h.1, List.getElem?_concat_length] at ht
    obtain rfl := Option.some.inj hq
    obtain rfl := Option.some.inj ht
    exact hp
theorem RA.unsnoc {H : Hp} {ps : List Addr} {ss : List (List Int)} {s : List Int} (h : RA H ps (ss ++ [s])) : ∃ qs p, ps = qs ++ [p] ∧ RA H qs ss ∧ H p = some (.lst (s.map V.int)) := by
  rcases snoc_or ps with e | ⟨qs, p, rfl⟩
  · have := h.1
    rw [e] at this; simp at this
  · have hl : qs.length = ss.length := by have := h.1; simp at this; exact this
    refine ⟨qs, p, rfl, ⟨hl, fun i q t hq ht => ?_⟩, ?_⟩
    · have h1 := (List.getElem?_eq_some_iff.mp hq).1
      exact h.2 i q t (by rw [List.getElem?_append_left h1]; exact hq) (by rw [List.getElem?_append_left (by omega)]; exact ht)
    · exact h.2 qs.length p s List.getElem?_concat_length (by rw [hl]; exact List.getElem?_concat_length)
theorem RA.frame {H H' : Hp} {ps : List Addr} {ss : List (List Int)} (h : RA H ps ss) (k : ∀ p ∈ ps, ∀ o, H p = some o → H' p = some o) : RA H' ps ss :=
  ⟨h.1, fun i p s hp hs => k p (List.mem_of_getElem? hp) _ (h.2 i p s hp hs)⟩
theorem RA.st {H H' : Hp} {ps : List Addr} {ss : List (List Int)} {M : List Addr} (h : RA H ps ss) (s : U.St M H H') (k : ∀ p ∈ ps, p ∉ M) : RA H' ps ss := h.frame fun p hp o e => s p o e (k p hp)
theorem RA.at {H : Hp} {ps : List Addr} {ss : List (List Int)} (h : RA H ps ss) {p : Addr} (hp : p ∈ ps) : ∃ s : List Int, H p = some (.lst (s.map V.int)) := by
  obtain ⟨i, hi, e⟩ := List.getElem_of_mem hp
  have hs : i < ss.length := by rw [← h.1]; exact hi
  exact ⟨ss[i], h.2 i p ss[i] (by rw [List.getElem?_eq_getElem hi, e]) (List.getElem?_eq_getElem hs)⟩
def listD (s : List Int) : PyData := .list (s.map .int)
theorem RA.dp {K : PySem.W.Frag} {H : Hp} : ∀ {ps : List Addr} {ss : List (List Int)}, RA H ps ss → DpAll K H (ps.map V.ref) (ss.map listD)
  | [], [], _ => .nil
  | [], _ :: _, h => by have := h.1; simp at this
  | _ :: _, [], h => by have := h.1; simp at this
  | p :: ps, s :: ss, h => .cons (.lst (.of (h.2 0 p s rfl rfl)) (dp_ints K H s)) (RA.dp ⟨by have := h.1; simp at this; exact this, fun i q t hq ht => h.2 (i + 1) q t hq ht⟩)
theorem lists_eqv (ss : List (List Int)) : PyData.eqv (.list (ss.map listD)) (.list []) = decide (ss = []) := by
  cases ss <;> simp [PyData.eqv, PyData.eqvAll]
theorem lists_lay : ∀ ss : List (List Int), PyData.canLayAll0 (ss.map listD) = true
  | [] => by simp [PyData.canLayAll0]
  | s :: ss => by simp [PyData.canLayAll0, PyData.canLay0, listD, Draw.lay_ints, lists_lay ss]
theorem runsM_take {fs : List Int} {i : Nat} {x : Int} (h : fs[i]? = some x) : runsM (fs.take (i + 1)) = stepR (runsM (fs.take i)) x := by
  unfold runsM
  rw [List.take_add_one, h, List.foldl_append]; rfl
theorem stepR_ne {ss : List (List Int)} {x : Int} (h : ∀ s ∈ ss, s ≠ []) : ∀ s ∈ stepR ss x, s ≠ [] := by
  rcases snoc_or ss with e | ⟨fs, s, rfl⟩
  · subst e
    intro s hs
    rw [stepR_none, List.mem_singleton] at hs
    rw [hs]; simp
  · rw [stepR_some]
    split
    · intro t ht
      rcases List.mem_append.mp ht with q | q
      · exact h t (by simp [q])
      · rw [List.mem_singleton.mp q]; simp
    · intro t ht
      rcases List.mem_append.mp ht with q | q
      · exact h t q
      · rw [List.mem_singleton.mp q]; simp
theorem stepR_sz {ss : List (List Int)} {x : Int} {n : Nat} (h : (ss.map List.length).sum = n ∧ ss.length ≤ n) : ((stepR ss x).map List.length).sum = n + 1 ∧ (stepR ss x).length ≤ n + 1 := by
  rcases snoc_or ss with e | ⟨fs, s, rfl⟩
  · subst e
    rw [stepR_none]
    simp at h ⊢; omega
  · rw [stepR_some]
    simp only [List.map_append, List.sum_append, List.map_cons, List.map_nil, List.sum_cons, List.sum_nil, List.length_append, List.length_cons, List.length_nil] at h
    split
    · simp only [List.map_append, List.sum_append, List.map_cons, List.map_nil, List.sum_cons, List.sum_nil, List.length_append, List.length_cons, List.length_nil]; omega
    · simp only [List.map_append, List.sum_append, List.map_cons, List.map_nil, List.sum_cons, List.sum_nil, List.length_append, List.length_cons, List.length_nil]; omega
def spRuns (K : PySem.W.Frag) : Sp := fun vs H Q _ => ∃ (a : Addr) (fs : List Int), vs = [.ref a] ∧ SqL K H a (fs.map V.int) ∧ fs.length ≤ 1000 ∧
  ∀ (l : Addr) (ps : List Addr) (H' : Hp), H' l = some (.lst (ps.map V.ref)) → RA H' ps (runsM fs) → U.St [] H H' → Q (.ref l) H'
theorem rd_runs {K : PySem.W.Frag} {w : World} {vs : List V} {H : Hp} {Q : VK} {E : XK} (h : spRuns K vs H Q E) : tr__law_runs K w { nx := fun _ H' => Q .non H', rt := Q } (start nm__law_runs vs) H := by
  obtain ⟨a, fs, rfl, hL, hlen, k⟩ := h
  show tr__law_runs K w _ [some (.ref a), none, none] H
  unfold tr__law_runs
  walk_at "wp"
  refine ⟨Nat.zero_le _, fun l hl => ?_⟩
  have s0 := U.St.new (M := []) (o := HO.lst []) hl
  refine iu_L rfl (s0.sqL noSeq_nil hL) ?_
  refine forgo_list (fun i σ H1 => ∃ (o2 : Option V) (ps : List Addr), σ = [some (.ref a), some (.ref l), o2] ∧ H1 l = some (.lst (ps.map V.ref)) ∧ RA H1 ps (runsM (fs.take i)) ∧ l ∉ ps ∧ ps.Nodup ∧ (∀ p ∈ ps, H p = none) ∧ (∀ s ∈ runsM (fs.take i), s ≠ []) ∧ (((runsM (fs.take i)).map List.length).sum = i ∧ (runsM (fs.take i)).length ≤ i) ∧ U.St [] H H1)
    ⟨none, [], rfl, upd_same, .nil, by simp, List.nodup_nil, by simp, (fun s hs => by cases hs), ⟨rfl, Nat.le_refl _⟩, s0⟩ (fun i σ H1 _ ⟨_, _, _, _, _, _, _, _, _, _, s⟩ => s.sqL noSeq_nil hL) ?_ ?_
  · rintro i x σ H1 hi hx ⟨o2, ps, rfl, hl1, ra, hlp, hnd, hfr, hne, hsz, s1⟩
    obtain ⟨x, hx2, rfl⟩ := Draw.int_atV hx
    rw [List.length_map] at hi
    rw [runsM_take hx2]
    have hne' := stepR_ne (x := x) hne
    have hsz' := stepR_sz (x := x) hsz
    generalize runsM (fs.take i) = ss at ra hne hsz hne' hsz'
    walk_at "wp"
    refine ⟨Nat.zero_le _, fun q hq => ?_⟩
    have t2 := U.St.new (M := []) (o := HO.lst []) hq
    have hl2 : (upd H1 q (HO.lst [])) l = some (.lst (ps.map V.ref)) := t2.at hl1 (by simp)
    have hq2 : (upd H1 q (HO.lst [])) q = some (.lst []) := upd_same
    have ra2 := ra.st t2 (by simp)
    have s2 := s1.trans t2
    generalize (upd H1 q (HO.lst [])) = H2 at hl2 hq2 ra2 s2
    refine .inr ⟨.list (ss.map listD), .list [], .lst (.of hl2) ra2.dp, .lst (.of hq2) .nil, by simp [PyData.canLay0, lists_lay], by simp [PyData.canLay0, PyData.canLayAll0], by simp only [PyData.depth, PyData.depthAll]; omega, ?_⟩
    rw [lists_eqv]
    -- a new run
    have fresh_run : (∀ fs' s, ss = fs' ++ [s] → ¬ s.getLast? = some (x - 1)) → [V.int x].length ≤ sizeLine ∧ ∀ p, H2 p = none → rAppend (V.ref l) [V.ref p] (upd H2 p (HO.lst [V.int x])) fun v H' => ∃ (o2 : Option V) (ps : List Addr), [some (V.ref a), some (V.ref l), some (V.int x)] = [some (.ref a), some (.ref l), o2] ∧ H' l = some (.lst (ps.map V.ref)) ∧ RA H' ps (stepR ss x) ∧ l ∉ ps ∧ ps.Nodup ∧ (∀ p ∈ ps, H p = none) ∧ (∀ s ∈ stepR ss x, s ≠ []) ∧ (((stepR ss x).map List.length).sum = i + 1 ∧ (stepR ss x).length ≤ i + 1) ∧ U.St [] H H' := by
      intro hno
      refine ⟨sz1 (by simp), fun p hp => ?_⟩
      have t3 := U.St.new (M := []) (o := HO.lst [.int x]) hp
      have hpl : p ≠ l := fun z => by rw [z, hl2] at hp; cases hp
      have hpp : p ∉ ps := fun z => by
        obtain ⟨s, e⟩ := ra2.at z
        rw [e] at hp; cases hp
      refine ⟨l, ps.map V.ref, .ref p, rfl, rfl, t3.at hl2 (by simp), Draw.sls (by rw [List.length_map, ra.1]; omega), ?_⟩
      have e : stepR ss x = ss ++ [[x]] := by
        rcases snoc_or ss with q | ⟨fs', s, q⟩
        · rw [q]; rfl
        · rw [q, stepR_some, if_neg (hno fs' s q)]
      refine ⟨_, ps ++ [p], rfl, by rw [upd_same, List.map_append]; rfl, ?_, ?_, ?_, ?_, hne', hsz', (s2.trans t3).then_own hl⟩
      · rw [e]
        refine ((ra2.st t3 (by simp)).frame fun r hr o e1 => ?_).snoc ?_
        · rw [upd_ne (fun z => hlp (by rw [← z]; exact hr))]; exact e1
        · rw [upd_ne hpl]; exact upd_same
      · intro z
        rcases List.mem_append.mp z with z | z
        · exact hlp z
        · exact hpl (List.mem_singleton.mp z).symm
      · exact List.nodup_append.mpr ⟨hnd, by simp, fun u hu v hv z => hpp (by rw [← List.mem_singleton.mp hv, ← z]; exact hu)⟩
      · intro r hr
        rcases List.mem_append.mp hr with z | z
        · exact hfr r z
        · rw [List.mem_singleton.mp z]
          exact s2.back hp (by simp)
    rcases snoc_or ss with e | ⟨fs', s, e⟩
    · rw [decide_eq_true e]
      refine ⟨false, rfl, iteF ?_⟩
      refine iteF ?_
      walk_at "wp"
      refine ⟨.inl ⟨rfl, _, .of hl2⟩, ?_⟩
      exact fresh_run fun fs' s q => by rw [e] at q; simp at q
    · subst e
      rw [decide_eq_false (by simp)]
      refine ⟨true, rfl, iteT ?_⟩
      obtain ⟨qs, p, rfl, raq, hp2⟩ := ra2.unsnoc
      have hsne : s ≠ [] := hne s (by simp)
      rcases snoc_or s with q | ⟨s', y, q⟩
      · exact absurd q hsne
      subst q
      walk_at "wp"
      refine ixL (.of hl2) (v := .ref p) (by rw [List.map_append]; exact atI_last _ _) ?_
      refine ixL (.of hp2) (v := .int y) (by rw [List.map_append]; exact atI_last _ _) ?_
      walk_at "wp"
      by_cases c : y = x - 1
      · rw [decide_eq_true c]
        refine iteT ?_
        walk_at "wp"
        refine ixL (.of hl2) (v := .ref p) (by rw [List.map_append]; exact atI_last _ _) ?_
        refine ⟨.inl ⟨rfl, _, .of hp2⟩, ?_⟩
        have hpl : p ≠ l := fun z => hlp (by rw [← z]; simp)
        have hslen : (s' ++ [y]).length ≤ i := by
          have := hsz.1
          simp only [List.map_append, List.sum_append, List.map_cons, List.map_nil, List.sum_cons, List.sum_nil] at this
          omega
        refine ⟨p, (s' ++ [y]).map V.int, .int x, rfl, rfl, hp2, Draw.sls (by rw [List.length_map]; omega), ?_⟩
        have e : stepR (fs' ++ [s' ++ [y]]) x = fs' ++ [s' ++ [y] ++ [x]] := by
          rw [stepR_some, if_pos (by rw [List.getLast?_concat, c])]
        refine ⟨_, qs ++ [p], rfl, ?_, ?_, hlp, hnd, hfr, hne', hsz', s2.then_own (hfr p (by simp))⟩
        · rw [upd_ne (Ne.symm hpl)]; exact hl2
        · rw [e]
          have hnd' := List.nodup_append.mp hnd
          refine (raq.frame fun r hr o e1 => ?_).snoc (by rw [upd_same]; simp)
          rw [upd_ne (fun z => hnd'.2.2 r hr p (by simp) z)]; exact e1
      · rw [decide_eq_false c]
        refine iteF ?_
        walk_at "wp"
        refine ⟨.inl ⟨rfl, _, .of hl2⟩, ?_⟩
        exact fresh_run fun fs2 s2' q => by
          have := List.append_inj_right' q rfl
          rw [← List.cons.inj this |>.1, List.getLast?_concat]
          intro z
          exact c (Option.some.inj z)
  · rintro σ H1 ⟨o2, ps, rfl, hl1, ra, hlp, hnd, hfr, hne, hsz, s1⟩
    rw [List.length_map, List.take_of_length_le (Nat.le_refl _)] at ra
    walk_at "wp"
    exact k l ps H1 hl1 ra s1
end K59
set_option Elab.async false
set_option maxRecDepth 100000
set_option maxHeartbeats 8000000
set_option linter.all false
/-! SEnc: sorted of a list that reads as roots. -/
namespace RT
open PySem PySem.Spec PyProof.Rows L2 U PySem.W
theorem pairs_enc {K : PySem.W.Frag} {H : Hp} : ∀ {xs : List V} {rs : List Rt}, DpAll K H xs (encs rs) → (∀ p ∈ xs.zip rs, Dp K H p.1 (enc p.2)) ∧ (xs.zip rs).map Prod.fst = xs ∧ (xs.zip rs).map Prod.snd = rs
  | xs, [], h => by rw [encs] at h; cases h; exact ⟨by simp, rfl, rfl⟩
  | xs, r :: rs, h => by
    rw [encs] at h
    cases h with
    | @cons v vs _ _ a b =>
      obtain ⟨h1, h2, h3⟩ := pairs_enc b
      refine ⟨fun p hp => ?_, ?_, ?_⟩
      · rw [List.zip_cons_cons] at hp
        rcases List.mem_cons.mp hp with e | hp
        · subst e; exact a
        · exact h1 p hp
      · rw [List.zip_cons_cons, List.map_cons, h2]
      · rw [List.zip_cons_cons, List.map_cons, h3]
theorem unzip_enc {K : PySem.W.Frag} {H : Hp} : ∀ {zs : List (V × Rt)}, (∀ p ∈ zs, Dp K H p.1 (enc p.2)) → DpAll K H (zs.map Prod.fst) (encs (zs.map Prod.snd))
  | [], _ => by rw [List.map_nil, List.map_nil, encs]; exact .nil
  | p :: zs, h => by
    rw [List.map_cons, List.map_cons, encs]
    exact .cons (h p List.mem_cons_self) (unzip_enc fun q hq => h q (List.mem_cons_of_mem _ hq))
/-- sorted of a list that reads as roots -/
theorem sortedEnc {K : PySem.W.Frag} {w : World} {H : Hp} {a : Addr} {xs : List V} {rs : List Rt} {Q : VK} (h : SqL K H a xs) (hd : DpAll K H xs (encs rs)) (hdep : deps rs ≤ 400) (q : ∀ (p : Addr) (ys : List V), DpAll K H ys (encs (sortR rs)) → H p = none → Q (.ref p) (upd H p (.lst ys))) : rSortedU K w 800 [.ref a] H Q := by
  obtain ⟨hp, hfst, hsnd⟩ := pairs_enc hd
  have hm : (xs.zip rs).map (fun p => enc p.2) = encs rs := by
    have e : (xs.zip rs).map (fun p => enc p.2) = ((xs.zip rs).map Prod.snd).map enc := by rw [List.map_map]; rfl
    rw [e, hsnd, encs_eq]
  refine .inr (.inl ⟨Rt, enc, a, xs.zip rs, rfl, by rw [hfst]; exact h, hp, ?_, ?_, fun p hp => ?_, fun p hp' => ?_⟩)
  · rw [hm]; exact allAlike_encs rs
  · rw [hm]; exact sortable_encs rs
  · have : p.2 ∈ rs := by rw [← hsnd]; exact List.mem_map.mpr ⟨p, hp, rfl⟩
    have := dep_le this
    rw [depth_enc]; omega
  · refine q p _ ?_ hp'
    have hperm : ((xs.zip rs).mergeSort (dataLe false fun b => enc b.2)).Perm (xs.zip rs) := List.mergeSort_perm _ _
    have hs : ((xs.zip rs).mergeSort (dataLe false fun b => enc b.2)).map Prod.snd = sortR rs := by
      unfold sortR
      rw [List.map_mergeSort (r := dataLe false fun b : V × Rt => enc b.2) (s := rle) (f := Prod.snd) (fun a _ b _ => rfl), hsnd]
    rw [← hs]
    exact unzip_enc fun p hp' => hp p (hperm.mem_iff.mp hp')

end RT
set_option Elab.async false
set_option maxRecDepth 1000000
set_option maxHeartbeats 16000000
set_option linter.all false
/-! K59W2: _law_run_root, _law_row_root. -/
namespace K59
open PySem PySem.Spec PyProof.Rows L2 U RT Row RootsTr PySem.W K59P RunRoot RunRow K63
theorem w_revL {K : PySem.W.Frag} {te : TE} {σ : L2.St} {H : Hp} {Q : VK} : tRevL K te σ H Q = te σ H fun x H1 => ∃ a xs, x = .ref a ∧ SqL K H1 a xs ∧ ∀ p, H1 p = none → Q (.ref p) (upd H1 p (.lst xs.reverse)) := rfl
theorem w_lstRg {te : L2.St → Hp → (Int → Int → Hp → Prop) → Prop} {σ : L2.St} {H : Hp} {Q : VK} : tLstRg te σ H Q = te σ H fun a b H1 => RgOk a b ∧ ∀ q, H1 q = none → Q (.ref q) (upd H1 q (.lst (rgV a b))) := rfl
theorem w_rg1 {ta : TE} {σ : L2.St} {H : Hp} {QR : Int → Int → Hp → Prop} : tRg1 ta σ H QR = ta σ H fun x H1 => ∃ n, x = .int n ∧ QR 0 n H1 := rfl
local macro_rules | `(tactic| walk_at "wp") => `(tactic| try simp only [K59.w_revL, K59.w_lstRg, K59.w_rg1, if_true, L2.wipe, U.w_lc, U.w_for, U.w_seq, U.w_next, U.w_asg, U.w_gname, U.w_gcons, U.w_gnil, U.w_gsub, U.w_ret, U.w_retn, U.w_drop, U.w_if, U.w_brk, U.w_cont, U.w_var, U.w_c, U.w_op, U.w_un, U.w_test, U.w_tb, U.w_and, U.w_or, U.w_not, U.w_andv, U.w_orv, U.w_notv, U.w_ifx, U.w_yes, U.w_nil, U.w_cons, U.w_tup, U.w_lst, U.w_par, U.w_par3, U.w_aug, U.w_ip, U.w_cb, U.w_call, U.w_sl, U.w_nopart, U.w_part, U.w_bm, U.w_bm0, U.w_I0, U.w_I, U.w_U, U.w_add, U.w_mul, U.w_eqI, U.w_neI, U.w_intI, U.w_min2, U.w_max2, U.w_ex, U.w_ex2, U.w_ex3, U.w_rng1, U.w_rng2, U.w_exI, U.w_exI2, U.w_reprI, U.w_absI, U.w_eqS, U.w_neS,
  List.getElem?_cons_zero, List.getElem?_cons_succ, List.set_cons_zero, List.set_cons_succ, Option.some.injEq, V.int.injEq, V.bl.injEq, V.str.injEq, V.ref.injEq, List.append_nil, List.nil_append, List.cons_append])
theorem at_hs {hs : List Int} {z : Int} (h0 : 0 ≤ z) (h1 : z < hs.length) : atI (hs.map V.int) z = some (.int (hs.getD z.toNat 0)) := by
  have e : z = ((z.toNat : Nat) : Int) := by omega
  rw [e]
  refine atI_nat ?_
  rw [List.getElem?_map, List.getElem?_eq_getElem (show z.toNat < hs.length by omega), Int.toNat_natCast, List.getD_eq_getElem?_getD, List.getElem?_eq_getElem (show z.toNat < hs.length by omega)]; rfl
theorem vals_take {hs l : List Int} {i : Nat} {z : Int} (h : l[i]? = some z) : vals hs (l.take (i + 1)) = vals hs (l.take i) ++ [hs.getD z.toNat 0] := by
  rw [List.take_add_one, h]
  unfold vals
  rw [List.map_append]; rfl
/-- the heights of the places -/
theorem vals_go {K : PySem.W.Frag} {ha sa : Addr} {hs l : List Int} {H : Hp} {Q : VK} {o2 o3 o4 o5 o6 : Option V} (hha : SqL K H ha (hs.map V.int)) (hsa : SqL K H sa (l.map V.int)) (hb : ∀ i ∈ l, 0 ≤ i ∧ i < hs.length) (hl : l.length ≤ 1000)
    (k : ∀ (d : Addr) (H' : Hp), H' d = some (.lst ((vals hs l).map V.int)) → U.St [] H H' → Q (.ref d) H') :
    LcGo (Itl K sa) (gName 4) tYes (tOp (rIxU K) (tVar 0) (tVar 4)) [4] [some (.ref ha), some (.ref sa), o2, o3, o4, o5, o6] H Q := by
  refine lcgo walk_list (fun d i H2 => H2 d = some (.lst ((vals hs (l.take i)).map V.int)) ∧ U.St [] H H2) (fun d hd => ⟨upd_same, U.St.new hd⟩) (fun d i H2 _ _ ⟨_, s⟩ => s.sqL noSeq_nil hsa) ?_ ?_
  · rintro d i x H1 H2 hd hi ⟨h1, s1⟩ ⟨rfl, hx⟩
    obtain ⟨z, hz, rfl⟩ := Draw.int_atV hx
    obtain ⟨z0, z1⟩ := hb z (List.mem_of_getElem? hz)
    walk_at "wp"
    refine ⟨trivial, ?_⟩
    refine ixL (s1.sqL noSeq_nil hha) (at_hs z0 z1) ?_
    refine ⟨_, h1, Draw.sls (by rw [List.length_map]; unfold vals; rw [List.length_map, List.length_take]; omega), ?_, s1.then_own hd⟩
    rw [upd_same, vals_take hz, List.map_append]; rfl
  · rintro d H1 hd ⟨h1, s1⟩
    rw [List.length_map, List.take_of_length_le (Nat.le_refl _)] at h1
    exact k d H1 h1 s1
def spRun (K : PySem.W.Frag) (n : Nat) : Sp := fun vs H Q _ => ∃ (ha sa : Addr) (hs : List Int) (a : Int) (m : Nat) (least : Int) (cov : List Int), vs = [.ref ha, .ref sa, .int least] ∧ SqL K H ha (hs.map V.int) ∧ SqL K H sa ((ivl a m).map V.int) ∧ 0 < m ∧ 0 ≤ a ∧ a + m ≤ hs.length ∧ hs.length ≤ 1000 ∧
  cov.length ≤ n ∧ n ≤ 100 ∧ (∀ x ∈ vals hs (ivl a m), x ∈ cov) ∧ ∀ (v : V) (H' : Hp), Dp K H' v (enc (R least (vals hs (ivl a m)))) → U.St [] H H' → Q v H'
theorem rd_run {K : PySem.W.Frag} {w : World} {n : Nat} {vs : List V} {H : Hp} {Q : VK} {E : XK} (h : spRun K (n + 1) vs H Q E) : tr__law_run_root K w (spRun K n) (spRuns K) { nx := fun _ H' => Q .non H', rt := Q } (start nm__law_run_root vs) H := by
  obtain ⟨ha, sa, hs, a, m, least, cov, rfl, hha, hsa, hm0, ha0, ham, hsl, hcov, hn100, hc, k⟩ := h
  show tr__law_run_root K w (spRun K n) (spRuns K) _ [some (.ref ha), some (.ref sa), some (.int least), none, none, none, none] H
  unfold tr__law_run_root
  have hb : ∀ i ∈ ivl a m, 0 ≤ i ∧ i < hs.length := fun i hi => by have := mem_ivl.mp hi; omega
  have hil : (ivl a m).length ≤ 1000 := by rw [ivl_len]; omega
  have hVne : vals hs (ivl a m) ≠ [] := fun z => by
    have : (vals hs (ivl a m)).length = m := by unfold vals; rw [List.length_map, ivl_len]
    rw [z] at this; simp at this; omega
  have hVl : (vals hs (ivl a m)).length ≤ 1000 := by unfold vals; rw [List.length_map]; exact hil
  walk_at "wp"
  refine .inl ?_
  show tRevL _ _ _ _ _
  walk_at "wp"
  refine iu_L rfl hsa ?_
  refine vals_go hha hsa hb hil fun d H1 h1 s1 => ?_
  refine ⟨d, _, rfl, .of h1, hVl, fun p c hcl hp => ?_⟩
  refine .inr (.inr ⟨p, _, c, rfl, upd_same, Nat.le_trans hcl (sz1 hVl), fun ds q hds hdm hdlen hq => ?_⟩)
  have hdm' : ∀ x, x ∈ ds ↔ x ∈ vals hs (ivl a m) := fun x => by rw [hdm]; simp
  refine ⟨q, _, rfl, .of upd_same, fun r hr => ?_⟩
  have t2 := U.St.new (M := []) (o := SetO w p (fun j => decide (j ∈ vals hs (ivl a m))) c) hp
  have t3 := U.St.new (M := []) (o := HO.lst (ds.map V.int)) hq
  have t4 := U.St.new (M := []) (o := HO.lst (ds.map V.int).reverse) hr
  have hr4 : (upd (upd (upd H1 p (SetO w p (fun j => decide (j ∈ vals hs (ivl a m))) c)) q (HO.lst (ds.map V.int))) r (HO.lst (ds.map V.int).reverse)) r = some (.lst (ds.map V.int).reverse) := upd_same
  have s4 : U.St [] H (upd (upd (upd H1 p (SetO w p (fun j => decide (j ∈ vals hs (ivl a m))) c)) q (HO.lst (ds.map V.int))) r (HO.lst (ds.map V.int).reverse)) := s1.trans (t2.trans (t3.trans t4))
  refine ⟨⟨_, .of hr4⟩, ?_⟩
  generalize (upd (upd (upd H1 p (SetO w p (fun j => decide (j ∈ vals hs (ivl a m))) c)) q (HO.lst (ds.map V.int))) r (HO.lst (ds.map V.int).reverse)) = H4 at hr4 s4
  rw [← List.map_reverse] at hr4
  have htd : ds.reverse.Pairwise (· > ·) := List.pairwise_reverse.mpr hds
  have htm : ∀ x, x ∈ ds.reverse ↔ x ∈ vals hs (ivl a m) := fun x => by rw [List.mem_reverse, hdm']
  generalize hts : ds.reverse = ts at hr4 htd htm
  refine forgo_list (xs := ts.map V.int) (fun i σ H5 => ∃ (o3 o4 o5 o6 : Option V), σ = [some (.ref ha), some (.ref sa), some (.int least), o3, o4, o5, o6] ∧ K59P.Inv least (vals hs (ivl a m)) ts i ∧ U.St [] H4 H5)
    ⟨_, _, _, _, rfl, inv_start htd htm hVne, U.St.refl H4⟩ (fun i σ H5 _ ⟨_, _, _, _, _, _, s⟩ => .of (s.at hr4 (by simp))) ?_ ?_
  · rintro i x σ H5 hi hx ⟨o3, o4, o5, o6, rfl, hinv, s5⟩
    obtain ⟨t, ht, rfl⟩ := Draw.int_atV hx
    have s05 := s4.trans s5
    have hha5 := s05.sqL noSeq_nil hha
    have hsa5 := s05.sqL noSeq_nil hsa
    walk_at "wp"
    refine iu_L rfl hsa5 ?_
    refine lcgo walk_list (fun d i H2 => H2 d = some (.lst ((((ivl a m).take i).filter fun i => lt t (hs.getD i.toNat 0)).map V.int)) ∧ U.St [] H5 H2) (fun d hd => ⟨upd_same, U.St.new hd⟩) (fun d i H2 _ _ ⟨_, s⟩ => s.sqL noSeq_nil hsa5) ?_ ?_
    · rintro d j x H6 H7 hd hj ⟨h6, s6⟩ ⟨rfl, hx⟩
      obtain ⟨z, hz, rfl⟩ := Draw.int_atV hx
      obtain ⟨z0, z1⟩ := hb z (List.mem_of_getElem? hz)
      walk_at "wp"
      refine ⟨trivial, ?_⟩
      refine ixL (s6.sqL noSeq_nil hha5) (at_hs z0 z1) ?_
      walk_at "wp"
      have et : (ivl a m).take (j + 1) = (ivl a m).take j ++ [z] := by rw [List.take_add_one, hz]; rfl
      rw [et, List.filter_append]
      by_cases e : hs.getD z.toNat 0 < t
      · rw [decide_eq_true e]
        refine iteT ⟨_, h6, Draw.sls (by rw [List.length_map]; refine Nat.le_trans (List.length_filter_le _ _) ?_; rw [List.length_take]; omega), ?_, s6.then_own hd⟩
        have : [z].filter (fun i => lt t (hs.getD i.toNat 0)) = [z] := List.filter_cons_of_pos (show lt t (hs.getD z.toNat 0) = true from decide_eq_true e)
        rw [upd_same, this, List.map_append]; rfl
      · rw [decide_eq_false e]
        have : [z].filter (fun i => lt t (hs.getD i.toNat 0)) = [] := List.filter_cons_of_neg (show ¬ lt t (hs.getD z.toNat 0) = true from fun z => e (of_decide_eq_true z))
        rw [this, List.append_nil]
        exact iteF ⟨h6, s6⟩
    · rintro d H6 hd ⟨h6, s6⟩
      rw [List.length_map, List.take_of_length_le (Nat.le_refl _)] at h6
      walk_at "wp"
      refine ⟨d, _, rfl, .of h6, Nat.le_trans (List.length_filter_le _ _) hil, fun l ps H7 hl7 ra s7 => ?_⟩
      rw [runsM_segs] at ra
      have hseg : segs (lt t) (vals hs (ivl a m)) = (segs (fun i => lt t (hs.getD i.toNat 0)) (ivl a m)).map (vals hs) := segs_map (fun _ => rfl) _
      have hslen : (segs (lt t) (vals hs (ivl a m))).length = ps.length := by rw [hseg, List.length_map, ra.1]
      have s57 := s6.trans s7
      walk_at "wp"
      refine ⟨l, rfl, .inl ⟨_, .inl (.of hl7), ?_⟩⟩
      rw [List.length_map]
      walk_at "wp"
      by_cases e : (1 : Int) < (ps.length : Int)
      · rw [decide_eq_true e]
        refine iteT ?_
        walk_at "wp"
        have hR := inv_many htm ht hinv (by rw [hslen]; omega)
        rw [hseg, List.map_map] at hR
        have hl7' : SqL K H7 l (ps.map V.ref) := .of hl7
        refine iu_L rfl hl7' ?_
        refine lcgo walk_list (fun d i H8 => ∃ xs : List V, H8 d = some (.lst xs) ∧ DpAll K H8 xs (encs (((segs (fun i => lt t (hs.getD i.toNat 0)) (ivl a m)).take i).map fun s => R least (vals hs s))) ∧ xs.length = i ∧ U.St [] H7 H8) (fun d hd => ⟨[], upd_same, by rw [List.take_zero, List.map_nil, encs]; exact .nil, rfl, U.St.new hd⟩) (fun d i H8 _ _ ⟨_, _, _, _, s⟩ => s.sqL noSeq_nil hl7') ?_ ?_
        · rintro d2 j x H8 H9 hd2 hj ⟨xs, h8, hx8, hxl, s8⟩ ⟨rfl, hx⟩
          rw [List.length_map] at hj
          have hjs : j < (segs (fun i => lt t (hs.getD i.toNat 0)) (ivl a m)).length := by rw [← ra.1]; exact hj
          rw [List.getElem?_map, List.getElem?_eq_getElem hj] at hx
          have hx := Option.some.inj hx
          subst hx
          have hp9 := ra.2 j ps[j] _ (List.getElem?_eq_getElem hj) (List.getElem?_eq_getElem hjs)
          have hmem : (segs (fun i => lt t (hs.getD i.toNat 0)) (ivl a m))[j] ∈ segs (fun i => lt t (hs.getD i.toNat 0)) (ivl a m) := List.getElem_mem hjs
          have htake : (segs (fun i => lt t (hs.getD i.toNat 0)) (ivl a m)).take (j + 1) = (segs (fun i => lt t (hs.getD i.toNat 0)) (ivl a m)).take j ++ [(segs (fun i => lt t (hs.getD i.toNat 0)) (ivl a m))[j]] := by rw [List.take_add_one, List.getElem?_eq_getElem hjs]; rfl
          rw [htake]
          generalize (segs (fun i => lt t (hs.getD i.toNat 0)) (ivl a m))[j] = sg at hp9 hmem
          obtain ⟨hne, hall, u, v', eiv, _⟩ := segs_mem hmem
          obtain ⟨esg, eln⟩ := ivl_piece eiv
          have hsgl : 0 < sg.length := List.length_pos_iff.mpr hne
          have hcnt := segs_count (p := fun i => lt t (hs.getD i.toNat 0)) (ivl a m)
          have htm' : t ∈ cov := hc t ((htm t).mp (List.mem_of_getElem? ht))
          walk_at "wp"
          refine ⟨trivial, ?_⟩
          have s09 := s05.trans (s57.trans s8)
          refine ⟨ha, ps[j], hs, a + u.length, sg.length, least, cov.erase t, rfl, s09.sqL noSeq_nil hha, ?_, hsgl, by omega, by omega, hsl, by rw [List.length_erase_of_mem htm']; omega, by omega, ?_, fun v H10 hv s10 => ?_⟩
          · rw [← esg]; exact .of (s8.at hp9 (by simp))
          · rw [← esg]
            intro y hy
            obtain ⟨i2, hi2, rfl⟩ := List.mem_map.mp hy
            have hlt := of_decide_eq_true (hall i2 hi2)
            have hin : i2 ∈ ivl a m := by rw [eiv]; simp [hi2]
            exact (List.mem_erase_of_ne (by omega)).mpr (hc _ (List.mem_map.mpr ⟨i2, hin, rfl⟩))
          · rw [← esg] at hv
            have h10 : H10 d2 = some (.lst xs) := s10.at h8 (by simp)
            have u11 : U.St [d2] H10 (upd H10 d2 (.lst (xs ++ [v]))) := U.St.set (by simp)
            have nt10 := noT_lst h10
            refine ⟨xs, h10, Draw.sls (by omega), xs ++ [v], upd_same, ?_, by simp [hxl], (s8.trans s10).then_own hd2⟩
            rw [List.map_append, encs_app]
            refine dpAll_app (St.dpFs u11 nt10 _ _ (flat_encs _) (St.dpFs s10 noT_nil _ _ (flat_encs _) hx8)) ?_
            show DpAll K _ [v] (encs [R least (vals hs sg)])
            rw [encs, encs]
            exact .cons (St.dpF u11 nt10 _ _ (flat_enc _) hv) .nil
        · rintro d2 H8 hd2 ⟨xs, h8, hx8, hxl, s8⟩
          rw [List.length_map, ra.1, List.take_of_length_le (Nat.le_refl _)] at hx8
          have hdeps : deps ((segs (fun i => lt t (hs.getD i.toNat 0)) (ivl a m)).map fun s => R least (vals hs s)) ≤ 400 := deps_le fun r' hr' => by
            obtain ⟨sg, hsg, rfl⟩ := List.mem_map.mp hr'
            have h1 := dep_R (least := least) _ (vals hs sg) cov (Nat.le_refl _) (fun z => (segs_mem hsg).1 (List.map_eq_nil_iff.mp z)) fun y hy => by
              obtain ⟨i2, hi2, rfl⟩ := List.mem_map.mp hy
              exact hc _ (List.mem_map.mpr ⟨i2, seg_sub hsg i2 hi2, rfl⟩)
            omega
          refine sortedEnc (.of h8) hx8 hdeps fun p1 ys hys hp1 => ?_
          have t1 := U.St.new (M := []) (o := HO.lst ys) hp1
          refine ⟨p1, ys, rfl, .inl ⟨.of upd_same, fun p2 hp2 => ⟨sz1 (by simp), fun p3 hp3 => ?_⟩⟩⟩
          have t2 := U.St.new (M := []) (o := HO.tup ys) hp2
          have t3 := U.St.new (M := []) (o := HO.tup [.int (t - least), .ref p2]) hp3
          have hys3 := St.dpFs t3 noT_nil _ _ (flat_encs _) (St.dpFs t2 noT_nil _ _ (flat_encs _) (St.dpFs t1 noT_nil _ _ (flat_encs _) hys))
          refine k _ _ ?_ (s05.trans (s57.trans (s8.trans (t1.trans (t2.trans t3)))))
          rw [hR, enc]
          exact .tup (.of upd_same) (.cons (.int _) (.cons (.tup (.of (t3.at upd_same (by simp))) hys3) .nil))
      · rw [decide_eq_false e]
        refine iteF ?_
        walk_at "wp"
        exact ⟨_, _, _, _, rfl, inv_next htd htm ht hinv (by omega), s5.trans s57⟩
  · rintro σ H5 ⟨o3, o4, o5, o6, rfl, hinv, s5⟩
    rw [List.length_map] at hinv
    obtain ⟨mn, hmn, hle, hR⟩ := hinv.2 rfl
    have s05 := s4.trans s5
    walk_at "wp"
    refine iu_L rfl (s05.sqL noSeq_nil hsa) ?_
    refine vals_go (s05.sqL noSeq_nil hha) (s05.sqL noSeq_nil hsa) hb hil fun d H6 h6 s6 => ?_
    refine .inr (.inl ⟨d, _, rfl, .of h6, List.length_pos_iff.mpr hVne, fun mm h1 h2 => ?_⟩)
    have emm : mm = mn := by
      have := h2 _ hmn
      have := hle _ h1
      omega
    subst emm
    walk_at "wp"
    refine ⟨Nat.zero_le _, fun p1 hp1 => ⟨sz1 (by simp), fun p2 hp2 => ?_⟩⟩
    have t1 := U.St.new (M := []) (o := HO.tup []) hp1
    have t2 := U.St.new (M := []) (o := HO.tup [.int (mm - least), .ref p1]) hp2
    refine k _ _ ?_ (s05.trans (s6.trans (t1.trans t2)))
    rw [hR, enc, encs]
    exact .tup (.of upd_same) (.cons (.int _) (.cons (.tup (.of (t2.at upd_same (by simp))) .nil) .nil))
end K59
set_option Elab.async false
set_option maxRecDepth 100000
set_option maxHeartbeats 4000000
set_option linter.all false
/-! ShowR: roots can be shown, how long their text is. -/
namespace Rank
open PySem RT
theorem int_facts {i : Int} (h0 : 0 ≤ i) (h1 : i < 2 ^ 60) : (PyData.int i).showable = true ∧ (PyData.int i).leavesShort 62 = true ∧ (PyData.int i).weight ≤ 61 := by
  have hl : i.natAbs.log2 < 61 := by
    have : i.natAbs < 2 ^ 60 := by omega
    exact Nat.lt_of_lt_of_le (PySem.Flt.log2_lt_of (by decide) this) (by decide)
  refine ⟨?_, ?_, ?_⟩
  · simp only [PyData.showable, decide_eq_true_eq]; omega
  · simp only [PyData.leavesShort, decide_eq_true_eq]
    show (Str.ofString (toString i)).length ≤ 62
    rw [ofString_length]
    exact int_text_length_le (k := 61) (by decide) hl
  · simp only [PyData.weight]
    split <;> omega
mutual
theorem show_ok : ∀ r : Rt, Good r → r.h < 2 ^ 60 → (enc r).showable = true ∧ (enc r).leavesShort 62 = true ∧ (enc r).weight + 1 ≤ 64 * size r
  | .mk h rs, g, hh => by
    rw [Good] at g
    have hh : h < 2 ^ 60 := hh
    obtain ⟨a1, a2, a3⟩ := int_facts g.1 hh
    obtain ⟨b1, b2, b3⟩ := shows_ok rs h g.2 hh
    rw [size]
    refine ⟨?_, ?_, ?_⟩
    · simp only [enc, PyData.showable, PyData.showableAll, Bool.and_true, Bool.and_eq_true]
      exact ⟨a1, b1⟩
    · simp only [enc, PyData.leavesShort, PyData.leavesShortAll, Bool.and_true, Bool.and_eq_true]
      exact ⟨a2, b2⟩
    · simp only [enc, PyData.weight, PyData.weightAll] at a3 ⊢
      omega
theorem shows_ok : ∀ (rs : List Rt) (h : Int), Goods h rs → h < 2 ^ 60 → PyData.showableAll (encs rs) = true ∧ PyData.leavesShortAll 62 (encs rs) = true ∧ PyData.weightAll (encs rs) ≤ 64 * sizes rs
  | [], h, _, _ => by simp [encs, PyData.showableAll, PyData.leavesShortAll, PyData.weightAll, sizes]
  | r :: rs, h, g, hh => by
    rw [Goods] at g
    obtain ⟨a1, a2, a3⟩ := show_ok r g.1.1 (by have := g.1.2; omega)
    obtain ⟨b1, b2, b3⟩ := shows_ok rs h g.2 hh
    simp only [encs, PyData.showableAll, PyData.leavesShortAll, PyData.weightAll, sizes, Bool.and_eq_true]
    exact ⟨⟨a1, b1⟩, ⟨a2, b2⟩, by omega⟩
end
theorem shown_len {r : Rt} (g : Good r) (h : r.h < 2 ^ 60) (hs : size r ≤ 1000) : (enc r).shown.length ≤ 2 ^ 24 := by
  obtain ⟨_, a2, a3⟩ := show_ok r g h
  have := PyData.shown_le 62 (by decide) (enc r) a2
  omega
theorem enc_noDict (r : Rt) : (enc r).hasDict = false := PyData.hasDict_of_canLay _ (lay_enc r)
end Rank
set_option Elab.async false
set_option maxRecDepth 1000000
set_option maxHeartbeats 32000000
set_option linter.all false
/-! K59W3: _law_row_root, the law. -/
namespace K59
open PySem PySem.Spec PyProof.Rows L2 U RT Row RootsTr PySem.W K59P RunRoot RunRow K63 Draw
local macro_rules | `(tactic| walk_at "wp") => `(tactic| try simp only [K59.w_revL, K59.w_lstRg, K59.w_rg1, if_true, L2.wipe, U.w_lc, U.w_for, U.w_seq, U.w_next, U.w_asg, U.w_gname, U.w_gcons, U.w_gnil, U.w_gsub, U.w_ret, U.w_retn, U.w_drop, U.w_if, U.w_brk, U.w_cont, U.w_var, U.w_c, U.w_op, U.w_un, U.w_test, U.w_tb, U.w_and, U.w_or, U.w_not, U.w_andv, U.w_orv, U.w_notv, U.w_ifx, U.w_yes, U.w_nil, U.w_cons, U.w_tup, U.w_lst, U.w_par, U.w_par3, U.w_aug, U.w_ip, U.w_cb, U.w_call, U.w_sl, U.w_nopart, U.w_part, U.w_bm, U.w_bm0, U.w_I0, U.w_I, U.w_U, U.w_add, U.w_mul, U.w_eqI, U.w_neI, U.w_intI, U.w_min2, U.w_max2, U.w_ex, U.w_ex2, U.w_ex3, U.w_rng1, U.w_rng2, U.w_exI, U.w_exI2, U.w_reprI, U.w_absI, U.w_eqS, U.w_neS,
  List.getElem?_cons_zero, List.getElem?_cons_succ, List.set_cons_zero, List.set_cons_succ, Option.some.injEq, V.int.injEq, V.bl.injEq, V.str.injEq, V.ref.injEq, List.append_nil, List.nil_append, List.cons_append])

theorem nodup_len : ∀ {ds hs : List Int}, ds.Nodup → (∀ k ∈ ds, k ∈ hs) → ds.length ≤ hs.length
  | [], hs, _, _ => Nat.zero_le _
  | x :: ds, hs, hn, hm => by
    obtain ⟨hx, hn'⟩ := List.nodup_cons.mp hn
    have hxh := hm x List.mem_cons_self
    have := nodup_len (ds := ds) (hs := hs.erase x) hn' fun k hk => (List.mem_erase_of_ne (fun e => hx (by rw [← e]; exact hk))).mpr (hm k (List.mem_cons_of_mem _ hk))
    rw [List.length_erase_of_mem hxh] at this
    have : 0 < hs.length := List.length_pos_of_mem hxh
    rw [List.length_cons]; omega
theorem min_one {l : List Int} {a b : Int} (h1 : a ∈ l) (h2 : ∀ k ∈ l, a ≤ k) (h3 : b ∈ l) (h4 : ∀ k ∈ l, b ≤ k) : a = b := by
  have := h2 b h3
  have := h4 a h1
  omega
def spRowRoot (K : PySem.W.Frag) (N : Nat) : Sp := fun vs H Q _ => ∃ (ha : Addr) (hs cov : List Int), vs = [.ref ha] ∧ SqL K H ha (hs.map V.int) ∧ 0 < hs.length ∧ hs.length ≤ 1000 ∧ cov.length ≤ N ∧ N ≤ 100 ∧ (∀ x ∈ hs, x ∈ cov) ∧
  ∀ (v : V) (H' : Hp) (least : Int), least ∈ hs → (∀ k ∈ hs, least ≤ k) → Dp K H' v (enc (R least hs)) → U.St [] H H' → Q v H'
theorem rd_row_root {K : PySem.W.Frag} {w : World} {N : Nat} {vs : List V} {H : Hp} {Q : VK} {E : XK} (h : spRowRoot K N vs H Q E) : tr__law_row_root K w (spRun K N) { nx := fun _ H' => Q .non H', rt := Q } (start nm__law_row_root vs) H := by
  obtain ⟨ha, hs, cov, rfl, hha, h0, hl, hc, hN, hcov, k⟩ := h
  show tr__law_row_root K w (spRun K N) _ [some (.ref ha)] H
  unfold tr__law_row_root
  walk_at "wp"
  refine ⟨ha, rfl, .inl ⟨_, .inl hha, ?_⟩⟩
  rw [List.length_map]
  walk_at "wp"
  refine ⟨.of_le (by omega) (by omega) (by omega) (by omega), fun q hq => ?_⟩
  have t1 := U.St.new (M := []) (o := HO.lst (rgV 0 (hs.length : Int))) hq
  have e1 : rgV 0 (hs.length : Int) = (ivl 0 hs.length).map V.int := by
    unfold rgV ivl
    rw [List.map_map, Int.sub_zero, Int.toNat_natCast]; rfl
  have hq1 : (upd H q (HO.lst (rgV 0 (hs.length : Int)))) q = some (.lst ((ivl 0 hs.length).map V.int)) := by rw [← e1]; exact upd_same
  have hha1 := t1.sqL noSeq_nil hha
  generalize (upd H q (HO.lst (rgV 0 (hs.length : Int)))) = H1 at hq1 hha1 t1
  refine .inr (.inl ⟨ha, hs, rfl, hha1, h0, fun least h1 h2 => ?_⟩)
  walk_at "wp"
  refine ⟨ha, q, hs, 0, hs.length, least, cov, rfl, hha1, .of hq1, h0, Int.le_refl _, by omega, hl, hc, hN, ?_, fun v H' hv s => ?_⟩
  · rw [vals_all]; exact hcov
  · rw [vals_all] at hv
    exact k v H' least h1 h2 hv (t1.trans s)
/-- root_of_row of a row whose root is known -/
theorem row_go {K : PySem.W.Frag} {H : Hp} {Q : VK} {E : XK} {t : Addr} {hs cov : List Int} {r0 : Rt} (hT : SqT K H t (hs.map V.int)) (h0 : 0 < hs.length) (hl : hs.length ≤ 500) (hc : cov.length ≤ 399) (hcov : ∀ x ∈ hs, x ∈ cov)
    (hR : ∀ least, least ∈ hs → (∀ k ∈ hs, least ≤ k) → R least hs = r0) (k : ∀ (v : V) (H' : Hp), Dp K H' v (enc r0) → U.St [] H H' → Q v H') : spRow K [.ref t] H Q E := by
  refine ⟨t, hs, rfl, hT, h0, hl, fun ds hp hm => ?_, fun v H' least ds h1 h2 h3 h4 hv s => k v H' ?_ s⟩
  · have := nodup_len (ds := ds) (hs := cov) (hp.imp fun h => by omega) fun x hx => hcov x ((hm x).mp hx)
    omega
  · rw [← hR least h1 h2, ← row_R h0 h3 h4 h2]; exact hv.dp
theorem enc_eqv (r : Rt) : PyData.eqv (enc r) (enc r) = true := PySem.SeqAt.eqv_refl _ (lay_enc r)
theorem ne_same {K : PySem.W.Frag} {H : Hp} {Q : VK} {v v' : V} {r : Rt} (h1 : Dp K H v (enc r)) (h2 : Dp K H v' (enc r)) (hd : dep r ≤ 400) (q : Q (.bl false) H) : rNeU K 800 v v' H Q := by
  refine .inr ⟨enc r, enc r, h1, h2, lay_enc r, lay_enc r, ?_, ?_⟩
  · have := depth_enc r; omega
  · rw [enc_eqv]; exact q
theorem eq_same {K : PySem.W.Frag} {H : Hp} {Q : VK} {v v' : V} {r : Rt} (h1 : Dp K H v (enc r)) (h2 : Dp K H v' (enc r)) (hd : dep r ≤ 400) (q : Q (.bl true) H) : rEqU K 800 v v' H Q := by
  refine .inr ⟨enc r, enc r, h1, h2, lay_enc r, lay_enc r, ?_, ?_⟩
  · have := depth_enc r; omega
  · rw [enc_eqv]; exact q
theorem repr_go {K : PySem.W.Frag} {H : Hp} {Q : VK} {v : V} {r : Rt} (h1 : Dp K H v (enc r)) (g : Rank.Good r) (hh : r.h < 2 ^ 60) (hs : Rank.size r ≤ 1000) (hd : dep r ≤ 400) (q : Q (.str (enc r).shown) H) : UG.rReprB K 800 [v] H Q := by
  obtain ⟨p, q', cs, e, _⟩ := dp_root h1
  subst e
  refine ⟨p, enc r, rfl, h1, (Rank.show_ok r g hh).1, Rank.enc_noDict r, ?_, Rank.shown_len g hh hs, q⟩
  have := depth_enc r; omega
/-- a row that rises -/
theorem asc_root {l ns : List Int} {least : Int} (hp : ns.Perm l) (ha : ns.Pairwise (· ≤ ·)) (h0 : 0 < l.length) (h1 : least ∈ ns) (h2 : ∀ k ∈ ns, least ≤ k) : R least ns = .mk 0 [] := by
  match ns, hp, ha, h1, h2 with
  | [], hp, _, _, _ =>
    have := hp.length_eq
    simp at this; omega
  | x :: ns, hp, ha, h1, h2 =>
    have : least = x := by
      refine min_one h1 h2 List.mem_cons_self fun k hk => ?_
      rcases List.mem_cons.mp hk with e | hk
      · rw [e]; exact Int.le_refl _
      · exact (List.pairwise_cons.mp ha).1 k hk
    rw [R_asc ha, this, Int.sub_self]
theorem last_root : R 0 [0, 2, 0, 1, 0] = .mk 2 [.mk 0 [], .mk 1 [.mk 0 [], .mk 0 []]] := by
  have s2 : ∀ a b : Rt, rle a b = true → sortR [a, b] = [a, b] := fun a b h => List.mergeSort_of_pairwise (by simp [h])
  have r0 : R 0 [0] = .mk 0 [] := by rw [R_nil (by decide)]; rfl
  have r1 : R 0 [0, 1, 0] = .mk 1 [.mk 0 [], .mk 0 []] := by
    have e : segs (lt (mx [0, 1, 0])) [0, 1, 0] = [[0], [0]] := by decide
    rw [R_many (by rw [e]; decide), e]
    show Rt.mk _ (sortR [R 0 [0], R 0 [0]]) = _
    rw [r0, s2 _ _ (by decide +kernel)]; rfl
  have e : segs (lt (mx [0, 2, 0, 1, 0])) [0, 2, 0, 1, 0] = [[0], [0, 1, 0]] := by decide
  rw [R_many (by rw [e]; decide), e]
  show Rt.mk _ (sortR [R 0 [0], R 0 [0, 1, 0]]) = _
  rw [r0, r1, s2 _ _ (by decide +kernel)]; rfl
end K59
set_option Elab.async false
set_option maxRecDepth 1000000
set_option maxHeartbeats 64000000
set_option linter.all false
/-! K59W4: the law. -/
namespace K59
open PySem PySem.Spec PyProof.Rows L2 U RT Row RootsTr PySem.W K59P RunRoot RunRow K63 Draw
local macro_rules | `(tactic| walk_at "wp") => `(tactic| try simp only [K59.w_revL, K59.w_lstRg, K59.w_rg1, if_true, L2.wipe, U.w_lc, U.w_for, U.w_seq, U.w_next, U.w_asg, U.w_gname, U.w_gcons, U.w_gnil, U.w_gsub, U.w_ret, U.w_retn, U.w_drop, U.w_if, U.w_brk, U.w_cont, U.w_var, U.w_c, U.w_op, U.w_un, U.w_test, U.w_tb, U.w_and, U.w_or, U.w_not, U.w_andv, U.w_orv, U.w_notv, U.w_ifx, U.w_yes, U.w_nil, U.w_cons, U.w_tup, U.w_lst, U.w_par, U.w_par3, U.w_aug, U.w_ip, U.w_cb, U.w_call, U.w_sl, U.w_nopart, U.w_part, U.w_bm, U.w_bm0, U.w_I0, U.w_I, U.w_U, U.w_add, U.w_mul, U.w_eqI, U.w_neI, U.w_intI, U.w_min2, U.w_max2, U.w_ex, U.w_ex2, U.w_ex3, U.w_rng1, U.w_rng2, U.w_exI, U.w_exI2, U.w_reprI, U.w_absI, U.w_eqS, U.w_neS,
  List.getElem?_cons_zero, List.getElem?_cons_succ, List.set_cons_zero, List.set_cons_succ, Option.some.injEq, V.int.injEq, V.bl.injEq, V.str.injEq, V.ref.injEq, List.append_nil, List.nil_append, List.cons_append])

theorem forget {M : List Addr} {H H1 H2 : Hp} {m : Addr} (s : U.St [] H H1) (t : U.St [m] H1 H2) (hm : H m = none) : U.St [] H H2 := fun b o e _ => t b o (s b o e (by simp)) (by simp [ne_of_none e hm])
theorem leaf_dp {K : PySem.W.Frag} {H : Hp} {p1 p2 : Addr} (h1 : H p1 = none) (h2 : (upd H p1 (HO.tup [])) p2 = none) : Dp K (upd (upd H p1 (HO.tup [])) p2 (HO.tup [.int 0, .ref p1])) (.ref p2) (enc (.mk 0 [])) := by
  have t2 := U.St.new (M := []) (o := HO.tup [.int 0, .ref p1]) h2
  rw [enc, encs]
  exact .tup (.of upd_same) (.cons (.int 0) (.cons (.tup (.of (t2.at upd_same (by simp))) .nil) .nil))
def spLaw (K : PySem.W.Frag) : Sp := fun vs H Q _ => ∃ (a : Addr) (ns : List Int), vs = [.ref a] ∧ SqL K H a (ns.map V.int) ∧ ns.length ≤ 63 ∧ ∀ (H' : Hp), Q (.bl true) H'
theorem rd_law {K : PySem.W.Frag} {w : World} {vs : List V} {H : Hp} {Q : VK} {E : XK} (h : spLaw K vs H Q E) : tr_law K w (spBegun K) Draw.spDraw (spOf K) (spRowRoot K 30) (spRow K) { nx := fun _ H' => Q .non H', rt := Q } (start nm_law vs) H := by
  obtain ⟨a, ns, rfl, hL, hns, k⟩ := h
  show tr_law K w _ _ _ _ _ _ [some (.ref a), none, none, none, none, none, none, none, none, none, none, none] H
  unfold tr_law
  walk_at "wp"
  refine ⟨by decide, by decide, ?_⟩
  refine forgo_range (fun i σ H1 => ∃ (o1 o2 o3 o4 o5 o6 o7 o8 o9 o10 o11 : Option V), σ = [some (.ref a), o1, o2, o3, o4, o5, o6, o7, o8, o9, o10, o11] ∧ U.St [] H H1 ∧ (i = 0 ∨ ∃ m c, o2 = some (.ref m) ∧ H m = none ∧ MAt H1 m c 100000))
    ⟨_, _, _, _, _, _, _, _, _, _, _, rfl, U.St.refl H, .inl rfl⟩ ?_ ?_
  · rintro i σ H1 hi ⟨o1, o2, o3, o4, o5, o6, o7, o8, o9, o10, o11, rfl, s1, _⟩
    walk_at "wp"
    refine ⟨a, _, ns, rfl, s1.sqL noSeq_nil hL, hns, by omega, by omega, fun m c H2 hm hc hM2 s2 => ?_⟩
    have hHm : H m = none := s1.back hm (by simp)
    walk_at "wp"
    refine ⟨⟨by decide, by decide, by decide⟩, sz1 (by simp), fun l hl => ?_⟩
    have t3 := U.St.new (M := []) (o := HO.lst [.int 2, .int 3, .int 6, .int 40, .int (10 ^ (12 : Int).toNat)]) hl
    refine ⟨m, c, l, 0, _, rfl, hM2.new t3, by omega, .inl (.of upd_same), by simp, by simp, fun v H3 hv hM3 s3 => ?_⟩
    have s13 : U.St [] H H3 := forget (M := []) (s1.trans (s2.trans t3)) s3 hHm
    obtain ⟨wide, rfl, hw0, hw1⟩ : ∃ x : Int, v = .int x ∧ 2 ≤ x ∧ x ≤ 1000000000000 := by
      simp only [List.mem_cons, List.not_mem_nil, or_false] at hv
      rcases hv with e | e | e | e | e
      · exact ⟨2, e, by decide, by decide⟩
      · exact ⟨3, e, by decide, by decide⟩
      · exact ⟨6, e, by decide, by decide⟩
      · exact ⟨40, e, by decide, by decide⟩
      · exact ⟨_, e, by decide, by decide⟩
    refine ⟨Nat.zero_le _, fun d hd => ?_⟩
    have t4 := U.St.new (M := []) (o := HO.lst []) hd
    have hM4 := hM3.new t4
    have hdm := hM3.nm hd
    have hHd : H d = none := s13.back hd (by simp)
    have hd4 : (upd H3 d (HO.lst [])) d = some (.lst (([] : List Int).map V.int)) := upd_same
    have s14 : U.St [] H (upd H3 d (HO.lst [])) := s13.trans t4
    generalize (upd H3 d (HO.lst [])) = H4 at hd4 s14 hM4
    walk_at "wp"
    refine ⟨m, c, 20, _, rfl, hM4, by omega, by decide, by decide, fun x H5 hx0 hx1 hM5 s5 => ?_⟩
    walk_at "wp"
    refine ⟨by omega, by omega, ?_⟩
    have s15 : U.St [] H H5 := forget (M := []) s14 s5 hHm
    have hd5 := s5.at hd4 (by simp [hdm.1])
    refine forgo_range (fun i2 σ H6 => ∃ (o5 o6 : Option V) (hs : List Int), σ = [some (.ref a), some (.int (0 + (i : Nat))), some (.ref m), some (.int wide), some (.ref d), o5, o6, o7, o8, o9, o10, o11] ∧ H6 d = some (.lst (hs.map V.int)) ∧ hs.length = i2 ∧ (∀ x ∈ hs, -1000000000000 ≤ x ∧ x ≤ 1000000000000) ∧ MAt H6 m c (2 + 2 * i2) ∧ U.St [] H H6)
      ⟨_, _, [], rfl, hd5, rfl, by simp, hM5.mono (by omega), s15⟩ ?_ ?_
    · rintro i2 σ H6 hi2 ⟨o5, o6, hs, rfl, hd6, hlen, hb, hM6, s6⟩
      walk_at "wp"
      refine ⟨m, c, wide, _, rfl, hM6, by omega, by omega, by omega, fun y H7 hy0 hy1 hM7 s7 => ?_⟩
      walk_at "wp"
      refine ⟨divW (by omega) (by omega), ?_⟩
      have hd7 := s7.at hd6 (by simp [hdm.1])
      have s07 : U.St [] H H7 := forget (M := []) s6 s7 hHm
      have fin : ∀ (z : Int) (H8 : Hp) (n : Nat), -1000000000000 ≤ z → z ≤ 1000000000000 → H8 d = some (.lst (hs.map V.int)) → MAt H8 m c n → n ≤ 2 + 2 * (i2 + 1) → U.St [] H H8 →
          rAppend (V.ref d) [V.int z] H8 fun v H' => ∃ (o5 o6 : Option V) (hs : List Int), [some (V.ref a), some (V.int (0 + (i : Nat))), some (V.ref m), some (V.int wide), some (V.ref d), some (V.int (0 + (i2 : Nat))), some (V.int (y - wide / 2)), o7, o8, o9, o10, o11] = [some (.ref a), some (.int (0 + (i : Nat))), some (.ref m), some (.int wide), some (.ref d), o5, o6, o7, o8, o9, o10, o11] ∧ H' d = some (.lst (hs.map V.int)) ∧ hs.length = i2 + 1 ∧ (∀ x ∈ hs, -1000000000000 ≤ x ∧ x ≤ 1000000000000) ∧ MAt H' m c (2 + 2 * (i2 + 1)) ∧ U.St [] H H' := by
        intro z H8 n hz0 hz1 hd8 hM8 hn s8
        refine ⟨d, hs.map V.int, .int z, rfl, rfl, hd8, Draw.sls (by rw [List.length_map]; omega), _, _, hs ++ [z], rfl, by rw [upd_same, List.map_append]; rfl, by rw [List.length_append, hlen]; rfl, fun u hu => ?_, ?_, s8.then_own hHd⟩
        · rcases List.mem_append.mp hu with q | q
          · exact hb u q
          · rw [List.mem_singleton.mp q]; omega
        · exact (hM8.st (U.St.set (M := [d]) (by simp)) (by simp [Ne.symm hdm.1]) (by simp [Ne.symm hdm.2])).mono hn
      refine ⟨.inl ⟨rfl, _, .of hd7⟩, Nat.zero_le _, fun q hq => ?_⟩
      have t8 := U.St.new (M := []) (o := HO.lst []) hq
      have hd8 : (upd H7 q (HO.lst [])) d = some (.lst (hs.map V.int)) := t8.at hd7 (by simp)
      have hq8 : (upd H7 q (HO.lst [])) q = some (.lst []) := upd_same
      have hM8 := hM7.new t8
      have s08 := s07.trans t8
      generalize (upd H7 q (HO.lst [])) = H8 at hd8 hq8 hM8 s08
      refine Draw.ne_nilI (.of hd8) hq8 ?_
      rcases snoc_or hs with e | ⟨hs', z, e⟩
      · rw [decide_eq_true e]
        refine ⟨false, rfl, iteF ?_⟩
        refine iteF ?_
        exact fin _ H8 _ (by omega) (by omega) hd8 hM8 (by omega) s08
      · subst e
        rw [decide_eq_false (by simp)]
        refine ⟨true, rfl, iteT ?_⟩
        refine ⟨m, c, 5, _, rfl, hM8, by omega, by decide, by decide, fun u H9 hu0 hu1 hM9 s9 => ?_⟩
        have hd9 := s9.at hd8 (by simp [hdm.1])
        have s09 : U.St [] H H9 := forget (M := []) s08 s9 hHm
        walk_at "wp"
        by_cases c0 : u = 0
        · rw [decide_eq_true c0]
          refine iteT ?_
          refine ixL (.of hd9) (v := .int z) (by rw [List.map_append]; exact atI_last _ _) ?_
          have := hb z (by simp)
          exact fin z H9 _ (by omega) (by omega) hd9 hM9 (by omega) s09
        · rw [decide_eq_false c0]
          refine iteF ?_
          exact fin _ H9 _ (by omega) (by omega) hd9 hM9 (by omega) s09
    · rintro σ H6 ⟨o5, o6, hs, rfl, hd6, hlen, hb, hM6, s6⟩
      have hlen1 : 1 ≤ hs.length ∧ hs.length ≤ 20 := by omega
      have hne : hs ≠ [] := fun z => by rw [z] at hlen1; simp at hlen1
      walk_at "wp"
      refine ⟨d, _, rfl, .inl ⟨.of hd6, fun t ht => ?_⟩⟩
      have t7 := U.St.new (M := []) (o := HO.tup (hs.map V.int)) ht
      -- the first root
      refine ⟨t, hs, rfl, .of upd_same, by omega, by omega, fun ds hp hmm => by have := nodup_len (ds := ds) (hs := hs) (hp.imp fun h => by omega) fun x hx => (hmm x).mp hx; omega, fun v H7 least ds hlm hll hp hmm hv s7 => ?_⟩
      obtain ⟨_, f2, f3, f4, f5⟩ := RankRow.row_left (by omega) hp hmm hll
      have hdl := nodup_len (ds := ds) (hs := hs) (hp.imp fun h => by omega) fun x hx => (hmm x).mp hx
      rw [row_R (by omega) hp hmm hll] at f2 f3 f4 f5 hv
      have f5' : (R least hs).h ≤ 2000000000000 := by
        refine Int.le_trans f5 ?_
        unfold RankRow.Tj
        have h1 := hb _ hlm
        by_cases e : ds.length = 0
        · rw [if_pos e]; decide
        · rw [if_neg e]
          have hm1 : ds.getD (ds.length - 1) 0 ∈ ds := by
            rw [List.getD_eq_getElem?_getD, List.getElem?_eq_getElem (show ds.length - 1 < ds.length by omega)]
            exact List.getElem_mem _
          have := hb _ ((hmm _).mp hm1)
          omega
      have f3' : Rank.size (R least hs) ≤ 400 := Nat.le_trans f3 (Nat.mul_le_mul (show ds.length ≤ 20 by omega) hlen1.2)
      have f4' : dep (R least hs) ≤ 400 := by omega
      have hd7 : H7 d = some (.lst (hs.map V.int)) := s7.at (t7.at hd6 (by simp)) (by simp)
      have s07 : U.St [] H H7 := s6.trans (t7.trans s7)
      have hM7 := (hM6.new t7).new s7
      have hv7 := hv.dp
      clear hv f4 f5 f3
      have leastU : ∀ b, b ∈ hs → (∀ k ∈ hs, b ≤ k) → b = least := fun b h1 h2 => min_one h1 h2 hlm hll
      generalize hr : R least hs = r at hv7 f2 f3' f4' f5'
      walk_at "wp"
      -- the law's own
      refine ⟨d, hs, hs, rfl, .of hd7, by omega, by omega, by omega, by omega, fun x hx => hx, fun v2 H8 least2 h1 h2 hv2 s8 => ?_⟩
      rw [leastU least2 h1 h2, hr] at hv2
      have hv8 := St.dpF s8 noT_nil _ _ (flat_enc r) hv7
      have hd8 := s8.at hd7 (by simp)
      have hM8 := hM7.new s8
      have s08 := s07.trans s8
      walk_at "wp"
      refine repr_go hv8 f2 (by omega) (by omega) f4' ?_
      refine repr_go hv2 f2 (by omega) (by omega) f4' ?_
      walk_at "wp"
      refine iteF ?_
      -- backward
      refine ⟨d, _, rfl, .of hd8, fun rv hrv => ?_⟩
      have t9 := U.St.new (M := []) (o := HO.lst (hs.map V.int).reverse) hrv
      refine ⟨rv, _, rfl, .inl ⟨.of upd_same, fun t2 ht2 => ?_⟩⟩
      have t10 := U.St.new (M := []) (o := HO.tup (hs.map V.int).reverse) ht2
      refine row_go (hs := hs.reverse) (cov := hs) (r0 := r) (by rw [List.map_reverse]; exact .of upd_same) (by simp; omega) (by simp; omega) (by omega) (fun x hx => List.mem_reverse.mp hx) (fun b h1 h2 => ?_) fun v3 H11 hv3 s11 => ?_
      · rw [R_rev, leastU b (List.mem_reverse.mp h1) (fun k hk => h2 k (List.mem_reverse.mpr hk)), hr]
      have s811 := t9.trans (t10.trans s11)
      have hv2' := St.dpF s811 noT_nil _ _ (flat_enc r) hv2
      have hd11 := s811.at hd8 (by simp)
      have hM11 := hM8.new s811
      have s011 := s08.trans s811
      refine ne_same hv3 hv2' f4' ⟨false, rfl, iteF ?_⟩
      walk_at "wp"
      -- a number added
      refine ⟨m, c, 100, _, rfl, hM11, by omega, by decide, by decide, fun y H12 hy0 hy1 hM12 s12 => ?_⟩
      have hd12 := s12.at hd11 (by simp [hdm.1])
      have hv12 := St.dpF s12 (noT_of hM11.ns) _ _ (flat_enc r) hv2'
      have s012 : U.St [] H H12 := forget (M := []) s011 s12 hHm
      walk_at "wp"
      have hd12' : SqL K H12 d (hs.map V.int) := .of hd12
      refine iu_L rfl hd12' ?_
      refine lcgo walk_list (fun p i H13 => H13 p = some (.lst (((hs.take i).map (· + (y - 50))).map V.int)) ∧ U.St [] H12 H13) (fun p hp => ⟨upd_same, U.St.new hp⟩) (fun p i H13 _ _ ⟨_, s⟩ => s.sqL noSeq_nil hd12') ?_ ?_
      · rintro p j x H13 H14 hp hj ⟨h13, s13'⟩ ⟨rfl, hx⟩
        obtain ⟨z, hz, rfl⟩ := Draw.int_atV hx
        rw [List.length_map] at hj
        walk_at "wp"
        refine ⟨trivial, _, h13, Draw.sls (by rw [List.length_map, List.length_map, List.length_take]; omega), ?_, s13'.then_own hp⟩
        rw [upd_same, List.take_add_one, hz]; simp
      rintro p H13 hp ⟨h13, s13'⟩
      rw [List.length_map, List.take_of_length_le (Nat.le_refl _)] at h13
      refine ⟨p, _, rfl, .inl ⟨.of h13, fun t3 ht3 => ?_⟩⟩
      have t14 := U.St.new (M := []) (o := HO.tup ((hs.map (· + (y - 50))).map V.int)) ht3
      refine row_go (hs := hs.map (· + (y - 50))) (cov := hs.map (· + (y - 50))) (r0 := r) (.of upd_same) (by simp; omega) (by simp; omega) (by simp; omega) (fun x hx => hx) (fun b h1 h2 => ?_) fun v4 H15 hv4 s15' => ?_
      · have eb : b = least + (y - 50) := by
          refine min_one h1 h2 (List.mem_map.mpr ⟨least, hlm, rfl⟩) fun k hk => ?_
          obtain ⟨u, hu, rfl⟩ := List.mem_map.mp hk
          have := hll u hu
          omega
        rw [eb, R_add hne, hr]
      have s1215 := s13'.trans (t14.trans s15')
      have hv15 := St.dpF s1215 noT_nil _ _ (flat_enc r) hv12
      have hd15 := s1215.at hd12 (by simp)
      have hM15 := hM12.new s1215
      have s015 := s012.trans s1215
      refine ne_same hv4 hv15 f4' ⟨false, rfl, iteF ?_⟩
      walk_at "wp"
      -- each entry twice
      refine ⟨Nat.zero_le _, fun tw htw => ?_⟩
      have t16 := U.St.new (M := []) (o := HO.lst []) htw
      have htw16 : (upd H15 tw (HO.lst [])) tw = some (.lst ((dbl []).map V.int)) := upd_same
      have hv16 := St.dpF t16 noT_nil _ _ (flat_enc r) hv15
      have hd16 : (upd H15 tw (HO.lst [])) d = some (.lst (hs.map V.int)) := t16.at hd15 (by simp)
      have hM16 := hM15.new t16
      have s016 := s015.trans t16
      have hHtw : H tw = none := s015.back htw (by simp)
      have htwm := hM15.nm htw
      have htwd : d ≠ tw := fun z => by rw [← z, hd15] at htw; cases htw
      have ntw : NoT (upd H15 tw (HO.lst [])) [tw] := noT_lst htw16
      generalize (upd H15 tw (HO.lst [])) = H16 at htw16 hv16 hd16 hM16 s016 ntw
      have hd16' : SqL K H16 d (hs.map V.int) := .of hd16
      refine iu_L rfl hd16' ?_
      refine forgo_list (xs := hs.map V.int) (fun j σ H17 => ∃ o6 : Option V, σ = [some (.ref a), some (.int (0 + (i : Nat))), some (.ref m), some (.int wide), some (.ref d), o5, o6, some v, some v2, some (.int (y - 50)), some (.ref tw), o11] ∧ H17 tw = some (.lst ((dbl (hs.take j)).map V.int)) ∧ U.St [tw] H16 H17) ⟨_, rfl, htw16, U.St.refl H16⟩ (fun j σ H17 _ ⟨_, _, _, s⟩ => .of (s.at hd16 (by simp [htwd]))) ?_ ?_
      · rintro j x σ H17 hj hx ⟨o6, rfl, htw17, s17⟩
        obtain ⟨z, hz, rfl⟩ := Draw.int_atV hx
        rw [List.length_map] at hj
        walk_at "wp"
        refine ⟨.inl ⟨rfl, _, .of htw17⟩, sz1 (by simp), fun p2 hp2 => ?_⟩
        have t18 := U.St.new (M := []) (o := HO.lst [.int z, .int z]) hp2
        refine ⟨tw, p2, _, _, rfl, rfl, t18.at htw17 (by simp), upd_same, Draw.szl (by rw [List.length_map, dbl_len, List.length_take]; simp only [List.length_cons, List.length_nil]; omega), ?_⟩
        refine ⟨_, rfl, ?_, (s17.trans (t18.mono (by simp))).then_set (by simp)⟩
        have e : hs.take (j + 1) = hs.take j ++ [z] := by rw [List.take_add_one, hz]; rfl
        rw [upd_same, e, dbl_app, List.map_append]; rfl
      rintro σ H17 ⟨o6, rfl, htw17, s17⟩
      rw [List.length_map, List.take_of_length_le (Nat.le_refl _)] at htw17
      have hv17 := St.dpF s17 ntw _ _ (flat_enc r) hv16
      have hd17 := s17.at hd16 (by simp [htwd])
      have hM17 := hM16.st s17 (by simp [Ne.symm htwm.1]) (by simp [Ne.symm htwm.2])
      have s017 : U.St [] H H17 := forget (M := []) s016 s17 hHtw
      walk_at "wp"
      refine ⟨tw, _, rfl, .inl ⟨.of htw17, fun t4 ht4 => ?_⟩⟩
      have t18 := U.St.new (M := []) (o := HO.tup ((dbl hs).map V.int)) ht4
      have hdl2 := dbl_len hs
      refine row_go (hs := dbl hs) (cov := hs) (r0 := r) (.of upd_same) (by omega) (by omega) (by omega) (fun x hx => dbl_mem.mp hx) (fun b h1 h2 => ?_) fun v5 H19 hv5 s19 => ?_
      · rw [R_dbl, leastU b (dbl_mem.mp h1) (fun k hk => h2 k (dbl_mem.mpr hk)), hr]
      have s1719 := t18.trans s19
      have hv19 := St.dpF s1719 noT_nil _ _ (flat_enc r) hv17
      have hd19 := s1719.at hd17 (by simp)
      have hM19 := hM17.new s1719
      have s019 := s017.trans s1719
      refine ne_same hv5 hv19 f4' ⟨false, rfl, iteF ?_⟩
      walk_at "wp"
      -- rising and falling
      refine .inl ⟨d, hs, rfl, .of hd19, fun us p5 hperm hpw hp5 => ?_⟩
      have t20 := U.St.new (M := []) (o := HO.lst (us.map V.int)) hp5
      refine ⟨p5, _, rfl, .inl ⟨.of upd_same, fun t5 ht5 => ?_⟩⟩
      have t21 := U.St.new (M := []) (o := HO.tup (us.map V.int)) ht5
      have hul := hperm.length_eq
      refine row_go (hs := us) (cov := hs) (r0 := .mk 0 []) (.of upd_same) (by omega) (by omega) (by omega) (fun x hx => hperm.mem_iff.mp hx) (fun b h1 h2 => asc_root hperm hpw (by omega) h1 h2) fun v6 H22 hv6 s22 => ?_
      have s1922 := t20.trans (t21.trans s22)
      have hd22 := s1922.at hd19 (by simp)
      have hM22 := hM19.new s1922
      have s022 := s019.trans s1922
      refine ⟨Nat.zero_le _, fun q1 hq1 => ⟨sz1 (by simp), fun q2 hq2 => ?_⟩⟩
      have u1 := U.St.new (M := []) (o := HO.tup []) hq1
      have u2 := U.St.new (M := []) (o := HO.tup [.int 0, .ref q1]) hq2
      have u12 := u1.trans u2
      have hl12 := leaf_dp (K := K) hq1 hq2
      refine ne_same (St.dpF u12 noT_nil _ _ (flat_enc _) hv6) hl12 (by simp [dep, deps]) ⟨false, rfl, iteF ?_⟩
      have hd23 := u12.at hd22 (by simp)
      have hM23 := hM22.new u12
      have s023 := s022.trans u12
      generalize (upd (upd H22 q1 (HO.tup [])) q2 (HO.tup [.int 0, .ref q1])) = H23 at hd23 hM23 s023
      refine .inl ⟨d, hs, rfl, .of hd23, fun us2 p6 hperm2 hpw2 hp6 => ?_⟩
      have t24 := U.St.new (M := []) (o := HO.lst (us2.map V.int)) hp6
      refine ⟨p6, _, rfl, .of upd_same, fun p7 hp7 => ?_⟩
      have t25 := U.St.new (M := []) (o := HO.lst (us2.map V.int).reverse) hp7
      refine ⟨p7, _, rfl, .inl ⟨.of upd_same, fun t6 ht6 => ?_⟩⟩
      have t26 := U.St.new (M := []) (o := HO.tup (us2.map V.int).reverse) ht6
      have hul2 := hperm2.length_eq
      refine row_go (hs := us2.reverse) (cov := hs) (r0 := .mk 0 []) (by rw [List.map_reverse]; exact .of upd_same) (by simp; omega) (by simp; omega) (by omega) (fun x hx => hperm2.mem_iff.mp (List.mem_reverse.mp hx)) (fun b h1 h2 => ?_) fun v7 H27 hv7' s27 => ?_
      · rw [R_rev]
        exact asc_root hperm2 hpw2 (by omega) (List.mem_reverse.mp h1) fun k hk => h2 k (List.mem_reverse.mpr hk)
      have s2327 := t24.trans (t25.trans (t26.trans s27))
      have hM27 := hM23.new s2327
      have s027 := s023.trans s2327
      refine ⟨Nat.zero_le _, fun q3 hq3 => ⟨sz1 (by simp), fun q4 hq4 => ?_⟩⟩
      have u3 := U.St.new (M := []) (o := HO.tup []) hq3
      have u4 := U.St.new (M := []) (o := HO.tup [.int 0, .ref q3]) hq4
      have u34 := u3.trans u4
      have hl34 := leaf_dp (K := K) hq3 hq4
      refine ne_same (St.dpF u34 noT_nil _ _ (flat_enc _) hv7') hl34 (by simp [dep, deps]) ⟨false, rfl, iteF ?_⟩
      walk_at "wp"
      exact ⟨_, _, _, _, _, _, _, _, _, _, _, rfl, s027.trans u34, .inr ⟨m, c, rfl, hHm, (hM27.new u34).mono (by omega)⟩⟩
  · rintro σ H1 ⟨o1, o2, o3, o4, o5, o6, o7, o8, o9, o10, o11, rfl, s1, hz | ⟨m, c, rfl, hHm, hM1⟩⟩
    · exact absurd hz (by decide)
    walk_at "wp"
    refine ⟨m, c, 10, _, rfl, hM1, by omega, by decide, by decide, fun x H2 hx0 hx1 hM2 s2 => ?_⟩
    have s02 : U.St [] H H2 := forget (M := []) s1 s2 hHm
    walk_at "wp"
    by_cases e : x = 0
    · rw [decide_eq_true e]
      refine iteT ?_
      refine ⟨by decide, by decide, ?_⟩
      refine lcgo walk_range (fun d i H5 => ∃ hs : List Int, H5 d = some (.lst (hs.map V.int)) ∧ hs.length = i ∧ (∀ x ∈ hs, 0 ≤ x ∧ x ≤ 4) ∧ MAt H5 m c (100001 + i) ∧ U.St [m] H2 H5) (fun d hd => ⟨[], upd_same, rfl, by simp, (hM2.new (U.St.new hd)).mono (by omega), U.St.new hd⟩) (fun _ _ _ _ _ _ => trivial) ?_ ?_
      · rintro d j x H5 H6 hd hj ⟨hs, h5, hlen, hb, hM5, s5⟩ ⟨rfl, rfl⟩
        have hj : j < 500 := hj
        walk_at "wp"
        refine ⟨trivial, ?_⟩
        refine ⟨m, c, 5, _, rfl, hM5, by omega, by decide, by decide, fun y H6 hy0 hy1 hM6 s6 => ?_⟩
        have hdm := hM2.nm hd
        refine ⟨_, s6.at h5 (by simp [hdm.1]), Draw.sls (by rw [List.length_map]; omega), hs ++ [y], by rw [upd_same, List.map_append]; rfl, by rw [List.length_append, hlen]; rfl, fun z hz => ?_, ?_, (s5.trans s6).then_own hd⟩
        · rcases List.mem_append.mp hz with q | q
          · exact hb z q
          · rw [List.mem_singleton.mp q]; omega
        · refine (hM6.st (U.St.set (M := [d]) (by simp)) (by simp [Ne.symm hdm.1]) (by simp [Ne.symm hdm.2])).mono (by omega)
      · rintro d H5 hd ⟨hs, h5, hlen, hb, hM5, s5⟩
        have hlen : hs.length = 500 := hlen
        have hcov : ∀ x ∈ hs, x ∈ ([0, 1, 2, 3, 4] : List Int) := fun x hx => by
          have := hb x hx
          simp only [List.mem_cons, List.not_mem_nil, or_false]; omega
        refine ⟨d, _, rfl, .inl ⟨.of h5, fun t ht => ?_⟩⟩
        have t6 := U.St.new (M := []) (o := HO.tup (hs.map V.int)) ht
        have ht6 : (upd H5 t (HO.tup (hs.map V.int))) t = some (.tup (hs.map V.int)) := upd_same
        generalize (upd H5 t (HO.tup (hs.map V.int))) = H6 at t6 ht6
        walk_at "wp"
        obtain ⟨least, hl1, hl2⟩ : ∃ least, least ∈ hs ∧ ∀ k ∈ hs, least ≤ k := by
          have hne : hs.map (fun x => -x) ≠ [] := fun z => by simp at z; rw [z] at hlen; cases hlen
          have h1 := mx_mem hne
          obtain ⟨u, hu, e⟩ := List.mem_map.mp h1
          exact ⟨u, hu, fun k hk => by have := le_mx (List.mem_map.mpr ⟨k, hk, rfl⟩ : -k ∈ hs.map fun x => -x); omega⟩
        have hdep : dep (R least hs) ≤ 400 := by
          have := dep_R (least := least) _ hs [0, 1, 2, 3, 4] (Nat.le_refl _) (fun z => by rw [z] at hlen; cases hlen) hcov
          simp only [List.length_cons, List.length_nil] at this; omega
        refine row_go (hs := hs) (cov := [0, 1, 2, 3, 4]) (r0 := R least hs) (.of ht6) (by omega) (by omega) (by decide) hcov (fun b h1 h2 => by rw [min_one h1 h2 hl1 hl2]) fun v H7 hv s7 => ?_
        refine ⟨t, _, rfl, .inr (.of (s7.at ht6 (by simp))), fun p8 hp8 => ?_⟩
        have t8 := U.St.new (M := []) (o := HO.lst (hs.map V.int)) hp8
        refine ⟨p8, hs, [0, 1, 2, 3, 4], rfl, .of upd_same, by omega, by omega, by decide, by decide, hcov, fun v2 H8 least2 h1 h2 hv2 s8 => ?_⟩
        rw [min_one h1 h2 hl1 hl2] at hv2
        refine ne_same (St.dpF (t8.trans s8) noT_nil _ _ (flat_enc _) hv) hv2 hdep ⟨false, rfl, iteF ?_⟩
        walk_at "wp"
        refine ⟨sz1 (by simp), fun t1 ht1 => ?_⟩
        have w0 := U.St.new (M := []) (o := HO.tup [.int 0, .int 2, .int 0, .int 1, .int 0]) ht1
        refine row_go (hs := [0, 2, 0, 1, 0]) (cov := [0, 2, 0, 1, 0]) (r0 := .mk 2 [.mk 0 [], .mk 1 [.mk 0 [], .mk 0 []]]) (.of upd_same) (by decide) (by decide) (by decide) (fun x hx => hx) (fun b h1 h2 => ?_) fun v H9 hv s9 => ?_
        · have : b = 0 := min_one h1 h2 (by decide) (by decide)
          rw [this]; exact last_root
        refine ⟨Nat.zero_le _, fun a1 h1 => ⟨sz1 (by simp), fun a2 h2 => ⟨Nat.zero_le _, fun a3 h3 => ⟨sz1 (by simp), fun a4 h4 => ⟨Nat.zero_le _, fun a5 h5 => ⟨sz1 (by simp), fun a6 h6 => ⟨sz1 (by simp), fun a7 h7 => ⟨sz1 (by simp), fun a8 h8 => ⟨sz1 (by simp), fun a9 h9 => ⟨sz1 (by simp), fun a10 h10 => ?_⟩⟩⟩⟩⟩⟩⟩⟩⟩⟩
        have w1 := U.St.new (M := []) (o := HO.tup []) h1
        have w2 := U.St.new (M := []) (o := HO.tup [.int 0, .ref a1]) h2
        have w3 := U.St.new (M := []) (o := HO.tup []) h3
        have w4 := U.St.new (M := []) (o := HO.tup [.int 0, .ref a3]) h4
        have w5 := U.St.new (M := []) (o := HO.tup []) h5
        have w6 := U.St.new (M := []) (o := HO.tup [.int 0, .ref a5]) h6
        have w7 := U.St.new (M := []) (o := HO.tup [.ref a4, .ref a6]) h7
        have w8 := U.St.new (M := []) (o := HO.tup [.int 1, .ref a7]) h8
        have w9 := U.St.new (M := []) (o := HO.tup [.ref a2, .ref a8]) h9
        have w10 := U.St.new (M := []) (o := HO.tup [.int 2, .ref a9]) h10
        have l2 := leaf_dp (K := K) h1 h2
        have l4 := leaf_dp (K := K) h3 h4
        have l6 := leaf_dp (K := K) h5 h6
        have w310 := w3.trans (w4.trans (w5.trans (w6.trans (w7.trans (w8.trans (w9.trans w10))))))
        have w510 := w5.trans (w6.trans (w7.trans (w8.trans (w9.trans w10))))
        have w710 := w7.trans (w8.trans (w9.trans w10))
        refine eq_same (St.dpF (w1.trans (w2.trans w310)) noT_nil _ _ (flat_enc _) hv) ?_ (by simp [dep, deps]) (k _)
        have d2 := St.dpF w310 noT_nil _ _ (flat_enc _) l2
        have d4 := St.dpF w510 noT_nil _ _ (flat_enc _) l4
        have d6 := St.dpF w710 noT_nil _ _ (flat_enc _) l6
        rw [enc, encs, encs, encs]
        refine .tup (.of upd_same) (.cons (.int 2) (.cons (.tup (.of (w10.at upd_same (by simp))) (.cons d2 (.cons ?_ .nil))) .nil))
        rw [enc, encs, encs, encs]
        exact .tup (.of (w10.at (w9.at upd_same (by simp)) (by simp))) (.cons (.int 1) (.cons (.tup (.of (w10.at (w9.at (w8.at upd_same (by simp)) (by simp)) (by simp))) (.cons d4 (.cons d6 .nil))) .nil))
    · rw [decide_eq_false e]
      refine iteF ?_
      walk_at "wp"
      refine ⟨sz1 (by simp), fun t1 ht1 => ?_⟩
      have w0 := U.St.new (M := []) (o := HO.tup [.int 0, .int 2, .int 0, .int 1, .int 0]) ht1
      refine row_go (hs := [0, 2, 0, 1, 0]) (cov := [0, 2, 0, 1, 0]) (r0 := .mk 2 [.mk 0 [], .mk 1 [.mk 0 [], .mk 0 []]]) (.of upd_same) (by decide) (by decide) (by decide) (fun x hx => hx) (fun b h1 h2 => ?_) fun v H9 hv s9 => ?_
      · have : b = 0 := min_one h1 h2 (by decide) (by decide)
        rw [this]; exact last_root
      refine ⟨Nat.zero_le _, fun a1 h1 => ⟨sz1 (by simp), fun a2 h2 => ⟨Nat.zero_le _, fun a3 h3 => ⟨sz1 (by simp), fun a4 h4 => ⟨Nat.zero_le _, fun a5 h5 => ⟨sz1 (by simp), fun a6 h6 => ⟨sz1 (by simp), fun a7 h7 => ⟨sz1 (by simp), fun a8 h8 => ⟨sz1 (by simp), fun a9 h9 => ⟨sz1 (by simp), fun a10 h10 => ?_⟩⟩⟩⟩⟩⟩⟩⟩⟩⟩
      have w1 := U.St.new (M := []) (o := HO.tup []) h1
      have w2 := U.St.new (M := []) (o := HO.tup [.int 0, .ref a1]) h2
      have w3 := U.St.new (M := []) (o := HO.tup []) h3
      have w4 := U.St.new (M := []) (o := HO.tup [.int 0, .ref a3]) h4
      have w5 := U.St.new (M := []) (o := HO.tup []) h5
      have w6 := U.St.new (M := []) (o := HO.tup [.int 0, .ref a5]) h6
      have w7 := U.St.new (M := []) (o := HO.tup [.ref a4, .ref a6]) h7
      have w8 := U.St.new (M := []) (o := HO.tup [.int 1, .ref a7]) h8
      have w9 := U.St.new (M := []) (o := HO.tup [.ref a2, .ref a8]) h9
      have w10 := U.St.new (M := []) (o := HO.tup [.int 2, .ref a9]) h10
      have l2 := leaf_dp (K := K) h1 h2
      have l4 := leaf_dp (K := K) h3 h4
      have l6 := leaf_dp (K := K) h5 h6
      have w310 := w3.trans (w4.trans (w5.trans (w6.trans (w7.trans (w8.trans (w9.trans w10))))))
      have w510 := w5.trans (w6.trans (w7.trans (w8.trans (w9.trans w10))))
      have w710 := w7.trans (w8.trans (w9.trans w10))
      refine eq_same (St.dpF (w1.trans (w2.trans w310)) noT_nil _ _ (flat_enc _) hv) ?_ (by simp [dep, deps]) (k _)
      have d2 := St.dpF w310 noT_nil _ _ (flat_enc _) l2
      have d4 := St.dpF w510 noT_nil _ _ (flat_enc _) l4
      have d6 := St.dpF w710 noT_nil _ _ (flat_enc _) l6
      rw [enc, encs, encs, encs]
      refine .tup (.of upd_same) (.cons (.int 2) (.cons (.tup (.of (w10.at upd_same (by simp))) (.cons d2 (.cons ?_ .nil))) .nil))
      rw [enc, encs, encs, encs]
      exact .tup (.of (w10.at (w9.at upd_same (by simp)) (by simp))) (.cons (.int 1) (.cons (.tup (.of (w10.at (w9.at (w8.at upd_same (by simp)) (by simp)) (by simp))) (.cons d4 (.cons d6 .nil))) .nil))
end K59
set_option Elab.async false
set_option maxRecDepth 1000000
set_option maxHeartbeats 16000000
set_option linter.all false
/-! K59X: all defs together. -/
namespace K59
open PySem PySem.Spec PyProof.Rows L2 U RT Row RootsTr PySem.W K59P RunRoot RunRow K63 Draw
theorem fn_no {P : Program} {w : World} {K : PySem.W.Frag} {mg : Str → Option Value} {base : Heap} {k : Nat} {f : Addr} {fd : FuncData} {ps : List Str} {sp : Sp} (h : ∀ vs H Q E, ¬ sp vs H Q E) : FnOk P w K mg base CX0 k f fd ps sp :=
  ⟨fun vs H Q E z => absurd z (h vs H Q E), fun A outer s H args us vs Q E _ _ _ _ z => absurd z (h vs H Q E)⟩
section
variable {P : Program} {w : World} {K : PySem.W.Frag} {mg : Str → Option Value} {fa : Addr}
theorem ok_all (T : Blt mg) (A_leader : Fn K mg "leader" (topS 1) ["leaders", "one"]) (A_join : Fn K mg "join" (topS 2) ["leaders", "roots", "one", "other"]) (A_settle : Fn K mg "settle" (topS 3) ["leaders", "roots", "fresh", "height"])
    (A_root_of_row : Fn K mg "root_of_row" (topS 4) ["heights"]) (A__law_begun : Fn K mg "_law_begun" (topS 6) ["script", "k"]) (A__law_draw : Fn K mg "_law_draw" (topS 7) ["m", "bound"]) (A__law_of : Fn K mg "_law_of" (topS 8) ["m", "some"])
    (A__law_runs : Fn K mg "_law_runs" (topS 9) ["spots"]) (A__law_run_root : Fn K mg "_law_run_root" (topS 10) ["heights", "spots", "least"]) (A__law_row_root : Fn K mg "_law_row_root" (topS 11) ["heights"]) (a : Addr) (ns : List Int) (hlen : ns.length ≤ 63) :
    UG.Body P w K mg nm_law st_law 92 fa a ns := by
  have G_leader : ∀ base : Heap, FnOk P w K mg base CX0 61 A_leader.f A_leader.fd ["leaders", "one"] spLeader := fun base => A_leader.F.ok sc_leader (fun vs H Q E h => by obtain ⟨_, _, _, _, _, _, rfl, _⟩ := h; rfl) fun cdv A outer s H vs Q E hr h => ⟨_, bd_leader T (Nat.le_refl 60) hr, rd_leader (w := w) h⟩
  have G_join : ∀ base : Heap, FnOk P w K mg base CX0 62 A_join.f A_join.fd ["leaders", "roots", "one", "other"] (spJoin K) := fun base => A_join.F.ok sc_join (fun vs H Q E h => by obtain ⟨_, _, _, _, _, _, _, _, _, _, rfl, _⟩ := h; rfl) fun cdv A outer s H vs Q E hr h => ⟨_, bd_join T (by decide) A_leader (G_leader base) (Nat.le_refl 61) hr, rd_join (w := w) h⟩
  have G_settle : ∀ base : Heap, FnOk P w K mg base CX0 62 A_settle.f A_settle.fd ["leaders", "roots", "fresh", "height"] (spSettle K) := fun base => A_settle.F.ok sc_settle (fun vs H Q E h => by obtain ⟨_, _, _, _, _, _, _, _, _, _, _, _, rfl, _⟩ := h; rfl) fun cdv A outer s H vs Q E hr h => ⟨_, bd_settle T (by decide) A_leader (G_leader base) (Nat.le_refl 61) hr, rd_settle (w := w) h⟩
  have G_root_of_row : ∀ base : Heap, FnOk P w K mg base CX0 63 A_root_of_row.f A_root_of_row.fd ["heights"] (spRow K) := fun base => A_root_of_row.F.ok sc_root_of_row (fun vs H Q E h => by obtain ⟨_, _, rfl, _⟩ := h; rfl) fun cdv A outer s H vs Q E hr h => ⟨_, bd_root_of_row T (by decide) A_join (G_join base) (by decide) A_leader (G_leader base) (by decide) A_settle (G_settle base) (by decide) hr, rd_root_of_row (w := w) h⟩
  have G__law_begun : ∀ base : Heap, FnOk P w K mg base CX0 61 A__law_begun.f A__law_begun.fd ["script", "k"] (spBegun K) := fun base => A__law_begun.F.ok sc__law_begun (fun vs H Q E h => by obtain ⟨_, _, _, rfl, _⟩ := h; rfl) fun cdv A outer s H vs Q E hr h => ⟨_, bd__law_begun T (Nat.le_refl 60) hr, rd_begun (w := w) h⟩
  have G__law_draw : ∀ base : Heap, FnOk P w K mg base CX0 61 A__law_draw.f A__law_draw.fd ["m", "bound"] Draw.spDraw := fun base => A__law_draw.F.ok sc__law_draw (fun vs H Q E h => by obtain ⟨_, _, _, _, rfl, _⟩ := h; rfl) fun cdv A outer s H vs Q E hr h => ⟨_, bd__law_draw T (Nat.le_refl 60) hr, rd_draw (w := w) h⟩
  have G__law_of : ∀ base : Heap, FnOk P w K mg base CX0 62 A__law_of.f A__law_of.fd ["m", "some"] (spOf K) := fun base => A__law_of.F.ok sc__law_of (fun vs H Q E h => by obtain ⟨_, _, _, _, _, rfl, _⟩ := h; rfl) fun cdv A outer s H vs Q E hr h => ⟨_, bd__law_of T (by decide) A__law_draw (G__law_draw base) (by decide) hr, rd_of (w := w) h⟩
  have G__law_runs : ∀ base : Heap, FnOk P w K mg base CX0 61 A__law_runs.f A__law_runs.fd ["spots"] (spRuns K) := fun base => A__law_runs.F.ok sc__law_runs (fun vs H Q E h => by obtain ⟨_, _, rfl, _⟩ := h; rfl) fun cdv A outer s H vs Q E hr h => ⟨_, bd__law_runs T (Nat.le_refl 60) hr, rd_runs (w := w) h⟩
  have G__law_run_root : ∀ (base : Heap) (n : Nat), FnOk P w K mg base CX0 (61 + n) A__law_run_root.f A__law_run_root.fd ["heights", "spots", "least"] (spRun K n) := by
    intro base n
    induction n with
    | zero =>
      refine fn_no fun vs H Q E h => ?_
      obtain ⟨ha, sa, hs, a, m, least, cov, _, _, _, hm, _, _, _, hc, _, hcov, _⟩ := h
      have hx := hcov _ (List.mem_map.mpr ⟨a, mem_ivl.mpr (by omega), rfl⟩)
      have := List.length_pos_of_mem hx
      omega
    | succ n ih => exact A__law_run_root.F.ok (k := 61 + n) sc__law_run_root (fun vs H Q E h => by obtain ⟨_, _, _, _, _, _, _, rfl, _⟩ := h; rfl) fun cdv A outer s H vs Q E hr h => ⟨_, bd__law_run_root T (by omega) A__law_run_root ih (Nat.le_refl _) A__law_runs (G__law_runs base) (by omega) hr, rd_run (w := w) h⟩
  have G__law_row_root : ∀ base : Heap, FnOk P w K mg base CX0 92 A__law_row_root.f A__law_row_root.fd ["heights"] (spRowRoot K 30) := fun base => A__law_row_root.F.ok (k := 91) sc__law_row_root (fun vs H Q E h => by obtain ⟨_, _, _, rfl, _⟩ := h; rfl) fun cdv A outer s H vs Q E hr h => ⟨_, bd__law_row_root T (by decide) A__law_run_root (G__law_run_root base 30) (Nat.le_refl 91) hr, rd_row_root (w := w) h⟩
  intro base hin hns s H cdv hS hr
  exact ⟨_, bd_law T (by decide) rfl A__law_begun (G__law_begun base) (by decide) A__law_draw (G__law_draw base) (by decide) A__law_of (G__law_of base) (by decide) A__law_row_root (G__law_row_root base) (Nat.le_refl 92) A_root_of_row (G_root_of_row base) (by decide) hr, rd_law (w := w) (Q := fun v _ => v = .bl true) (E := E0) ⟨a, ns, rfl, hS, hlen, fun _ => rfl⟩⟩
end
end K59
set_option Elab.async false
set_option maxRecDepth 1000000
set_option maxHeartbeats 16000000
set_option linter.all false
/-! K59End: the head. -/
namespace K59
open PySem PySem.Spec PyProof.Rows L2 U PySem.W
theorem all_mk {l : PySem.W.OpenLaw} {w : World} {K : PySem.W.Frag} {h : Heap} {mg : Str → Option Value} {fa f1 f2 f3 f4 f6 f7 f8 f9 f10 f11 f12 : Addr} (X : K.In h) (G : h.Ns mainGlobals mg) (hfa : mg "law" = some (.ref fa))
    {od1 an1 od2 an2 od3 an3 od4 an4 od6 an6 od7 an7 od8 an8 od9 an9 od10 an10 od11 an11 od12 an12 : Option Addr} {sl1 sl2 sl3 sl4 sl6 sl7 sl8 sl9 sl10 sl11 sl12 : Array (Option Value)} {oc1 kV1 dc1 pm1 cd1 ct1 oc2 kV2 dc2 pm2 cd2 ct2 oc3 kV3 dc3 pm3 cd3 ct3 oc4 kV4 dc4 pm4 cd4 ct4 oc6 kV6 dc6 pm6 cd6 ct6 oc7 kV7 dc7 pm7 cd7 ct7 oc8 kV8 dc8 pm8 cd8 ct8 oc9 kV9 dc9 pm9 cd9 ct9 oc10 kV10 dc10 pm10 cd10 ct10 oc11 kV11 dc11 pm11 cd11 ct11 oc12 kV12 dc12 pm12 cd12 ct12 : Value}
    (a1 : PySem.W.nsIn K mainGlobals "leader" = some (some (.ref f1))) (l1 : K.lookup f1 = some ⟨oc1, od1, .func (PySem.W.fnOf "leader" "leader" (defArgs (topS 1)) (defBody (topS 1)) (defScope (topS 1)) .none kV1 dc1 pm1 an1 cd1 ct1), sl1⟩) (c1 : PySem.W.codeIn K cd1 "leader" = true) (k1 : PySem.W.keepIn K (.ref f1) = true)
    (a2 : PySem.W.nsIn K mainGlobals "join" = some (some (.ref f2))) (l2 : K.lookup f2 = some ⟨oc2, od2, .func (PySem.W.fnOf "join" "join" (defArgs (topS 2)) (defBody (topS 2)) (defScope (topS 2)) .none kV2 dc2 pm2 an2 cd2 ct2), sl2⟩) (c2 : PySem.W.codeIn K cd2 "join" = true) (k2 : PySem.W.keepIn K (.ref f2) = true)
    (a3 : PySem.W.nsIn K mainGlobals "settle" = some (some (.ref f3))) (l3 : K.lookup f3 = some ⟨oc3, od3, .func (PySem.W.fnOf "settle" "settle" (defArgs (topS 3)) (defBody (topS 3)) (defScope (topS 3)) .none kV3 dc3 pm3 an3 cd3 ct3), sl3⟩) (c3 : PySem.W.codeIn K cd3 "settle" = true) (k3 : PySem.W.keepIn K (.ref f3) = true)
    (a4 : PySem.W.nsIn K mainGlobals "root_of_row" = some (some (.ref f4))) (l4 : K.lookup f4 = some ⟨oc4, od4, .func (PySem.W.fnOf "root_of_row" "root_of_row" (defArgs (topS 4)) (defBody (topS 4)) (defScope (topS 4)) .none kV4 dc4 pm4 an4 cd4 ct4), sl4⟩) (c4 : PySem.W.codeIn K cd4 "root_of_row" = true) (k4 : PySem.W.keepIn K (.ref f4) = true)
    (a6 : PySem.W.nsIn K mainGlobals "_law_begun" = some (some (.ref f6))) (l6 : K.lookup f6 = some ⟨oc6, od6, .func (PySem.W.fnOf "_law_begun" "_law_begun" (defArgs (topS 6)) (defBody (topS 6)) (defScope (topS 6)) .none kV6 dc6 pm6 an6 cd6 ct6), sl6⟩) (c6 : PySem.W.codeIn K cd6 "_law_begun" = true) (k6 : PySem.W.keepIn K (.ref f6) = true)
    (a7 : PySem.W.nsIn K mainGlobals "_law_draw" = some (some (.ref f7))) (l7 : K.lookup f7 = some ⟨oc7, od7, .func (PySem.W.fnOf "_law_draw" "_law_draw" (defArgs (topS 7)) (defBody (topS 7)) (defScope (topS 7)) .none kV7 dc7 pm7 an7 cd7 ct7), sl7⟩) (c7 : PySem.W.codeIn K cd7 "_law_draw" = true) (k7 : PySem.W.keepIn K (.ref f7) = true)
    (a8 : PySem.W.nsIn K mainGlobals "_law_of" = some (some (.ref f8))) (l8 : K.lookup f8 = some ⟨oc8, od8, .func (PySem.W.fnOf "_law_of" "_law_of" (defArgs (topS 8)) (defBody (topS 8)) (defScope (topS 8)) .none kV8 dc8 pm8 an8 cd8 ct8), sl8⟩) (c8 : PySem.W.codeIn K cd8 "_law_of" = true) (k8 : PySem.W.keepIn K (.ref f8) = true)
    (a9 : PySem.W.nsIn K mainGlobals "_law_runs" = some (some (.ref f9))) (l9 : K.lookup f9 = some ⟨oc9, od9, .func (PySem.W.fnOf "_law_runs" "_law_runs" (defArgs (topS 9)) (defBody (topS 9)) (defScope (topS 9)) .none kV9 dc9 pm9 an9 cd9 ct9), sl9⟩) (c9 : PySem.W.codeIn K cd9 "_law_runs" = true) (k9 : PySem.W.keepIn K (.ref f9) = true)
    (a10 : PySem.W.nsIn K mainGlobals "_law_run_root" = some (some (.ref f10))) (l10 : K.lookup f10 = some ⟨oc10, od10, .func (PySem.W.fnOf "_law_run_root" "_law_run_root" (defArgs (topS 10)) (defBody (topS 10)) (defScope (topS 10)) .none kV10 dc10 pm10 an10 cd10 ct10), sl10⟩) (c10 : PySem.W.codeIn K cd10 "_law_run_root" = true) (k10 : PySem.W.keepIn K (.ref f10) = true)
    (a11 : PySem.W.nsIn K mainGlobals "_law_row_root" = some (some (.ref f11))) (l11 : K.lookup f11 = some ⟨oc11, od11, .func (PySem.W.fnOf "_law_row_root" "_law_row_root" (defArgs (topS 11)) (defBody (topS 11)) (defScope (topS 11)) .none kV11 dc11 pm11 an11 cd11 ct11), sl11⟩) (c11 : PySem.W.codeIn K cd11 "_law_row_root" = true) (k11 : PySem.W.keepIn K (.ref f11) = true)
    (a12 : PySem.W.nsIn K mainGlobals "law" = some (some (.ref f12))) (l12 : K.lookup f12 = some ⟨oc12, od12, .func (PySem.W.fnOf "law" "law" (defArgs (topS 12)) (defBody (topS 12)) (defScope (topS 12)) .none kV12 dc12 pm12 an12 cd12 ct12), sl12⟩) (c12 : PySem.W.codeIn K cd12 "law" = true) (k12 : PySem.W.keepIn K (.ref f12) = true)
    (z0 : PySem.W.nsIn K mainGlobals "enumerate" = some none) (z1 : PySem.W.nsIn K mainGlobals "int" = some none) (z2 : PySem.W.nsIn K mainGlobals "len" = some none) (z3 : PySem.W.nsIn K mainGlobals "list" = some none) (z4 : PySem.W.nsIn K mainGlobals "min" = some none) (z5 : PySem.W.nsIn K mainGlobals "range" = some none) (z6 : PySem.W.nsIn K mainGlobals "repr" = some none) (z7 : PySem.W.nsIn K mainGlobals "set" = some none) (z8 : PySem.W.nsIn K mainGlobals "sorted" = some none) (z9 : PySem.W.nsIn K mainGlobals "tuple" = some none) :
    ∃ fd : FuncData, Fun K "law" "law" (topS 12) fa fd ∧ (∀ (s : Shared) (v : Value), BindsTo s fd ⟨[v], []⟩ [("script", v)]) ∧ ∀ (a : Addr) (ns : List Int), ns.length ≤ 63 → UG.Body l.prog w K mg nm_law (topS 12) 92 fa a ns := by
  have e := hfa.symm.trans (PySem.W.mg_of X G a12)
  cases e
  have T : Blt mg := ⟨PySem.W.mg_none_of X G z0, PySem.W.mg_none_of X G z1, PySem.W.mg_none_of X G z2, PySem.W.mg_none_of X G z3, PySem.W.mg_none_of X G z4, PySem.W.mg_none_of X G z5, PySem.W.mg_none_of X G z6, PySem.W.mg_none_of X G z7, PySem.W.mg_none_of X G z8, PySem.W.mg_none_of X G z9⟩
  have F1 := fun_mk (st := topS 1) l1 c1 k1
  have b1 := F1.binds (ps := ["leaders", "one"]) fun _ _ _ _ _ _ us hl => match us, hl with | [_, _], _ => rfl
  have F2 := fun_mk (st := topS 2) l2 c2 k2
  have b2 := F2.binds (ps := ["leaders", "roots", "one", "other"]) fun _ _ _ _ _ _ us hl => match us, hl with | [_, _, _, _], _ => rfl
  have F3 := fun_mk (st := topS 3) l3 c3 k3
  have b3 := F3.binds (ps := ["leaders", "roots", "fresh", "height"]) fun _ _ _ _ _ _ us hl => match us, hl with | [_, _, _, _], _ => rfl
  have F4 := fun_mk (st := topS 4) l4 c4 k4
  have b4 := F4.binds (ps := ["heights"]) fun _ _ _ _ _ _ us hl => match us, hl with | [_], _ => rfl
  have F6 := fun_mk (st := topS 6) l6 c6 k6
  have b6 := F6.binds (ps := ["script", "k"]) fun _ _ _ _ _ _ us hl => match us, hl with | [_, _], _ => rfl
  have F7 := fun_mk (st := topS 7) l7 c7 k7
  have b7 := F7.binds (ps := ["m", "bound"]) fun _ _ _ _ _ _ us hl => match us, hl with | [_, _], _ => rfl
  have F8 := fun_mk (st := topS 8) l8 c8 k8
  have b8 := F8.binds (ps := ["m", "some"]) fun _ _ _ _ _ _ us hl => match us, hl with | [_, _], _ => rfl
  have F9 := fun_mk (st := topS 9) l9 c9 k9
  have b9 := F9.binds (ps := ["spots"]) fun _ _ _ _ _ _ us hl => match us, hl with | [_], _ => rfl
  have F10 := fun_mk (st := topS 10) l10 c10 k10
  have b10 := F10.binds (ps := ["heights", "spots", "least"]) fun _ _ _ _ _ _ us hl => match us, hl with | [_, _, _], _ => rfl
  have F11 := fun_mk (st := topS 11) l11 c11 k11
  have b11 := F11.binds (ps := ["heights"]) fun _ _ _ _ _ _ us hl => match us, hl with | [_], _ => rfl
  have F12 := fun_mk (st := topS 12) l12 c12 k12
  have b12 := F12.binds (ps := ["script"]) fun _ _ _ _ _ _ us hl => match us, hl with | [_], _ => rfl
  exact ⟨PySem.W.fnOf "law" "law" (defArgs (topS 12)) (defBody (topS 12)) (defScope (topS 12)) .none kV12 dc12 pm12 an12 cd12 ct12, F12, fun s v => .of_eq rfl, fun a ns hns => ok_all T ⟨_, _, F1, b1, PySem.W.mg_of X G a1⟩ ⟨_, _, F2, b2, PySem.W.mg_of X G a2⟩ ⟨_, _, F3, b3, PySem.W.mg_of X G a3⟩ ⟨_, _, F4, b4, PySem.W.mg_of X G a4⟩ ⟨_, _, F6, b6, PySem.W.mg_of X G a6⟩ ⟨_, _, F7, b7, PySem.W.mg_of X G a7⟩ ⟨_, _, F8, b8, PySem.W.mg_of X G a8⟩ ⟨_, _, F9, b9, PySem.W.mg_of X G a9⟩ ⟨_, _, F10, b10, PySem.W.mg_of X G a10⟩ ⟨_, _, F11, b11, PySem.W.mg_of X G a11⟩ a ns hns⟩
theorem walk {l : PySem.W.OpenLaw} {q : Program} {loose : List Str} {XP : (Str → Option Value) → Heap → Prop} {YP : World → Heap → Prop} {d : DefRec} {K : Params → PySem.W.Frag} (hn : l.most = some 63) (hdf : d.params.defaults = [])
    (hY : ∀ (w : World) (h : Heap), YP w h → (K w.params).In h)
    (F : ∀ (w : World) (mg : Str → Option Value) (fa : Addr) (h : Heap), (K w.params).In h → h.Ns mainGlobals mg → mg d.name = some (.ref fa) →
      ∃ fd : FuncData, Fun (K w.params) "law" "law" (topS 12) fa fd ∧ (∀ (s : Shared) (u : Value), BindsTo s fd ⟨[u], []⟩ [("script", u)]) ∧ ∀ (a : Addr) (ns : List Int), ns.length ≤ 63 → UG.Body l.prog w (K w.params) mg nm_law (topS 12) 92 fa a ns) :
    PySem.W.WalkO q loose XP YP l.row.toRowW d [] (fun f vs => PySem.call f vs) :=
  UG.walk_at_law (n := 63) (k := 92) hn (by decide) hdf ⟨rfl, by decide, by decide⟩ hY sc_law F
end K59
open PySem PySem.W PyProof.Rows
set_option maxRecDepth 100000 in
set_option maxHeartbeats 0 in
theorem PySem.Challenge.cw_blowntrees_k59_roots_of_rows_holds : PySem.Challenge.rw_blowntrees_k59_roots_of_rows.Holds := by
  w_on; o_law; k_head; (case hw => w_witness2)
  k_fill
  refine K59.walk (l := PySem.Challenge.rw_blowntrees_k59_roots_of_rows) rfl rfl (fun w h Y => PySem.W.kIn_of Y) ?F
  case F =>
    intro w mg fa h KX G hmg
    refine' K59.all_mk KX G hmg ?a1 ?l1 ?c1 ?k1 ?a2 ?l2 ?c2 ?k2 ?a3 ?l3 ?c3 ?k3 ?a4 ?l4 ?c4 ?k4 ?a6 ?l6 ?c6 ?k6 ?a7 ?l7 ?c7 ?k7 ?a8 ?l8 ?c8 ?k8 ?a9 ?l9 ?c9 ?k9 ?a10 ?l10 ?c10 ?k10 ?a11 ?l11 ?c11 ?k11 ?a12 ?l12 ?c12 ?k12 ?z0 ?z1 ?z2 ?z3 ?z4 ?z5 ?z6 ?z7 ?z8 ?z9
    (case a1 => k_is); (case l1 => k_is); (case c1 => k_is); (case k1 => k_is)
    (case a2 => k_is); (case l2 => k_is); (case c2 => k_is); (case k2 => k_is)
    (case a3 => k_is); (case l3 => k_is); (case c3 => k_is); (case k3 => k_is)
    (case a4 => k_is); (case l4 => k_is); (case c4 => k_is); (case k4 => k_is)
    (case a6 => k_is); (case l6 => k_is); (case c6 => k_is); (case k6 => k_is)
    (case a7 => k_is); (case l7 => k_is); (case c7 => k_is); (case k7 => k_is)
    (case a8 => k_is); (case l8 => k_is); (case c8 => k_is); (case k8 => k_is)
    (case a9 => k_is); (case l9 => k_is); (case c9 => k_is); (case k9 => k_is)
    (case a10 => k_is); (case l10 => k_is); (case c10 => k_is); (case k10 => k_is)
    (case a11 => k_is); (case l11 => k_is); (case c11 => k_is); (case k11 => k_is)
    (case a12 => k_is); (case l12 => k_is); (case c12 => k_is); (case k12 => k_is)
    (case z0 => k_is); (case z1 => k_is); (case z2 => k_is); (case z3 => k_is); (case z4 => k_is); (case z5 => k_is); (case z6 => k_is); (case z7 => k_is); (case z8 => k_is); (case z9 => k_is)
