import PyProof.Rows.All
import Wide.All
import OpenK.AllK
import Wide.FinOn
import KE.GoesMore
import HandS.ForMost
import HandS.Evl
import HandS.Style
import HandS.DictComp
import HandS.TupAny
import HandS.Conv
import HandS.IsInst
import HandS.SetFor
import HandS.SortInts
import HandS.SortRule
import HandS.Walk
import PySem.Challenge.RW_laytogether_k38_whole_numbers_of_orders
set_option Elab.async false
set_option linter.all false
set_option maxRecDepth 100000
set_option maxHeartbeats 4100000
/-! K38R: rules of my own: sorted of a tuple, enumerate of a tuple, xs[i] += e. -/
namespace K38
open PySem PySem.Spec PyProof.Rows L2 SrtO
section
variable {prog : Program} {w : World} {A : Around} {E : Value → Shared → Prop} {s : Shared}
/-- sorted(t) of a tuple: first its items are gathered (heap h1), then a list at d is sorted -/
theorem tup_sorted {l : Addr} {vs : List Value} {ltv : Value → Value → Bool} {Q : Value → Shared → Prop} (O : Swo ltv) (hl : IsTup s.heap l vs.toArray) (hz : vs.length ≤ sizeLine)
    (hS : 2 ≤ vs.length → ∀ (h2 : Heap) (a : Addr), h2.get? a = some (seqObj "list" vs.toArray 0) → (∀ b o, s.heap.get? b = some o → b ≠ a ∧ h2.get? b = some o) → SortableO prog w A.in1.in1 { s with heap := h2 } a vs ltv)
    (h : ∀ (h1 h2 : Heap) (d : Addr) (out : List Value), Srtd ltv out → Stb ltv out vs → (∀ b o, s.heap.get? b = some o → h1.get? b = some o) → (∀ b o, h1.get? b = some o → h2.get? b = some o) → h1.objs.size ≤ d →
      (∃ n, h2.get? d = some (seqObj "list" out.toArray n)) → Q (.ref d) { s with heap := h2 }) :
    wpAny (model prog w) A (call (.builtin "sorted") [Value.ref l]) Q E s := by
  obtain ⟨ob, ho, hc, cnt, hd⟩ := id hl
  have hz2 : vs.toArray.size ≤ sizeLine := by rw [List.size_toArray]; exact hz
  refine Calls.call_function_entry kind_sorted plain_sorted entry_sorted (args_sorted1 (.ref l)) (?_ : wpAny _ _ (Builtin.«sorted» _) _ _ _)
  unfold Builtin.«sorted»
  refine wpAny_bind (m := checkCount "sorted" 1 1 _) (wpAny_pure (wpAny_bind (wpAny_collect_seq l (.inr rfl) ho hc hd (fun h1 k1 => wpAny_bind (wpAny_newList ?_ hz)) hz2)))
  have hnew : (h1.push (seqObj "list" vs.toArray 0)).get? h1.objs.size = some (seqObj "list" vs.toArray 0) := Heap.get?_push_size _ rfl
  have k2 : ∀ b o, h1.get? b = some o → b ≠ h1.objs.size ∧ (h1.push (seqObj "list" vs.toArray 0)).get? b = some o := fun b o q =>
    ⟨Nat.ne_of_lt (Heap.lt_size q), Heap.get?_push_of_some _ q⟩
  show wpAny _ _ _ _ _ { s with heap := h1.push (seqObj "list" vs.toArray 0) }
  refine wpAny_bind (wpAny_holding (wpAny_call_entry slot_list_sort ⟨_, hnew, rfl⟩ entry_list_sort
    (list_sort_ord O hnew hz (fun q => hS q _ _ hnew fun b o e => k2 b o (k1 b o e)) fun out hs hb => ⟨_, rfl, ?_⟩) (args_list_sort _)))
  refine wpAny_pure ⟨.ref _, rfl, ?_⟩
  obtain ⟨ep, he'⟩ := sortedHeap_at (vs := vs) (out := out.toArray) hnew
  refine h h1 _ _ out hs hb k1 (fun b o q => ?_) (Nat.le_refl _) ⟨ep, he'⟩
  rw [sortedHeap_old (k2 b o q).1 (Heap.lt_size (k2 b o q).2)]
  exact (k2 b o q).2
end

/-! ### sorted of a tuple of ints, of a tuple of pairs -/
def rSoTI (K : PySem.W.Frag) : List V → Hp → VK → Prop := fun vs H Q => ∃ (a : Addr) (ns : List Int), vs = [V.ref a] ∧ SqT K H a (ns.map V.int) ∧
  ∀ (ms : List Int) (p : Addr), ms.Perm ns → ms.Pairwise (· ≤ ·) → H p = none → Q (.ref p) (upd H p (.lst (ms.map V.int)))
def rSoTP (K : PySem.W.Frag) : List V → Hp → VK → Prop := fun vs H Q => ∃ (a : Addr) (xs : List V) (k : V → Int × Int), vs = [V.ref a] ∧ SqT K H a xs ∧
  (∀ x ∈ xs, ∃ t, x = V.ref t ∧ H t = some (.tup [.int (k x).1, .int (k x).2])) ∧
  ∀ ys p, Srtd (ltP k) ys → ys.Perm xs → H p = none → Q (.ref p) (upd H p (.lst ys))
section
variable {X : Cx}
theorem cr_soTI : CallR X (.builtin "sorted") (rSoTI X.K) := by
  intro pins s σ H vs us Q I rel hw
  obtain ⟨a, ns, rfl, hs, q⟩ := hw
  obtain ⟨its, rv, ht, hz⟩ := I.tuple hs
  rw [Vals.ref1 rel]
  have hi := rv.ints
  refine tup_sorted swo_int ht (by rw [← rv.length]; exact hz) (fun h2 h₁ a' _ _ => ints_sortable hi h2) fun h1 h2 d out hso hsb k1 k2 hd hn => ?_
  obtain ⟨i1, i2, i3⟩ := ints_out hi hso hsb
  obtain ⟨ep, he⟩ := hn
  have I1 : Inv X pins σ H { s with heap := h1 } := I.kept (t' := s.toks) k1
  have hlen : ((out.map iv).map V.int).length ≤ sizeLine := by
    rw [List.length_map, i2.length_eq]
    rwa [List.length_map] at hz
  exact ⟨.ref d, upd H d (.lst ((out.map iv).map V.int)), I1.laid (t' := s.toks) k2 hd ⟨hlen, out, ep, vals_of_ints i1, he⟩, rfl, q _ _ i2 i3 (I1.hok.fresh hd)⟩
theorem cr_soTP : CallR X (.builtin "sorted") (rSoTP X.K) := by
  intro pins s σ H vs us Q I rel hw
  obtain ⟨a, xs, k, rfl, hs, hx, q⟩ := hw
  obtain ⟨its, rv, ht, hz⟩ := I.tuple hs
  rw [Vals.ref1 rel]
  obtain ⟨e1, e2⟩ := refs_back rv fun x m => (hx x m).imp fun t e => e.1
  have pairs : ∀ v ∈ its, Srt.IsPair s.heap v (k (backV v)).1 (k (backV v)).2 := fun v hv => by
    obtain ⟨t, rfl⟩ := e2 v hv
    obtain ⟨t', e, hT⟩ := hx (V.ref t) (by rw [e1]; exact List.mem_map.mpr ⟨_, hv, rfl⟩)
    cases e
    obtain ⟨_, its2, r2, o, ho, hc, n, hdt⟩ := I.hok _ _ hT
    obtain ⟨u1, u2, rfl, ⟨t1, rfl⟩, ⟨t2, rfl⟩⟩ := vals2 r2
    exact ⟨t, o, t1, t2, n, rfl, ho, hc, hdt⟩
  refine tup_sorted (swo_lex fun u => k (backV u)) ht (by rw [← rv.length]; exact hz) (fun z h2 a' ha' kk => ?_) fun h1 h2 d out hso hsb k1 k2 hd hn => ?_
  · refine pairs_sortableO (s := { s with heap := h2 }) (by omega) (fun v hv => (pairs v hv).keeps fun b o e _ => (kk b o e).2) fun o e => ?_
    have e' := e.symm.trans ha'
    cases e'
    exact fun c => absurd (Value.type.inj c) (by decide)
  · obtain ⟨ep, he⟩ := hn
    have I1 : Inv X pins σ H { s with heap := h1 } := I.kept (t' := s.toks) k1
    have hr : ∀ u ∈ out, ∃ a, u = Value.ref a := fun u hu => e2 u (hsb.perm.mem_iff.mp hu)
    have hb : (out.map backV).Perm xs := by
      rw [e1]
      exact hsb.perm.map backV
    refine ⟨.ref d, upd H d (.lst (out.map backV)), I1.laid (t' := s.toks) k2 hd ⟨?_, out, ep, vals_back hr, he⟩, rfl, q _ d (srtd_map hso) hb (I1.hok.fresh hd)⟩
    rw [hb.length_eq]
    exact hz

/-! ### xs[i] as the first half of xs[i] op= e -/
theorem gt_list : PGet X (rIxL X.K) := by
  intro pins s σ H o i ov iv Q I ro ri h
  obtain ⟨p, xs, j, v, rfl, rfl, hq, he, q⟩ := h
  cases ro
  obtain ⟨t, rfl⟩ := ri
  obtain ⟨its, rel, pl, hz⟩ := I.list hq
  obtain ⟨m, h1, h2, h3, h4, h5⟩ := atI_get he
  obtain ⟨w, ew, rw'⟩ := rel.get h2
  have hl := rel.length
  have hn := line63
  have fin : EP X pins σ Q w s := ⟨v, H, I, rw', q⟩
  by_cases h0 : 0 ≤ j
  · have hj : j.toNat = m := by
      rw [seqIndex_of h0 h5] at h1
      exact Option.some.inj h1
    exact wpAny_getItem_list pl.isList h0 (by omega) (by rw [hj]; simpa using ew) fin
  · have hj : (j + (its.toArray.size : Int)).toNat = m := by
      rw [seqIndex_neg (show j < 0 by omega) h4] at h1
      rw [List.size_toArray, ← hl]
      exact Option.some.inj h1
    exact wpAny_getItem_list_neg pl.isList (by omega) (by rw [List.size_toArray] <;> omega) (by omega) (by rw [hj]; simpa using ew) fin
end
end K38
set_option Elab.async false
set_option linter.all false
set_option maxRecDepth 100000
set_option maxHeartbeats 4100000
/-! K38T: enumerate over a tuple, as a walked thing of the layer. -/
namespace K38
open PySem PySem.Spec PyProof.Rows L2
section
/-- the two records that enumerate(t) makes -/
def tupIt (t : Addr) : Obj := { cls := .type "tuple_iterator", data := .fields #[.ref t, .int 0 0] }
def enumOf (it : Addr) : Obj := { cls := .type "enumerate", data := .fields #[.none, .bool false, .ref it, rawInt 0, .none, .none] }
theorem enumT_new (t : Addr) (xs : Array Value) (c : Nat) (dd : Option Addr) (sl : Array (Option Value)) :
    Meets (Builtin.«enumerate.__new__» ⟨[.type "enumerate", .ref t], []⟩) (fun _ R s => s.heap.get? t = some { cls := .type "tuple", dict := dd, data := .seq xs c, slots := sl } ∧
      R (.ok (.ret (.ref (s.heap.push (tupIt t)).objs.size))) { s with heap := (s.heap.push (tupIt t)).push (enumOf s.heap.objs.size) }) :=
  .of_wp fun prog w A R st hyp => by
    obtain ⟨h0, gl, dr, tk, os⟩ := st
    obtain ⟨at_t, fin⟩ := hyp
    have sub := sub_enumerate
    have isT : Heap.IsTuple (Shared.heap ⟨h0, gl, dr, tk, os⟩) t xs := ⟨_, at_t, rfl, c, rfl⟩
    wp_walk using AutoSeq1.wpAny_loadPart' at_t
    refine wpAny_stack_any fun fr => wpAny_pure (?_ : _)
    split
    · rename_i k _ _ _ _ _
      cases (k == Value.type "enumerate") <;>
        (wp_walk using AutoSeq1.wpAny_loadPart' at_t, wpAny_pyIter_tuple isT
         exact ⟨_, rfl, fin⟩)
    · wp_walk using AutoSeq1.wpAny_loadPart' at_t, wpAny_pyIter_tuple isT
      exact ⟨_, rfl, fin⟩
end
section
variable {prog : Program} {w : World} {A : Around} {E : Value → Shared → Prop} {s : Shared}
theorem enumT_call {t : Addr} {xs : Array Value} {Q : Value → Shared → Prop} (ht : IsTup s.heap t xs)
    (k : ∀ g, IsEnum g (s.heap.objs.size + 1) s.heap.objs.size 0 .none → g.IsTupleIter s.heap.objs.size t 0 → (∀ b o, s.heap.get? b = some o → g.get? b = some o) → Q (.ref (s.heap.objs.size + 1)) { s with heap := g }) :
    wpAny (model prog w) A (call (.type "enumerate") [.ref t]) Q E s := by
  obtain ⟨⟨cl, dd, da, sl⟩, at_t, h1, c, h2⟩ := ht
  cases (show cl = .type "tuple" from h1)
  cases (show da = .seq xs c from h2)
  refine callType_new F.called_enumerate (by decide) (F.typeCall_enumerate_1 _) (F.newCall_enumerate_1 _) (fun o => F.args_object_init_2 o _) F.entry_enumerate_new (enumT_new t xs c dd sl) ⟨at_t, ?_⟩
  have z : (s.heap.push (tupIt t)).objs.size = s.heap.objs.size + 1 := Heap.size_push ..
  show _ ∧ _
  rw [z]
  have at_e : ((s.heap.push (tupIt t)).push (enumOf s.heap.objs.size)).get? (s.heap.objs.size + 1) = some (enumOf s.heap.objs.size) := by
    rw [← z]
    exact Heap.get?_push_size _ rfl
  have at_i : ((s.heap.push (tupIt t)).push (enumOf s.heap.objs.size)).get? s.heap.objs.size = some (tupIt t) := Heap.get?_push_of_some _ (Heap.get?_push_size _ rfl)
  exact ⟨⟨_, at_e, rfl⟩, k _ at_e ⟨_, at_i, rfl, rfl⟩ fun b o q => Heap.get?_push_of_some _ (Heap.get?_push_of_some _ q)⟩
end
/-- the items xs of the tuple at a, each in a new pair -/
def IteT (K : PySem.W.Frag) (a : Addr) (xs : List V) : It where
  go i H := i < xs.length ∧ SqT K H a xs
  yld i H v H' := ∃ T x, v = .ref T ∧ H T = none ∧ H' = upd H T (.tup [.int (i : Nat), x]) ∧ xs[i]? = some x
  stop i H := i = xs.length ∧ SqT K H a xs
/-- the iterator's two records, apart from one another and from the tuple -/
structure Apart3 (a e it : Addr) : Prop where
  ei : e ≠ it
  ai : a ≠ it
  ea : e ≠ a
theorem turn_enumT {P : Program} {w : World} {K : PySem.W.Frag} {elts : List Expr} {kk : Nat} {tpos : Pos} {a e it : Addr} {xs : List V} (ap : Apart3 a e it) :
    Turn P w K (.Tuple elts kk tpos) (IteT K a xs) [e, it] e (fun i h => (∃ o, IsEnum h e it ((i : Nat) : Int) o) ∧ h.IsTupleIter it a i) where
  mem := List.mem_cons_self
  obj i h st b hb := by
    obtain ⟨⟨_, q⟩, o, h1, _, h2⟩ := st
    rcases List.mem_cons.mp hb with rfl | hb
    · exact ⟨_, q, fun _ z => nomatch z⟩
    · rw [List.mem_singleton.mp hb]
      exact ⟨o, h1, fun _ z => nomatch h2.symm.trans z⟩
  keep i h h' st k := ⟨st.1.imp fun _ q => k e List.mem_cons_self _ q, st.2.at fun o q => k it (List.mem_cons_of_mem _ List.mem_cons_self) o q⟩
  item := by
    intro X e1 e2 e3 calm i pins s σ H E I fp st go
    subst e1 e2 e3
    obtain ⟨hi, hq⟩ := go
    obtain ⟨its, rv, ptu, _⟩ := I.tuple hq
    have hl := rv.length
    have W := WalksT.enumerateD (Draws.tuple (prog := X.prog) (w := X.w) (A := X.A.in1) (I.ok.hd calm) it a ap.ai its.toArray) e ap.ei (by simp [ap.ei, ap.ea]) (by simp)
    refine W.item i s _ _ (by rw [List.size_toArray]; omega) ⟨st.1, st.2, ptu⟩ fun T vals h1 tk hp hT htup mid k1 => ⟨_, rfl, ?_⟩
    refine W.go elts kk tpos i T { s with heap := h1, toks := tk } _ _ mid fun h2 st2 k2 => ?_
    obtain ⟨t, u, hu, rfl⟩ := hp
    have hx : xs[i]? = some xs[i] := List.getElem?_eq_getElem hi
    obtain ⟨u', hu', ru⟩ := rv.get hx
    have same : u = u' := by
      have q : its[i]? = some u := by simpa using hu
      exact Option.some.inj (q.symm.trans hu')
    subst same
    have htup2 : h2.IsTuple T #[.int i t, u] := htup.at fun o q => k2 T o (W.apart i T h1 mid) q
    have made : ObjOk X.prog X.w (upd H T (.tup [.int (i : Nat), xs[i]])) h2 T (.tup [.int (i : Nat), xs[i]]) := ⟨by show 2 ≤ sizeLine; decide, [.int i t, u], .cons ⟨t, rfl⟩ (.cons ru .nil), htup2⟩
    have fresh : ∀ b ∈ [e, it], b ≠ T := fun b hb q => by
      rw [← q] at hT
      have live : b < s.heap.objs.size := by
        rcases List.mem_cons.mp hb with rfl | hb
        · exact Heap.lt_size st.1.choose_spec
        · rw [List.mem_singleton.mp hb]
          obtain ⟨o, z, _⟩ := st.2
          exact Heap.lt_size z
      exact absurd live (Nat.not_lt.mpr hT)
    refine ⟨.ref T, _, I.turnedNew (ch := [e, it]) (t' := tk) (fun b o hb q => k2 b o hb (k1 b o hb q)) fp hT made, rfl, ⟨T, _, rfl, I.hok.fresh hT, rfl, hx⟩, ⟨?_, st2.2.1⟩, fun b hb => (upd_ne (fresh b hb)).trans (fp b hb).1⟩
    have c := st2.1
    rw [Int.natCast_succ] at c
    exact c
  done := by
    intro X e1 e2 e3 calm i pins s σ H E I fp st stop
    subst e1 e2 e3
    obtain ⟨rfl, hq⟩ := stop
    obtain ⟨its, rv, ptu, _⟩ := I.tuple hq
    have hl := rv.length
    have W := WalksT.enumerateD (Draws.tuple (prog := X.prog) (w := X.w) (A := X.A.in1) (I.ok.hd calm) it a ap.ai its.toArray) e ap.ei (by simp [ap.ei, ap.ea]) (by simp)
    have hn : its.toArray.size = xs.length := by rw [List.size_toArray]; omega
    refine W.done s _ _ ?_ fun h1 tk k1 => ⟨rfl, I.turnedL (ch := [e, it]) (t' := tk) k1 fp⟩
    rw [hn]
    exact ⟨st.1, st.2, ptu⟩
  self A i s Q E st q := wpAny_pyIter_enum st.1.choose_spec q
def iEnumT (K : PySem.W.Frag) (ta : TA) : TI := fun σ H R => ta σ H fun vs H1 => ∃ a xs, vs = [.ref a] ∧ SqT K H1 a xs ∧ R (IteT K a xs) H1
theorem pi_enumT {X : Cx} {e : Expr} {ta : TA} {p pos tpos : Pos} {elts : List Expr} {kk : Nat} (hg : Gl X "enumerate") (hm : X.mg "enumerate" = none) (ha : PA X [e] ta) (one : starEach [e] X.env = [(false, eval e X.env)] := by rfl) :
    PI X (.Tuple elts kk tpos) (.Call (.Name "enumerate" p) [e] [] pos) (iEnumT X.K ta) := by
  constructor
  intro pins s σ H R I hw
  refine Call_ (ld_blt I hg hm boot_enumerate (PyProof.Rows.callWith_type1 (thn (ha.run pos pins s σ H _ I hw) fun us s1 got => ?_) one rfl))
  obtain ⟨vs, H1, I1, rel, a, xs, rfl, hq, k⟩ := got
  obtain ⟨u, rfl, ru⟩ := vals1 rel
  obtain rfl : u = Value.ref a := ru
  obtain ⟨its, rv, ptu, _⟩ := I1.tuple hq
  have small : a < s1.heap.objs.size := by
    obtain ⟨o, z, _⟩ := ptu
    exact Heap.lt_size z
  refine enumT_call ptu fun g at_e at_i kp => wpAny_pyIter_enum at_e ?_
  refine ⟨s1.heap.objs.size + 1, [s1.heap.objs.size + 1, s1.heap.objs.size], _, _, H1, rfl, I1.kept (t' := s1.toks) kp, turn_enumT (a := a) (xs := xs) ⟨Nat.succ_ne_self _, Nat.ne_of_lt small, (Nat.ne_of_lt (Nat.lt_succ_of_lt small)).symm⟩, ⟨⟨_, at_e⟩, at_i⟩, fun b hb => ?_, k⟩
  have up : s1.heap.objs.size ≤ b := by
    rcases List.mem_cons.mp hb with rfl | hb
    · exact Nat.le_succ _
    · exact Nat.le_of_eq (List.mem_singleton.mp hb).symm
  exact I1.fpOk up (I1.hok.fresh up)
theorem walk_enumT {K : PySem.W.Frag} {a : Addr} {xs : List V} : Walk (IteT K a xs) xs.length (fun H => SqT K H a xs) (YPair (fun i => some (.int (i : Nat))) (fun i => xs[i]?)) where
  goes _ _ hi q := ⟨hi, q⟩
  stops _ q := ⟨rfl, q⟩
  yields i _ _ _ _ _ y := let ⟨T, x, h1, h2, h3, h4⟩ := y; ⟨T, .int (i : Nat), x, h1, h2, h3, rfl, h4⟩
end K38
set_option Elab.async false
set_option linter.all false
set_option maxRecDepth 100000
set_option maxHeartbeats 4100000
/-! K38E: evaluation words beside Evl: a value with a property (EvP), a walked thing (EvI), comprehensions and loops over these. -/
namespace K38
open PySem L2 Evl
section
/-- te gives some value with P, the heap only grown -/
def EvP (te : TE) (σ : L2.St) (H : Hp) (P : V → Hp → Prop) : Prop := ∀ H1, Ex H H1 → ∀ Q : VK, (∀ v H2, Ex H1 H2 → P v H2 → Q v H2) → te σ H1 Q
variable {K : PySem.W.Frag} {σ : L2.St} {H H' : Hp} {ta tb tc te tx tl : TE} {t u : TT} {x y z v : V} {r r' : R2} {P P' : V → Hp → Prop} {g : TG} {wi : TI}
theorem EvP.mono (e : Ex H H') (h : EvP te σ H P) : EvP te σ H' P := fun H1 a Q q => h H1 (e.trans a) Q q
theorem EvP.imp (h : EvP te σ H P) (hp : ∀ v H2, Ex H H2 → P v H2 → P' v H2) : EvP te σ H P' := fun H1 e Q q => h H1 e Q fun v H2 e2 p => q v H2 e2 (hp v H2 (e.trans e2) p)
theorem ep_ev (h : Ev te σ H v) : EvP te σ H (fun x _ => x = v) := fun H1 e Q q => h H1 e Q fun H2 e2 => q v H2 e2 rfl
theorem ep_evr {a : Addr} (h : Ev te σ H (.ref a)) (hp : ∀ H2, Ex H H2 → P (.ref a) H2) : EvP te σ H P := fun H1 e Q q => h H1 e Q fun H2 e2 => q _ H2 e2 (hp H2 (e.trans e2))
theorem ep_l {xs : List V} (h : EvL te σ H xs) : EvP te σ H (fun x H => ∃ p, x = .ref p ∧ H p = some (.lst xs)) := fun H1 e Q q => h H1 e Q fun p H2 _ e2 hp => q _ H2 e2 ⟨p, rfl, hp⟩
theorem ep_u {xs : List V} (h : EvU te σ H xs) : EvP te σ H (fun x H => ∃ p, x = .ref p ∧ H p = some (.tup xs)) := fun H1 e Q q => h H1 e Q fun p H2 _ e2 hp => q _ H2 e2 ⟨p, rfl, hp⟩
theorem EvA.one (h : Ev te σ H v) : EvA (tCons te tNil) σ H [v] := ea_cons h ea_nil
/-- a call on one value that is known by a property -/
theorem ev_cbP {rr : List V → Hp → VK → Prop} (h : EvP te σ H P) (hr : ∀ v H1, Ex H H1 → P v H1 → ∀ Q : VK, Q z H1 → rr [v] H1 Q) : Ev (tCB rr (tCons te tNil)) σ H z := fun H1 e Q q =>
  h H1 e _ fun v H2 e2 p => hr v H2 (e.trans e2) p Q (q H2 e2)
theorem ev_opP {Pa Pb : V → Hp → Prop} (ha : EvP ta σ H Pa) (hb : EvP tb σ H Pb) (hs : ∀ v H1 H2, Ex H1 H2 → Pa v H1 → Pa v H2) (hr : ∀ x y H1, Ex H H1 → Pa x H1 → Pb y H1 → RV r x y H1 z) : Ev (tOp r ta tb) σ H z := fun H1 e Q q =>
  ha H1 e _ fun x H2 e2 px => hb H2 (e.trans e2) _ fun y H3 e3 py => hr x y H3 ((e.trans e2).trans e3) (hs x H2 H3 e3 px) py H3 (Ex.refl H3) Q fun H4 e4 => q H4 ((e2.trans e3).trans e4)
theorem ev_if' {b : Bool} (h : EvT t σ H b) (h1 : b = true → Ev ta σ H v) (h2 : b = false → Ev tb σ H v) : Ev (tIf t ta tb) σ H v := ev_if h h1 h2

/-! ### comparisons of ints, chains -/
theorem ev_cmp {gg : Int → Int → V} {i j : Int} (ha : Ev ta σ H (.int i)) (hb : Ev tb σ H (.int j)) : Ev (tOp (rI0 gg) ta tb) σ H (gg i j) := ev_op ha hb rv_I0
theorem ev_opI {C : Int → Int → Prop} {gg : Int → Int → V} {i j : Int} (ha : Ev ta σ H (.int i)) (hb : Ev tb σ H (.int j)) (hc : C i j) : Ev (tOp (rI C gg) ta tb) σ H (gg i j) := ev_op ha hb (rv_I hc)
theorem ev_chainI {i j k : Int} {p p' : Int → Int → Bool} (ha : Ev ta σ H (.int i)) (hb : Ev tb σ H (.int j)) (hc : Ev tc σ H (.int k)) :
    Ev (tChain (rI0 fun i j => .bl (p i j)) (rI0 fun i j => .bl (p' i j)) ta tb tc) σ H (.bl (p i j && p' j k)) := fun H1 e Q q =>
  ha H1 e _ fun H2 e2 => hb H2 (e.trans e2) _ fun H3 e3 => ⟨i, j, rfl, rfl, p i j, rfl, by
    revert q
    cases p i j with
    | false => exact fun q => iteF (q H3 (e2.trans e3))
    | true => exact fun q => iteT (hc H3 ((e.trans e2).trans e3) _ fun H4 e4 => ⟨j, k, rfl, rfl, by
        have z := q H4 ((e2.trans e3).trans e4)
        rw [Bool.true_and] at z
        exact z⟩)⟩

/-! ### what is walked -/
/-- n turns; the i-th thing has P i; the heap only grows -/
def EvI (wi : TI) (σ : L2.St) (H : Hp) (n : Nat) (P : Nat → V → Hp → Prop) : Prop := ∀ H0, Ex H H0 → ∀ R : It → Hp → Prop,
  (∀ (J : It) (G : Hp → Prop) (Y : Nat → Hp → V → Hp → Prop) (H1 : Hp), Ex H0 H1 → (∀ H2, Ex H1 H2 → G H2) → Walk J n G Y → (∀ i x H2 H3, i < n → Ex H1 H2 → Y i H2 x H3 → Ex H2 H3 ∧ P i x H3) → R J H1) → wi σ H0 R
theorem ei_range1 {ta : TA} {n : Int} (h : EvA ta σ H [.int n]) (hn : 0 ≤ n ∧ n ≤ 100000) : EvI (iRng1 ta) σ H n.toNat (fun i x _ => x = .int (i : Int)) := fun H0 e R k =>
  h H0 e _ fun H1 e1 => ⟨n, rfl, by omega, by omega, k _ (fun _ => True) _ H1 e1 (fun _ _ => trivial) walk_range fun i x H2 H3 _ _ y => by
    obtain ⟨y1, y2⟩ := y
    subst y1
    exact ⟨Ex.refl _, y2.trans (congrArg V.int (Int.zero_add (i : Int)))⟩⟩
theorem ei_list {xs : List V} (h : EvP tl σ H (fun v H => ∃ a, v = .ref a ∧ SqL K H a xs)) : EvI (iList K tl) σ H xs.length (fun i x _ => xs[i]? = some x) := fun H0 e R k =>
  h H0 e _ fun v H1 e1 ⟨a, ev, hs⟩ => ⟨a, ev, ⟨xs, hs⟩, k _ _ _ H1 e1 (fun H2 e2 => ex_l e2 hs) walk_list fun i x H2 H3 _ _ y => by
    obtain ⟨y1, y2⟩ := y
    subst y1
    exact ⟨Ex.refl _, y2⟩⟩
theorem ei_tup {xs : List V} (h : EvP tl σ H (fun v H => ∃ a, v = .ref a ∧ SqT K H a xs)) : EvI (iTup K tl) σ H xs.length (fun i x _ => xs[i]? = some x) := fun H0 e R k =>
  h H0 e _ fun v H1 e1 ⟨a, ev, hs⟩ => ⟨a, ev, ⟨xs, hs⟩, k _ _ _ H1 e1 (fun H2 e2 => ex_t e2 hs) walk_tup fun i x H2 H3 _ _ y => by
    obtain ⟨y1, y2⟩ := y
    subst y1
    exact ⟨Ex.refl _, y2⟩⟩
theorem ei_enumT {xs : List V} {a : Addr} {ta : TA} (h : EvA ta σ H [.ref a]) (hs : SqT K H a xs) :
    EvI (iEnumT K ta) σ H xs.length (fun i x H => ∃ T y, x = .ref T ∧ H T = some (.tup [.int (i : Int), y]) ∧ xs[i]? = some y) := fun H0 e R k =>
  h H0 e _ fun H1 e1 => ⟨a, xs, rfl, ex_t (e.trans e1) hs, k _ _ _ H1 e1 (fun H2 e2 => ex_t ((e.trans e1).trans e2) hs) walk_enumT fun i x H2 H3 _ _ y => by
    obtain ⟨T, x1, x2, h1, h2, h3, h4, h5⟩ := y
    subst h3
    refine ⟨Ex.new h2, T, x2, h1, ?_, h5⟩
    rw [upd_same, ← Option.some.inj h4]⟩

/-! ### comprehensions -/
theorem given_all (n : Nat) (v : Nat → V) : given n (fun _ => true) v = (List.range n).map v := by
  unfold given
  rw [List.filter_eq_self.mpr fun _ _ => rfl]
/-- [te for g in wi if t], scalars: the turn's target leaves σ2 -/
theorem el_lcW {vs : List Nat} {n : Nat} {PI : Nat → V → Hp → Prop} (f : Nat → Bool) (v : Nat → V) (h : EvI wi σ H n PI) (hn : n ≤ 40000)
    (turn : ∀ i x H1, Ex H H1 → i < n → PI i x H1 → g x (wipe σ vs) H1 fun σ2 H2 => wipe σ2 vs = wipe σ vs ∧ Ex H1 H2 ∧ EvT t σ2 H2 (f i) ∧ (f i = true → Ev te σ2 H2 (v i)))
    (hg : ∀ x H1 (A B : L2.St → Hp → Prop), (∀ σ2 H2, A σ2 H2 → B σ2 H2) → g x (wipe σ vs) H1 A → g x (wipe σ vs) H1 B) :
    EvL (tLc wi g t te vs) σ H (given n f v) := fun H0 e Q q => h H0 e _ fun J G Y H1 e1 hG w hY D hD =>
  lc_it w (fun i H' => Ex H1 H' ∧ H' D = some (.lst (given i f v))) ⟨Ex.new hD, upd_same⟩ (fun i H' _ p => hG H' p.1)
    (fun i x H2 H3 hi p y => by
      obtain ⟨p1, p2⟩ := p
      obtain ⟨e3, hp⟩ := hY i x H2 H3 hi p1 y
      refine hg x H3 _ _ (fun σ2 H4 k => ?_) (turn i x H3 ((e.trans e1).trans (p1.trans e3)) hi hp)
      obtain ⟨k1, e4, k2, k3⟩ := k
      refine ⟨k1, k2 H4 (Ex.refl H4) _ fun H5 e5 => ?_⟩
      cases hf : f i with
      | true =>
        refine iteT (k3 hf H5 e5 _ fun H6 e6 => ⟨given i f v, e6 D _ (e5 D _ (e4 D _ (e3 D _ p2))), sz_lt (by have := given_len i f v; omega), ?_, ?_⟩)
        · exact Ex.mut ((((p1.trans e3).trans e4).trans e5).trans e6) hD
        · rw [given_yes hf]
          exact upd_same
      | false =>
        refine iteF ⟨((p1.trans e3).trans e4).trans e5, ?_⟩
        rw [given_no hf]
        exact e5 D _ (e4 D _ (e3 D _ p2)))
    (fun H' p => q D H' (fresh_back e1 hD) (e1.trans p.1) p.2)
theorem el_lcN {vs : List Nat} {j n : Nat} {PI : Nat → V → Hp → Prop} (f : Nat → Bool) (v : Nat → V) (h : EvI wi σ H n PI) (hn : n ≤ 40000) (hw : ∀ x, wipe ((wipe σ vs).set j (some x)) vs = wipe σ vs)
    (turn : ∀ i x H1, Ex H H1 → i < n → PI i x H1 → EvT t ((wipe σ vs).set j (some x)) H1 (f i) ∧ (f i = true → Ev te ((wipe σ vs).set j (some x)) H1 (v i))) :
    EvL (tLc wi (gName j) t te vs) σ H (given n f v) :=
  el_lcW f v h hn (fun i x H1 e hi p => ⟨hw x, Ex.refl H1, turn i x H1 e hi p⟩) fun x H1 A B k a => k _ _ a
/-- the target is a pair of names -/
theorem el_lcP {vs : List Nat} {j k n : Nat} {PI : Nat → V → Hp → Prop} (f : Nat → Bool) (v : Nat → V) (h : EvI wi σ H n PI) (hn : n ≤ 40000) (hw : ∀ x y, wipe (((wipe σ vs).set j (some x)).set k (some y)) vs = wipe σ vs)
    (turn : ∀ i x H1, Ex H H1 → i < n → PI i x H1 → ∃ T y z, x = .ref T ∧ H1 T = some (.tup [y, z]) ∧ EvT t (((wipe σ vs).set j (some y)).set k (some z)) H1 (f i) ∧ (f i = true → Ev te (((wipe σ vs).set j (some y)).set k (some z)) H1 (v i))) :
    EvL (tLc wi (gTup K 2 (gCons (gName j) (gCons (gName k) gNil))) t te vs) σ H (given n f v) :=
  el_lcW f v h hn (fun i x H1 e hi p => by
    obtain ⟨T, y, z, ex, hT, k1, k2⟩ := turn i x H1 e hi p
    exact ⟨T, [y, z], ex, .inl (.inl hT), rfl, y, [z], rfl, z, [], rfl, rfl, hw y z, Ex.refl H1, k1, k2⟩) fun x H1 A B k a => by
    obtain ⟨T, xs, e1, e2, e3, y, r, e4, z, r2, e5, e6, a⟩ := a
    exact ⟨T, xs, e1, e2, e3, y, r, e4, z, r2, e5, e6, k _ _ a⟩
theorem et_yes : EvT tYes σ H true := fun H1 _ _ q => q H1 (Ex.refl H1)
end
end K38
set_option Elab.async false
set_option linter.all false
set_option maxRecDepth 100000
set_option maxHeartbeats 4100000
/-! K38S: the text by places, calls of the text's own defs, built-ins' names, what stands in the heap. -/
namespace K38
open PySem L2 Evl
def topS (i : Nat) : Stmt := PySem.Challenge.pw_laytogether_k38_whole_numbers_of_orders.main.body.getD i (.Pass ⟨0, 0, 0, 0⟩)
abbrev sWhole : Stmt := topS 10
abbrev sWithin : Stmt := topS 11
abbrev sNeedNumber : Stmt := topS 12
abbrev sTupleOf : Stmt := topS 13
abbrev sIsRow : Stmt := topS 14
abbrev sBadRow : Stmt := topS 15
abbrev sNeedTable : Stmt := topS 16
abbrev sIsOrder : Stmt := topS 17
abbrev sNeedTwos : Stmt := topS 19
abbrev sOrderOf : Stmt := topS 20
abbrev sOrder : Stmt := topS 21
abbrev sTableOf : Stmt := topS 22
abbrev sFromOrder : Stmt := topS 23
abbrev sRingsOf : Stmt := topS 24
abbrev sLeastBy : Stmt := topS 25
abbrev sMostBy : Stmt := topS 26
abbrev sCntOdds : Stmt := topS 27
abbrev sCntRings : Stmt := topS 28
abbrev sTaken : Stmt := topS 30
abbrev sPerms : Stmt := topS 31
abbrev sAlike : Stmt := topS 32
abbrev sLaw : Stmt := topS 33
/-- names that the top leaves to the built-ins; the three numbers of the top -/
structure Nm (mg : Str → Option Value) : Prop where
  isi : mg "isinstance" = none
  int : mg "int" = none
  bool : mg "bool" = none
  tuple : mg "tuple" = none
  list : mg "list" = none
  str : mg "str" = none
  len : mg "len" = none
  all : mg "all" = none
  any : mg "any" = none
  sum : mg "sum" = none
  max : mg "max" = none
  sorted : mg "sorted" = none
  range : mg "range" = none
  enum : mg "enumerate" = none
  mp : ∃ t, mg "MOST_PEOPLE" = some (.int 6 t)
  mgd : ∃ t, mg "MOST_GOODS" = some (.int 5 t)
  mh : ∃ t, mg "MOST_HEAP" = some (.int 99 t)
/-- a def of the text that keeps a promise, by its name -/
structure Cal (P : Program) (w : World) (K : PySem.W.Frag) (mg : Str → Option Value) (base : Heap) (k : Nat) (x : Str) (ps : List Str) (sp : Sp) : Prop where
  ex : ∃ f fd, FnOk P w K mg base CX0 k f fd ps sp ∧ mg x = some (.ref f) ∧ PySem.W.keepIn K (.ref f) = true ∧ Binds K fd ps []
section
variable {X : Cx} {k j : Nat} {ps : List Str} {sp : Sp} {x : Str} {p pos : Pos} {e : Expr} {es : List Expr} {t : TA}
theorem pe_cal (c : Cal X.prog X.w X.K X.mg X.base k x ps sp) (hr : Room j X.A) (ha : PA X (e :: es) t) (hk : k ≤ j := by decide) (hg : Gl X x := by rfl) (hdb : (x == ("__debug__" : Str)) = false := by decide)
    (he : starEach (e :: es) X.env = (false, eval e X.env) :: starEach es X.env := by rfl) (hpl : (backTo pos (starEach es X.env)).any (·.1) = false := by rfl) : PE X (.Call (.Name x p) (e :: es) [] pos) (tCall sp [] E0 t) := by
  obtain ⟨f, fd, F, hm, kp, b⟩ := c.ex
  exact pe_call F (hr.mono hk) hg hm kp b .nil pass0 ha hdb he hpl
end
/-- a tuple of ints stands -/
def Tup (H : Hp) (v : V) (ns : List Int) : Prop := ∃ a, v = .ref a ∧ H a = some (.tup (ns.map V.int))
theorem Tup.up {H H' : Hp} {v : V} {ns : List Int} (h : Tup H v ns) (e : Ex H H') : Tup H' v ns := h.imp fun a q => ⟨q.1, e _ _ q.2⟩
/-- things that are such tuples, one by one -/
def Rows (H : Hp) (xs : List V) (rows : List (List Int)) : Prop := xs.length = rows.length ∧ ∀ (i : Nat) (x : V) (r : List Int), xs[i]? = some x → rows[i]? = some r → Tup H x r
theorem Rows.up {H H' : Hp} {xs : List V} {rows : List (List Int)} (h : Rows H xs rows) (e : Ex H H') : Rows H' xs rows := ⟨h.1, fun i x r a b => (h.2 i x r a b).up e⟩
theorem Rows.nil {H : Hp} : Rows H [] [] := ⟨rfl, fun _ _ _ a => by simp at a⟩
theorem Rows.app {H : Hp} {xs ys : List V} {rs qs : List (List Int)} (h : Rows H xs rs) (h' : Rows H ys qs) : Rows H (xs ++ ys) (rs ++ qs) := by
  refine ⟨by rw [List.length_append, List.length_append, h.1, h'.1], fun i x r a b => ?_⟩
  by_cases hi : i < xs.length
  · rw [List.getElem?_append_left hi] at a
    rw [List.getElem?_append_left (by rw [← h.1]; exact hi)] at b
    exact h.2 i x r a b
  · rw [List.getElem?_append_right (by omega)] at a
    rw [List.getElem?_append_right (by rw [← h.1]; omega), ← h.1] at b
    exact h'.2 _ x r a b
theorem Rows.one {H : Hp} {x : V} {r : List Int} (h : Tup H x r) : Rows H [x] [r] := by
  refine ⟨rfl, fun i y q a b => ?_⟩
  match i, a, b with
  | 0, a, b =>
    cases Option.some.inj a
    cases Option.some.inj b
    exact h
theorem Rows.at {H : Hp} {xs : List V} {rows : List (List Int)} (h : Rows H xs rows) {i : Nat} {r : List Int} (hr : rows[i]? = some r) : ∃ x, xs[i]? = some x ∧ Tup H x r := by
  have hi : i < xs.length := by
    rw [h.1]
    exact (List.getElem?_eq_some_iff.mp hr).1
  exact ⟨xs[i], List.getElem?_eq_getElem hi, h.2 i _ r (List.getElem?_eq_getElem hi) hr⟩
/-- a table: a tuple of such tuples; a list of such tuples -/
def Tab (H : Hp) (v : V) (rows : List (List Int)) : Prop := ∃ a xs, v = .ref a ∧ H a = some (.tup xs) ∧ Rows H xs rows
theorem Tab.up {H H' : Hp} {v : V} {rows : List (List Int)} (h : Tab H v rows) (e : Ex H H') : Tab H' v rows := let ⟨a, xs, h1, h2, h3⟩ := h; ⟨a, xs, h1, e _ _ h2, h3.up e⟩
theorem small {n : Nat} (h : n ≤ 1000) : n ≤ sizeLine := Nat.le_trans h (by decide)
/-- «v comes back, the heap only grown» -/
abbrev Gives (v : V) (H : Hp) (Q : VK) : Prop := ∀ H', Ex H H' → Q v H'
abbrev GivesP (P : V → Hp → Prop) (H : Hp) (Q : VK) : Prop := ∀ v H', Ex H H' → P v H' → Q v H'
section
variable {σ : L2.St} {H : Hp} {z : V} {sp : Sp} {ta : TA} {vs : List V}
theorem ev_cal (h : EvA ta σ H vs) (hs : ∀ H1, Ex H H1 → ∀ Q : VK, Gives z H1 Q → sp vs H1 Q E0) : Ev (tCall sp [] E0 ta) σ H z := fun H1 e Q q =>
  h H1 e _ fun H2 e2 => by
    show sp (vs ++ []) H2 Q E0
    rw [List.append_nil]
    exact hs H2 (e.trans e2) Q fun H3 e3 => q H3 (e2.trans e3)
theorem ep_cal {P : V → Hp → Prop} (h : EvA ta σ H vs) (hs : ∀ H1, Ex H H1 → ∀ Q : VK, GivesP P H1 Q → sp vs H1 Q E0) : EvP (tCall sp [] E0 ta) σ H P := fun H1 e Q q =>
  h H1 e _ fun H2 e2 => by
    show sp (vs ++ []) H2 Q E0
    rw [List.append_nil]
    exact hs H2 (e.trans e2) Q fun v H3 e3 p => q v H3 (e2.trans e3) p
end
end K38
set_option Elab.async false
set_option linter.all false
set_option maxRecDepth 100000
set_option maxHeartbeats 4100000
/-! K38D1: whole, within, need_number, tuple_of, is_row, bad_row, need_table, is_order. -/
namespace K38
open PySem L2 Evl
/-! ### lists of ints as data -/
theorem dp_ints {K : PySem.W.Frag} {H : Hp} : ∀ ns : List Int, DpAll K H (ns.map V.int) (ns.map PyData.int)
  | [] => .nil
  | n :: r => .cons (.int n) (dp_ints r)
theorem lay_ints : ∀ ns : List Int, PyData.canLayAll0 (ns.map PyData.int) = true
  | [] => rfl
  | n :: r => by
    show (PyData.canLay0 (.int n) && PyData.canLayAll0 (r.map PyData.int)) = true
    rw [lay_ints r] <;> rfl
theorem deep_ints : ∀ ns : List Int, PyData.depthAll (ns.map PyData.int) ≤ 1
  | [] => Nat.zero_le _
  | n :: r => Nat.max_le.mpr ⟨by first | exact Nat.zero_le _ | exact Nat.le_refl _ | simp [PyData.depth], deep_ints r⟩
theorem shaped_ints (ns : List Int) : SeqAt.shaped (.list (ns.map PyData.int)) = true := by
  unfold SeqAt.shaped
  refine Bool.and_eq_true_iff.mpr ⟨lay_ints ns, decide_eq_true ?_⟩
  have h := deep_ints ns
  show PyData.depthAll (ns.map PyData.int) + 1 ≤ 64
  omega
theorem eqv_ints : ∀ ns ms : List Int, PyData.eqvAll (ns.map PyData.int) (ms.map PyData.int) = decide (ns = ms)
  | [], [] => rfl
  | [], _ :: _ => rfl
  | _ :: _, [] => rfl
  | n :: r, m :: q => by
    show (PyData.eqv (.int n) (.int m) && PyData.eqvAll (r.map PyData.int) (q.map PyData.int)) = _
    rw [eqv_ints r q]
    show ((n == m) && decide (r = q)) = decide (n :: r = m :: q)
    by_cases h1 : n = m
    · subst h1
      by_cases h2 : r = q
      · subst h2; simp
      · simp [h2]
    · simp [h1]
/-- == and != of two lists of ints that stand -/
theorem rv_eqL {K : PySem.W.Frag} {H : Hp} {a b : Addr} {ns ms : List Int} (ha : SqL K H a (ns.map V.int)) (hb : SqL K H b (ms.map V.int)) : RV (rEqD K) (.ref a) (.ref b) H (.bl (decide (ns = ms))) := fun H1 e Q q =>
  ⟨.list (ns.map PyData.int), .list (ms.map PyData.int), .lst (ex_l e ha) (dp_ints ns), .lst (ex_l e hb) (dp_ints ms), shaped_ints ns, shaped_ints ms, by
    show Q (.bl (PyData.eqvAll (ns.map PyData.int) (ms.map PyData.int))) H1
    rw [eqv_ints]
    exact q H1 (Ex.refl H1)⟩
theorem rv_neL {K : PySem.W.Frag} {H : Hp} {a b : Addr} {ns ms : List Int} (ha : SqL K H a (ns.map V.int)) (hb : SqL K H b (ms.map V.int)) : RV (rNeD K) (.ref a) (.ref b) H (.bl (!decide (ns = ms))) := fun H1 e Q q =>
  ⟨.list (ns.map PyData.int), .list (ms.map PyData.int), .lst (ex_l e ha) (dp_ints ns), .lst (ex_l e hb) (dp_ints ms), shaped_ints ns, shaped_ints ms, by
    show Q (.bl (!PyData.eqvAll (ns.map PyData.int) (ms.map PyData.int))) H1
    rw [eqv_ints]
    exact q H1 (Ex.refl H1)⟩
/-! ### isinstance -/
theorem rc_isiI {K : PySem.W.Frag} {H : Hp} {i : Int} {T : String} {b : Bool} (h : kitB "int" T = some b) : RC (rIsi K) [.int i, .ty T] H (.bl b) := fun H1 _ Q q => ⟨_, _, _, _, b, rfl, .ty T, .base (.int i), kit_ty h, q H1 (Ex.refl H1)⟩
theorem rc_isiT {K : PySem.W.Frag} {H : Hp} {a : Addr} {xs : List V} {T : String} {b : Bool} (ha : H a = some (.tup xs)) (h : kitB "tuple" T = some b) : RC (rIsi K) [.ref a, .ty T] H (.bl b) := fun H1 e Q q =>
  ⟨_, _, _, _, b, rfl, .ty T, .base (.tup (e _ _ ha)), kit_ty h, q H1 (Ex.refl H1)⟩
theorem rc_isiL {K : PySem.W.Frag} {H : Hp} {a : Addr} {xs : List V} {T : String} {b : Bool} (ha : H a = some (.lst xs)) (h : kitB "list" T = some b) : RC (rIsi K) [.ref a, .ty T] H (.bl b) := fun H1 e Q q =>
  ⟨_, _, _, _, b, rfl, .ty T, .base (.lst (e _ _ ha)), kit_ty h, q H1 (Ex.refl H1)⟩
theorem rc_lenT {K : PySem.W.Frag} {H : Hp} {a : Addr} {xs : List V} (ha : SqT K H a xs) : RC (rLenS K) [.ref a] H (.int (xs.length : Int)) := fun H1 e Q q => ⟨a, xs, rfl, .inr (ex_t e ha), q H1 (Ex.refl H1)⟩
theorem rc_lenL {K : PySem.W.Frag} {H : Hp} {a : Addr} {xs : List V} (ha : SqL K H a xs) : RC (rLenS K) [.ref a] H (.int (xs.length : Int)) := fun H1 e Q q => ⟨a, xs, rfl, .inl (ex_l e ha), q H1 (Ex.refl H1)⟩
theorem ea_two {K : PySem.W.Frag} {σ : L2.St} {H : Hp} {ta tb : TE} {x y : V} (h : Ev ta σ H x) (h' : Ev tb σ H y) : EvA (tCons ta (tCons tb tNil)) σ H [x, y] := ea_cons h (ea_cons h' ea_nil)
/-! ### promises -/
def spWhole : Sp := fun vs H Q _ => ∃ n : Int, vs = [.int n] ∧ Gives (.bl true) H Q
def spWithin : Sp := fun vs H Q _ => ∃ n lo hi : Int, vs = [.int n, .int lo, .int hi] ∧ lo ≤ n ∧ n ≤ hi ∧ Gives (.bl true) H Q
def spNeedNumber : Sp := fun vs H Q _ => ∃ n lo hi : Int, vs = [.int n, .int lo, .int hi] ∧ lo ≤ n ∧ n ≤ hi ∧ Gives .non H Q
def spTupleOf : Sp := fun vs H Q _ => ∃ (a : Addr) (xs : List V) (lo hi : Int), vs = [.ref a, .int lo, .int hi] ∧ H a = some (.tup xs) ∧ lo ≤ xs.length ∧ (xs.length : Int) ≤ hi ∧ Gives (.bl true) H Q
def heaps (ns : List Int) : Prop := ∀ n ∈ ns, 0 ≤ n ∧ n ≤ 99
def spIsRow : Sp := fun vs H Q _ => ∃ (v : V) (ns : List Int), vs = [v, .int ns.length] ∧ Tup H v ns ∧ heaps ns ∧ ns.length ≤ 1000 ∧ Gives (.bl true) H Q
/-- a well made table of g goods -/
structure WellMade (g : Nat) (rows : List (List Int)) : Prop where
  g1 : 1 ≤ g
  g5 : g ≤ 5
  p1 : 1 ≤ rows.length
  p6 : rows.length ≤ 6
  row : ∀ r ∈ rows, r.length = g ∧ heaps r
def spBadRow : Sp := fun vs H Q _ => ∃ (v : V) (g : Nat) (rows : List (List Int)), vs = [v] ∧ Tab H v rows ∧ WellMade g rows ∧ Gives .non H Q
def rg (n : Nat) : List Int := (List.range n).map (fun (i : Nat) => (i : Int))
def spIsOrder : Sp := fun vs H Q _ => ∃ (v : V) (ns : List Int), vs = [v, .int ns.length] ∧ Tup H v ns ∧ ns.Perm (rg ns.length) ∧ ns.length ≤ 1000 ∧ Gives (.bl true) H Q
section
variable {P : Program} {w : World} {K : PySem.W.Frag} {mg : Str → Option Value} {base : Heap} {f : Addr} {fd : FuncData}
theorem scWhole : FnScope ["value"] ["value"] (defScope sWhole) := ⟨rfl, rfl, rfl, by decide +kernel, rfl, by decide +kernel, by decide +kernel⟩
theorem ok_whole (F : Fun K "whole" "whole" sWhole f fd) (T : Nm mg) : FnOk P w K mg base CX0 1 f fd ["value"] spWhole := by
  refine F.ok scWhole (fun vs H Q E h => ?_) (fun cdv A outer s H vs Q E hr h => ?_)
  · obtain ⟨n, rfl, _⟩ := h
    rfl
  · obtain ⟨n, rfl, q⟩ := h
    refine ⟨_, pss_one (ps_ret (pe_and (pe_callB call_isi (by rfl) T.isi PyProof.Rows.boot_isinstance (pa_cons (pv 0) (pa_cons (pe_bltn (by rfl) T.int PyProof.Rows.boot_int (v := .ty "int") rfl) pa_nil)))
      (pe_one (pe_not (pe_callB call_isi (by rfl) T.isi PyProof.Rows.boot_isinstance (pa_cons (pv 0) (pa_cons (pe_bltn (by rfl) T.bool PyProof.Rows.boot_bool (v := .ty "bool") rfl) pa_nil))))))), ?_⟩
    exact s_ret (ev_andV (a := true) (b := true) (ev_cb (ea_cons (ev_var rfl) (ea_cons ev_c ea_nil)) (rc_isiI (by decide +kernel))) fun _ =>
      ev_notV (a := false) (ev_cb (ea_cons (ev_var rfl) (ea_cons ev_c ea_nil)) (rc_isiI (by decide +kernel)))) fun H1 e => q H1 e
theorem scWithin : FnScope ["value", "low", "high"] ["value", "low", "high"] (defScope sWithin) := ⟨rfl, rfl, rfl, by decide +kernel, rfl, by decide +kernel, by decide +kernel⟩
theorem ok_within (F : Fun K "within" "within" sWithin f fd) (cW : Cal P w K mg base 1 "whole" ["value"] spWhole) : FnOk P w K mg base CX0 2 f fd ["value", "low", "high"] spWithin := by
  refine F.ok scWithin (fun vs H Q E h => ?_) (fun cdv A outer s H vs Q E hr h => ?_)
  · obtain ⟨n, lo, hi, rfl, _⟩ := h
    rfl
  · obtain ⟨n, lo, hi, rfl, h1, h2, q⟩ := h
    refine ⟨_, pss_one (ps_ret (pe_and (pe_cal cW hr (pa_cons (pv 0) pa_nil)) (pe_one (pe_chain op_le op_le (pv 1) (pv 0) (pv 2))))), ?_⟩
    refine s_ret (v := .bl true) (ev_andV (a := true) (b := true) (ev_cal (EvA.one (ev_var rfl)) fun H1 e Q k => ⟨n, rfl, k⟩) fun _ => ?_) fun H1 e => q H1 e
    have z := ev_chainI (p := fun i j => decide (i ≤ j)) (p' := fun i j => decide (i ≤ j)) (ev_var (σ := [some (.int n), some (.int lo), some (.int hi)]) (H := H) (i := 1) rfl) (ev_var (i := 0) rfl) (ev_var (i := 2) rfl)
    rw [decide_eq_true h1, decide_eq_true h2] at z
    exact z
theorem scNeedNumber : FnScope ["value", "low", "high"] ["value", "low", "high"] (defScope sNeedNumber) := ⟨rfl, rfl, rfl, by decide +kernel, rfl, by decide +kernel, by decide +kernel⟩
theorem ok_needNumber (F : Fun K "need_number" "need_number" sNeedNumber f fd) (cW : Cal P w K mg base 2 "within" ["value", "low", "high"] spWithin) : FnOk P w K mg base CX0 3 f fd ["value", "low", "high"] spNeedNumber := by
  refine F.ok scNeedNumber (fun vs H Q E h => ?_) (fun cdv A outer s H vs Q E hr h => ?_)
  · obtain ⟨n, lo, hi, rfl, _⟩ := h
    rfl
  · obtain ⟨n, lo, hi, rfl, h1, h2, q⟩ := h
    refine ⟨_, pss_one (ps_if (pt_not (pt_val (pe_cal cW hr (pa_cons (pv 0) (pa_cons (pv 1) (pa_cons (pv 2) pa_nil)))))) pss_never pss_nil), ?_⟩
    exact s_when (b := false) (et_not (a := true) (et_B (ev_cal (ea_cons (ev_var rfl) (ea_cons (ev_var rfl) (EvA.one (ev_var rfl)))) fun H1 e Q k => ⟨n, lo, hi, rfl, h1, h2, k⟩))) (fun z => nomatch z) fun _ H1 e => q H1 e
theorem scTupleOf : FnScope ["value", "low", "high"] ["value", "low", "high"] (defScope sTupleOf) := ⟨rfl, rfl, rfl, by decide +kernel, rfl, by decide +kernel, by decide +kernel⟩
theorem ok_tupleOf (F : Fun K "tuple_of" "tuple_of" sTupleOf f fd) (T : Nm mg) : FnOk P w K mg base CX0 1 f fd ["value", "low", "high"] spTupleOf := by
  refine F.ok scTupleOf (fun vs H Q E h => ?_) (fun cdv A outer s H vs Q E hr h => ?_)
  · obtain ⟨a, xs, lo, hi, rfl, _⟩ := h
    rfl
  · obtain ⟨a, xs, lo, hi, rfl, ha, h1, h2, q⟩ := h
    refine ⟨_, pss_one (ps_ret (pe_and (pe_callB call_isi (by rfl) T.isi PyProof.Rows.boot_isinstance (pa_cons (pv 0) (pa_cons (pe_bltn (by rfl) T.tuple PyProof.Rows.boot_tuple (v := .ty "tuple") rfl) pa_nil)))
      (pe_one (pe_chain op_le op_le (pv 1) (pe_callB call_len_seq (by rfl) T.len PySem.boot_len (pa_cons (pv 0) pa_nil)) (pv 2))))), ?_⟩
    refine s_ret (v := .bl true) (ev_andV (a := true) (b := true) (ev_cb (ea_two (K := K) (ev_var rfl) ev_c) (rc_isiT ha (by decide +kernel))) fun _ => ?_) fun H1 e => q H1 e
    have z := ev_chainI (p := fun i j => decide (i ≤ j)) (p' := fun i j => decide (i ≤ j)) (ev_var (σ := [some (.ref a), some (.int lo), some (.int hi)]) (H := H) (i := 1) rfl)
      (ev_cb (EvA.one (ev_var (i := 0) rfl)) (rc_lenT (K := K) (SqT.of ha))) (ev_var (i := 2) rfl)
    rw [decide_eq_true h1, decide_eq_true h2] at z
    exact z
theorem scIsRow : FnScope ["value", "goods", "heap"] ["value", "goods"] (defScope sIsRow) := ⟨rfl, rfl, rfl, by decide +kernel, rfl, by decide +kernel, by decide +kernel⟩
theorem ok_isRow (F : Fun K "is_row" "is_row" sIsRow f fd) (T : Nm mg) (cT : Cal P w K mg base 1 "tuple_of" ["value", "low", "high"] spTupleOf) (cW : Cal P w K mg base 2 "within" ["value", "low", "high"] spWithin) :
    FnOk P w K mg base CX0 3 f fd ["value", "goods"] spIsRow := by
  refine F.ok scIsRow (fun vs H Q E h => ?_) (fun cdv A outer s H vs Q E hr h => ?_)
  · obtain ⟨v, ns, rfl, _⟩ := h
    rfl
  · obtain ⟨v, ns, rfl, ⟨a, rfl, ha⟩, hh, hz, q⟩ := h
    obtain ⟨tmh, hmh⟩ := T.mh
    refine ⟨_, pss_one (ps_ret (pe_and (pe_cal cT hr (pa_cons (pv 0) (pa_cons (pv 1) (pa_cons (pv 1) pa_nil))))
      (pe_one (pe_callB (cr_all rfl) (by rfl) T.all (by decide +kernel) (pa_cons (pe_lc (own := [("heap", 2)]) (g := gName 2) (tt := tYes) rfl scIsRow.nd (pi_tup (pv 0)) (blkOk_by (N := ["value", "goods", "heap"]) (sc := defScope sIsRow) (by decide +kernel))
        (fun _ _ _ _ _ => pg_name (i := 2) scIsRow.nd rfl (Or.inl rfl)) (fun _ _ _ _ _ => pts_nil) (fun _ _ _ _ _ => pe_cal cW hr (pa_cons (pv 2) (pa_cons pe_int (pa_cons (pe_glob (v := .int 99) (by rfl) hmh ⟨_, rfl⟩) pa_nil))))) pa_nil))))), ?_⟩
    refine s_ret (v := .bl true) (ev_andV (a := true) (b := true) (ev_cal (ea_cons (ev_var rfl) (ea_cons (ev_var rfl) (EvA.one (ev_var rfl)))) fun H1 e Q k => ⟨a, _, _, _, rfl, e _ _ ha, ?_, ?_, k⟩) fun _ => ?_) fun H1 e => q H1 e
    · rw [List.length_map]
      exact Int.le_refl _
    · rw [List.length_map]
      exact Int.le_refl _
    · refine ev_cbP (ep_l (el_lcN (fun _ => true) (fun _ => .bl true) (ei_tup (ep_evr (ev_var rfl) fun H2 e => ⟨a, rfl, SqT.of (e _ _ ha)⟩)) (by rw [List.length_map]; omega) (fun x => rfl) fun i x H1 e hi hx => ⟨et_yes, fun _ => ?_⟩)) ?_
      · rw [List.getElem?_map] at hx
        obtain ⟨n, hn, rfl⟩ := Option.map_eq_some_iff.mp hx
        obtain ⟨b1, b2⟩ := hh n (List.mem_of_getElem? hn)
        exact ev_cal (ea_cons (ev_var rfl) (ea_cons ev_c (EvA.one ev_c))) fun H2 e2 Q k => ⟨n, 0, 99, rfl, b1, b2, k⟩
      · rintro v H1 e ⟨p, rfl, hp⟩ Q k
        rw [given_all] at hp
        refine ⟨p, List.replicate ns.length true, rfl, SqL.of ?_, ?_⟩
        · rw [hp, List.map_replicate, List.length_map]
          congr 2
          exact List.ext_getElem (by simp) fun i h1 h2 => by simp
        · have z : (List.replicate ns.length true).all id = true := by simp
          rw [z]
          exact k
end
end K38
set_option Elab.async false
set_option linter.all false
set_option maxRecDepth 100000
set_option maxHeartbeats 4100000
/-! K38D2: bad_row, need_table, is_order. -/
namespace K38
open PySem L2 Evl
section
variable {K : PySem.W.Frag} {σ : L2.St} {H : Hp} {ta te : TE} {x : V} {wi : L2.TI} {g : TG} {tb tz : TS} {D : Ends}
theorem ev_isN (h : Ev ta σ H x) : Ev (tIsN ta) σ H (.bl (decide (x = .non))) := fun H1 e Q q => h H1 e _ fun H2 e2 => q H2 e2
theorem ev_notN (h : Ev ta σ H x) : Ev (tNotN ta) σ H (.bl (!decide (x = .non))) := fun H1 e Q q => h H1 e _ fun H2 e2 => q H2 e2
theorem ev_isN_no (h : Ev ta σ H x) (hx : x ≠ .non) : Ev (tIsN ta) σ H (.bl false) := ev_is (ev_isN h) (by rw [decide_eq_false hx])
theorem ev_notN_no (h : Ev ta σ H .non) : Ev (tNotN ta) σ H (.bl false) := ev_is (ev_notN h) (by rw [decide_eq_true rfl] <;> rfl)
/-- a for whose turns only make things: S by the turn and the slots -/
theorem s_forI {n : Nat} {PI : Nat → V → Hp → Prop} (h : EvI wi σ H n PI) (S : Nat → L2.St → Prop) (h0 : S 0 σ)
    (turn : ∀ i x σ' H', Ex H H' → i < n → S i σ' → PI i x H' → ∀ N : L2.St → Hp → Prop, (∀ σ2 H2, S (i + 1) σ2 → Ex H' H2 → N σ2 H2) → g x σ' H' fun σ2 H2 => tb { D with nx := N, ct := N, bk := D.nx } σ2 H2)
    (hd : ∀ σ' H', S n σ' → Ex H H' → D.nx σ' H') : tFor wi g tb D σ H := h H (Ex.refl H) _ fun J G Y H1 e1 hG w hY =>
  for_it w (fun i σ' H' => S i σ' ∧ Ex H1 H') ⟨h0, Ex.refl H1⟩ (fun i σ' H' _ p => hG H' p.2)
    (fun i x σ' H2 H3 hi p y => by
      obtain ⟨e3, hp⟩ := hY i x H2 H3 hi p.2 y
      exact turn i x σ' H3 (e1.trans (p.2.trans e3)) hi p.1 hp _ fun σ2 H4 s e4 => ⟨s, (p.2.trans e3).trans e4⟩)
    fun σ' H' p => hd σ' H' p.1 (e1.trans p.2)
theorem q_forI {n : Nat} {PI : Nat → V → Hp → Prop} (h : EvI wi σ H n PI) (S : Nat → L2.St → Prop) (h0 : S 0 σ)
    (turn : ∀ i x σ' H', Ex H H' → i < n → S i σ' → PI i x H' → ∀ N : L2.St → Hp → Prop, (∀ σ2 H2, S (i + 1) σ2 → Ex H' H2 → N σ2 H2) → g x σ' H' fun σ2 H2 => tb { D with nx := N, ct := N, bk := tz D } σ2 H2)
    (hd : ∀ σ' H', S n σ' → Ex H H' → tz D σ' H') : tSeq (tFor wi g tb) tz D σ H := s_forI (D := { D with nx := tz D }) h S h0 turn hd
end
theorem evI_tup0 {K : PySem.W.Frag} {σ : L2.St} {H : Hp} {ta : TE} {a : Addr} {xs : List V} {j : Nat} {v : V} (h : Ev ta σ H (.ref a)) (ha : H a = some (.tup xs)) (hj : xs[j]? = some v) : Ev (tOp (rIxT K) ta (tC (.int (j : Int)))) σ H v :=
  ev_op h ev_c (rv_ixT (SqT.of ha) (atI_nat hj))
section
variable {P : Program} {w : World} {K : PySem.W.Frag} {mg : Str → Option Value} {base : Heap} {f : Addr} {fd : FuncData}
theorem scBadRow : FnScope ["table", "goods", "index", "row"] ["table"] (defScope sBadRow) := ⟨rfl, rfl, rfl, by decide +kernel, rfl, by decide +kernel, by decide +kernel⟩
theorem ok_badRow (F : Fun K "bad_row" "bad_row" sBadRow f fd) (T : Nm mg) (cT : Cal P w K mg base 1 "tuple_of" ["value", "low", "high"] spTupleOf) (cR : Cal P w K mg base 3 "is_row" ["value", "goods"] spIsRow) :
    FnOk P w K mg base CX0 4 f fd ["table"] spBadRow := by
  refine F.ok scBadRow (fun vs H Q E h => ?_) (fun cdv A outer s H vs Q E hr h => ?_)
  · obtain ⟨v, g, rows, rfl, _⟩ := h
    rfl
  · obtain ⟨v, g, rows, rfl, ⟨a, xs, rfl, ha, hrows⟩, wm, q⟩ := h
    obtain ⟨tg, hmg⟩ := T.mgd
    refine ⟨_, pss_cons (ps_set (i := 1) scBadRow.nd rfl (.inl rfl) (pe_ifExp (pt_val (pe_cal cT hr (pa_cons (pe_ix ix_tup (pv 0) pe_int (fun _ _ => rfl)) (pa_cons pe_int (pa_cons (pe_glob (v := .int 5) (by rfl) hmg ⟨_, rfl⟩) pa_nil)))))
        (pe_callB call_len_seq (by rfl) T.len PySem.boot_len (pa_cons (pe_ix ix_tup (pv 0) pe_int (fun _ _ => rfl)) pa_nil)) pe_non))
      (pss_cons (ps_for PassesOwn.never rfl (pi_enumT (by rfl) T.enum (pa_cons (pv 0) pa_nil)) (pg_tup rfl (pgs_cons (pg_name (i := 2) scBadRow.nd rfl (.inl rfl)) (pgs_cons (pg_name (i := 3) scBadRow.nd rfl (.inl rfl)) pgs_nil)))
          (pss_one (ps_if (PW.pt (pw_or (pt_cmp (pc_isN (pv 1))) (pw_or1 (pt_not (pt_val (pe_cal cR hr (pa_cons (pv 3) (pa_cons (pv 1) pa_nil)))))))) pss_never pss_nil)))
      (pss_one (ps_ret pe_non))), ?_⟩
    obtain ⟨r0, hr0⟩ : ∃ r, rows[0]? = some r := ⟨_, List.getElem?_eq_getElem (by have := wm.p1; omega)⟩
    obtain ⟨x0, hx0, ⟨b0, rfl, hb0⟩⟩ := hrows.at hr0
    obtain ⟨l0, _⟩ := wm.row r0 (List.mem_of_getElem? hr0)
    have g1 := wm.g1
    have g5 := wm.g5
    have hl0 : ((r0.map V.int).length : Int) = (g : Int) := by
      rw [List.length_map, l0]
    refine q_asg (v := .int (g : Int)) (ev_if (b := true) (et_B (ev_cal (ea_cons (evI_tup0 (K := K) (ev_var rfl) ha hx0) (ea_two (K := K) ev_c ev_c)) fun H1 e Q k => ⟨b0, _, 1, 5, rfl, e _ _ hb0, by omega, by omega, k⟩))
      (fun _ => ?_) (fun z => nomatch z)) fun H1 e1 => ?_
    · rw [← hl0]
      exact ev_cb (EvA.one (evI_tup0 (K := K) (ev_var rfl) ha hx0)) (rc_lenT (K := K) (SqT.of hb0))
    · refine q_forI (ei_enumT (K := K) (a := a) (xs := xs) (EvA.one (ev_var rfl)) (SqT.of (e1 _ _ ha))) (fun i σ => ∃ y z, σ = [some (.ref a), some (.int (g : Int)), y, z]) ⟨_, _, rfl⟩ ?_ ?_
      · rintro i x σ' H' e2 hi ⟨y, z, rfl⟩ ⟨T', row, rfl, hT, hrow⟩ N hN
        obtain ⟨r, hri⟩ : ∃ r, rows[i]? = some r := ⟨_, List.getElem?_eq_getElem (by rw [← hrows.1]; exact hi)⟩
        obtain ⟨b, rfl, hb⟩ := hrows.2 i row r hrow hri
        obtain ⟨lr, hh⟩ := wm.row r (List.mem_of_getElem? hri)
        refine ⟨T', _, rfl, SqT.of hT, rfl, _, _, rfl, _, _, rfl, rfl, ?_⟩
        refine s_when (b := false) (et_or (a := false) (b := false) (et_B (ev_isN_no (ev_var rfl) (fun z => nomatch z))) fun _ => et_not (a := true) (et_B (ev_cal (ea_two (K := K) (ev_var rfl) (ev_var rfl)) fun H3 e3 Q k => ⟨.ref b, r, ?_, ⟨b, rfl, e3 _ _ (e2 _ _ (e1 _ _ hb))⟩, hh, by omega, k⟩))) (fun z => nomatch z) fun _ H3 e3 => hN _ _ ⟨_, _, rfl⟩ e3
        rw [lr]
      · rintro σ' H' ⟨y, z, rfl⟩ e2
        exact s_ret ev_c fun H2 e3 => q H2 ((e1.trans e2).trans e3)
def spNeedTable : Sp := spBadRow
theorem scNeedTable : FnScope ["table", "index"] ["table"] (defScope sNeedTable) := ⟨rfl, rfl, rfl, by decide +kernel, rfl, by decide +kernel, by decide +kernel⟩
theorem ok_needTable (F : Fun K "need_table" "need_table" sNeedTable f fd) (T : Nm mg) (cT : Cal P w K mg base 1 "tuple_of" ["value", "low", "high"] spTupleOf) (cB : Cal P w K mg base 4 "bad_row" ["table"] spBadRow) :
    FnOk P w K mg base CX0 5 f fd ["table"] spNeedTable := by
  refine F.ok scNeedTable (fun vs H Q E h => ?_) (fun cdv A outer s H vs Q E hr h => ?_)
  · obtain ⟨v, g, rows, rfl, _⟩ := h
    rfl
  · obtain ⟨v, g, rows, rfl, ⟨a, xs, rfl, ha, hrows⟩, wm, q⟩ := h
    obtain ⟨tp, hmp⟩ := T.mp
    refine ⟨_, pss_cons (ps_if (pt_not (pt_val (pe_cal cT hr (pa_cons (pv 0) (pa_cons pe_int (pa_cons (pe_glob (v := .int 6) (by rfl) hmp ⟨_, rfl⟩) pa_nil)))))) pss_never pss_nil)
      (pss_cons (ps_set (i := 1) scNeedTable.nd rfl (.inl rfl) (pe_cal cB hr (pa_cons (pv 0) pa_nil)))
      (pss_one (ps_if (pt_cmp (pc_notN (pv 1))) pss_never pss_nil))), ?_⟩
    have p1 := wm.p1
    have p6 := wm.p6
    have hl := hrows.1
    refine q_when (b := false) (et_not (a := true) (et_B (ev_cal (ea_cons (ev_var rfl) (ea_two (K := K) ev_c ev_c)) fun H1 e Q k => ⟨a, xs, 1, 6, rfl, e _ _ ha, by omega, by omega, k⟩))) (fun z => nomatch z) fun _ H1 e1 => ?_
    refine q_asg (ev_cal (EvA.one (ev_var rfl)) fun H2 e2 Q k => ⟨.ref a, g, rows, rfl, ⟨a, xs, rfl, e2 _ _ (e1 _ _ ha), hrows.up (e1.trans e2)⟩, wm, k⟩) fun H2 e2 => ?_
    exact s_when (b := false) (et_B (ev_notN_no (ev_var rfl))) (fun z => nomatch z) fun _ H3 e3 => q H3 ((e1.trans e2).trans e3)
theorem rg_sorted (n : Nat) : (rg n).Pairwise (· ≤ ·) := by
  unfold rg
  refine List.pairwise_map.mpr (List.Pairwise.imp (fun {a b} (h : a < b) => ?_) List.pairwise_lt_range)
  omega
theorem rgV_eq (n : Nat) : rgV 0 (n : Int) = (rg n).map V.int := by
  unfold rgV rg
  rw [List.map_map]
  have e : ((n : Int) - 0).toNat = n := by omega
  rw [e]
  refine List.map_congr_left fun i _ => ?_
  show V.int (0 + (i : Int)) = V.int (i : Int)
  rw [Int.zero_add]
theorem el_listRg {K : PySem.W.Frag} {σ : L2.St} {H : Hp} {ta : TE} {n : Nat} (h : Ev ta σ H (.int (n : Int))) (hn : n ≤ 100000) : EvL (tLstRg (tRg1 ta)) σ H ((rg n).map V.int) := fun H1 e Q q =>
  h H1 e _ fun H2 e2 => ⟨_, rfl, RgOk.of_le (by omega) (by omega) (by omega) (by omega), fun p hp => by
    rw [rgV_eq]
    exact q p _ (fresh_back e2 hp) (e2.trans (Ex.new hp)) upd_same⟩
theorem scIsOrder : FnScope ["value", "many", "told"] ["value", "many"] (defScope sIsOrder) := ⟨rfl, rfl, rfl, by decide +kernel, rfl, by decide +kernel, by decide +kernel⟩
theorem ok_isOrder (F : Fun K "is_order" "is_order" sIsOrder f fd) (T : Nm mg) (cT : Cal P w K mg base 1 "tuple_of" ["value", "low", "high"] spTupleOf) (cW : Cal P w K mg base 1 "whole" ["value"] spWhole) :
    FnOk P w K mg base CX0 2 f fd ["value", "many"] spIsOrder := by
  refine F.ok scIsOrder (fun vs H Q E h => ?_) (fun cdv A outer s H vs Q E hr h => ?_)
  · obtain ⟨v, ns, rfl, _⟩ := h
    rfl
  · obtain ⟨v, ns, rfl, ⟨a, rfl, ha⟩, hp, hz, q⟩ := h
    refine ⟨_, pss_one (ps_ret (pe_and (pe_cal cT hr (pa_cons (pv 0) (pa_cons (pv 1) (pa_cons (pv 1) pa_nil))))
      (pe_and (pe_callB (cr_all rfl) (by rfl) T.all (by decide +kernel) (pa_cons (pe_lc (own := [("told", 2)]) (g := gName 2) (tt := tYes) rfl scIsOrder.nd (pi_tup (pv 0)) (blkOk_by (N := ["value", "many", "told"]) (sc := defScope sIsOrder) (by decide +kernel))
        (fun _ _ _ _ _ => pg_name (i := 2) scIsOrder.nd rfl (Or.inl rfl)) (fun _ _ _ _ _ => pts_nil) (fun _ _ _ _ _ => pe_cal cW hr (pa_cons (pv 2) pa_nil))) pa_nil))
      (pe_one (pe_cmpR (op_eqD hr.units) (pe_callB cr_soTI (by rfl) T.sorted (by decide +kernel) (pa_cons (pv 0) pa_nil)) (pe_listRg rfl (by rfl) T.list (prg_1 (by rfl) T.range (pv 1))) (nomark _)))))), ?_⟩
    refine s_ret (v := .bl true) (ev_andV (a := true) (b := true) (ev_cal (ea_cons (ev_var rfl) (ea_two (K := K) (ev_var rfl) (ev_var rfl))) fun H1 e Q k => ⟨a, _, _, _, rfl, e _ _ ha, ?_, ?_, k⟩)
      fun _ => ev_andV (a := true) (b := true) ?_ fun _ => ?_) fun H1 e => q H1 e
    · rw [List.length_map]
      exact Int.le_refl _
    · rw [List.length_map]
      exact Int.le_refl _
    · refine ev_cbP (ep_l (el_lcN (fun _ => true) (fun _ => .bl true) (ei_tup (ep_evr (ev_var rfl) fun H2 e => ⟨a, rfl, SqT.of (e _ _ ha)⟩)) (by rw [List.length_map]; omega) (fun x => rfl) fun i x H1 e hi hx => ⟨et_yes, fun _ => ?_⟩)) ?_
      · rw [List.getElem?_map] at hx
        obtain ⟨n, hn, rfl⟩ := Option.map_eq_some_iff.mp hx
        exact ev_cal (EvA.one (ev_var rfl)) fun H2 e2 Q k => ⟨n, rfl, k⟩
      · rintro v H1 e ⟨p, rfl, hp⟩ Q k
        rw [given_all] at hp
        refine ⟨p, List.replicate ns.length true, rfl, SqL.of ?_, ?_⟩
        · rw [hp, List.map_replicate, List.length_map]
          congr 2
          exact List.ext_getElem (by simp) fun i h1 h2 => by simp
        · have z : (List.replicate ns.length true).all id = true := by simp
          rw [z]
          exact k
    · refine ev_opP (Pa := fun v H => ∃ p, v = .ref p ∧ H p = some (.lst ((rg ns.length).map V.int))) (Pb := fun v H => ∃ p, v = .ref p ∧ H p = some (.lst ((rg ns.length).map V.int))) ?_ (ep_l (el_listRg (K := K) (ev_var rfl) (by omega)))
        (fun v H1 H2 e h => h.imp fun p z => ⟨z.1, e _ _ z.2⟩) ?_
      · intro H1 e Q k
        refine ⟨.ref a, rfl, a, ns, rfl, SqT.of (e _ _ ha), fun ms p hms hso np => k _ _ (Ex.new np) ⟨p, rfl, ?_⟩⟩
        rw [upd_same, List.Perm.eq_of_pairwise (fun x y _ _ h1 h2 => Int.le_antisymm h1 h2) hso (rg_sorted ns.length) (hms.trans hp)]
      · rintro x y H1 e ⟨p, rfl, hp1⟩ ⟨p', rfl, hp2⟩
        have z := rv_eqL (K := K) (SqL.of hp1) (SqL.of hp2)
        rw [decide_eq_true rfl] at z
        exact z
end
end K38
set_option Elab.async false
set_option linter.all false
set_option maxRecDepth 100000
set_option maxHeartbeats 4100000
/-! K38K: rules that name the written part K apart from the context, for use within comprehensions. -/
namespace K38
open PySem L2 Evl
section
variable {X : Cx} {K : PySem.W.Frag} (hK : X.K = K)
include hK
theorem k_ixT : IxR X (rIxT K) := hK ▸ ix_tup
theorem k_ixL : IxR X (rIxL K) := hK ▸ ix_list
theorem k_len : CallR X (.builtin "len") (rLenS K) := hK ▸ call_len_seq
theorem k_notIn : OpR X (compareOp .NotIn) (rIn K true) := hK ▸ op_notIn_seq
theorem k_slT : SlR X (rSlA K) := hK ▸ sl_tupA
theorem k_pit {tg l : Expr} {tl : TE} (hl : PE X l tl) : PI X tg l (iTup K tl) := hK ▸ pi_tup hl
theorem k_pil {tg l : Expr} {tl : TE} (hl : PE X l tl) : PI X tg l (iList K tl) := hK ▸ pi_list hl
theorem k_lcount : MtR X "list.count" (rCntI K) := hK ▸ mt_lcount
theorem k_cat : OpR X (binaryOp .Add) (rCatA K) := hK ▸ op_catA
theorem k_pe {e : Expr} (r : PySem.W.Frag → TE) (h : PE X e (r X.K)) : PE X e (r K) := hK ▸ h
end
end K38
set_option Elab.async false
set_option linter.all false
set_option maxRecDepth 100000
set_option maxHeartbeats 4100000
/-! K38D3: need_twos, order_of, order. -/
namespace K38
open PySem L2 Evl
/-! ### dict comprehensions over a tuple, all keys unlike -/
section
variable {K : PySem.W.Frag} {σ : L2.St} {H : Hp} {tl tk tv : TE} {z : V}
def kvsAt (ks : Nat → Key) (z : V) (i : Nat) : List (Key × V) := (List.range i).map fun m => (ks m, z)
theorem kvsAt_put {ks : Nat → Key} {z : V} {i : Nat} (h : ∀ m, m < i → ks m ≠ ks i) : putK (kvsAt ks z i) (ks i) z = kvsAt ks z (i + 1) := by
  have hn : valV (kvsAt ks z i) (ks i) = none := by
    unfold valV kvsAt
    rw [Option.map_eq_none_iff, List.find?_eq_none]
    intro p hp
    obtain ⟨m, hm, rfl⟩ := List.mem_map.mp hp
    simp [h m (List.mem_range.mp hm)]
  rw [putK_new z hn]
  unfold kvsAt
  rw [List.range_succ, List.map_append]
  rfl
theorem ep_dcT {a : Addr} {xs : List V} {vs : List Nat} {j : Nat} (hl : Ev tl σ H (.ref a)) (ha : H a = some (.tup xs)) (hz : xs.length ≤ 1000) (ks : Nat → Key) (hks : ∀ i m, m < i → i < xs.length → ks m ≠ ks i)
    (hw : ∀ x, wipe ((wipe σ vs).set j (some x)) vs = wipe σ vs)
    (turn : ∀ i x H1, Ex H H1 → xs[i]? = some x → Ev tk ((wipe σ vs).set j (some x)) H1 (kV (ks i)) ∧ Ev tv ((wipe σ vs).set j (some x)) H1 z) :
    EvP (tDc (iTup K tl) (gName j) tYes tk tv vs) σ H (fun x H => ∃ p kvs, x = .ref p ∧ H p = some (.dK kvs) ∧ kvs.length = xs.length) := fun H0 e Q q =>
  hl H0 e _ fun H1 e1 => ⟨a, rfl, ⟨xs, SqT.of ((e.trans e1) _ _ ha)⟩, fun D hD =>
    dc_tup (K := K) (a := a) (xs := xs) (fun i H' => Ex H1 H' ∧ H' D = some (.dK (kvsAt ks z i))) ⟨Ex.new hD, upd_same⟩ (fun i H' _ p => SqT.of (p.1 _ _ ((e.trans e1) _ _ ha)))
      (fun i x H2 hx p => ⟨hw x, ((turn i x H2 ((e.trans e1).trans p.1) hx).1 H2 (Ex.refl H2) _ fun H3 e3 => (turn i x H2 ((e.trans e1).trans p.1) hx).2 H3 e3 _ fun H4 e4 => by
        have hi : i < xs.length := (List.getElem?_eq_some_iff.mp hx).1
        refine ⟨_, ks i, rfl, e4 D _ (e3 D _ p.2), ?_, Ex.mut ((p.1.trans e3).trans e4) hD, ?_⟩
        · unfold kvsAt
          simp only [List.length_map, List.length_range]
          exact Nat.lt_of_lt_of_le (show i < 1001 by omega) (by decide)
        · rw [upd_same, kvsAt_put fun m hm => hks i m hm hi])⟩)
      fun H' p => q _ H' (e1.trans p.1) ⟨D, _, rfl, p.2, by unfold kvsAt; rw [List.length_map, List.length_range]⟩⟩
end
/-! ### tables of pairs -/
def pr (p : Int × Int) : List Int := [p.1, p.2]
/-- two goods, unlike heaps -/
structure Twos (ps : List (Int × Int)) : Prop where
  wm : WellMade 2 (ps.map pr)
  n1 : (ps.map Prod.fst).Nodup
  n2 : (ps.map Prod.snd).Nodup
def spNeedTwos : Sp := fun vs H Q _ => ∃ (v : V) (ps : List (Int × Int)), vs = [v] ∧ Tab H v (ps.map pr) ∧ Twos ps ∧ Gives .non H Q
theorem nodup_ne {l : List Int} (h : l.Nodup) {m i : Nat} (hmi : m < i) (hi : i < l.length) : l.getD m 0 ≠ l.getD i 0 := by
  rw [List.getD_eq_getElem?_getD, List.getD_eq_getElem?_getD, List.getElem?_eq_getElem hi, List.getElem?_eq_getElem (Nat.lt_trans hmi hi)]
  exact (List.pairwise_iff_getElem.mp h) m i _ hi hmi
section
variable {P : Program} {w : World} {K : PySem.W.Frag} {mg : Str → Option Value} {base : Heap} {f : Addr} {fd : FuncData}
theorem scNeedTwos : FnScope ["table", "good", "row"] ["table"] (defScope sNeedTwos) := ⟨rfl, rfl, rfl, by decide +kernel, rfl, by decide +kernel, by decide +kernel⟩
theorem ok_needTwos (F : Fun K "need_twos" "need_twos" sNeedTwos f fd) (T : Nm mg) (cN : Cal P w K mg base 5 "need_table" ["table"] spNeedTable) :
    FnOk P w K mg base CX0 6 f fd ["table"] spNeedTwos := by
  refine F.ok scNeedTwos (fun vs H Q E h => ?_) (fun cdv A outer s H vs Q E hr h => ?_)
  · obtain ⟨v, ps, rfl, _⟩ := h
    rfl
  · obtain ⟨v, ps, rfl, ⟨a, xs, rfl, ha, hrows⟩, tw, q⟩ := h
    refine ⟨_, pss_cons (ps_expr (pe_cal cN hr (pa_cons (pv 0) pa_nil)))
      (pss_one (ps_if (PW.pt (pw_or (pt_cmpR op_ne (pe_callB call_len_seq (by rfl) T.len PySem.boot_len (pa_cons (pe_ix ix_tup (pv 0) pe_int (fun _ _ => rfl)) pa_nil)) pe_int (nomark _))
        (pw_or1 (pt_val (pe_callB (cr_any rfl) (by rfl) T.any (by decide +kernel) (pa_cons
          (pe_lc (own := [("good", 1)]) (g := gName 1) (tt := tYes) rfl scNeedTwos.nd (pi_tup (pe_tup (pa_cons pe_int (pa_cons pe_int pa_nil)))) (blkOk_by (N := ["table", "good", "row"]) (sc := defScope sNeedTwos) (by decide +kernel))
            (fun _ _ _ _ _ => pg_name (i := 1) scNeedTwos.nd rfl (Or.inr rfl)) (fun _ _ _ _ _ => pts_nil)
            (fun _ _ _ _ _ => pe_cmpR op_lt (pe_callB call_lenD (by rfl) T.len PySem.boot_len (pa_cons
                (pe_dc (own := [("row", 2)]) (g := gName 2) (tt := tYes) rfl scNeedTwos.nd (k_pit (K := K) rfl (pv 0)) (blkOk_by (N := ["table", "good", "row"]) (by kernel_rfl))
                  (fun _ _ _ _ _ => pg_name (i := 2) scNeedTwos.nd rfl (Or.inl rfl)) (fun _ _ _ _ _ => pts_nil) (fun _ _ _ _ _ => pe_ix (k_ixT (K := K) rfl) (pv 2) (pv 1) (fun _ _ => rfl)) (fun _ _ _ _ _ => pe_bl)) pa_nil))
              (pe_callB (k_len (K := K) rfl) (by rfl) T.len PySem.boot_len (pa_cons (pv 0) pa_nil)) (nomark _))) pa_nil)))))) pss_never pss_nil)), ?_⟩
    have p1 := tw.wm.p1
    have p6 := tw.wm.p6
    have hl := hrows.1
    rw [List.length_map] at p1 p6 hl
    have get : ∀ (i : Nat) (x : V), xs[i]? = some x → ∃ b, x = .ref b ∧ i < ps.length ∧ H b = some (.tup [.int ((ps.map Prod.fst).getD i 0), .int ((ps.map Prod.snd).getD i 0)]) := fun i x hx => by
      have hi : i < ps.length := by
        rw [← hl]
        exact (List.getElem?_eq_some_iff.mp hx).1
      obtain ⟨b, rfl, hb⟩ := hrows.2 i x (pr ps[i]) hx (by rw [List.getElem?_map, List.getElem?_eq_getElem hi]; rfl)
      refine ⟨b, rfl, hi, ?_⟩
      rw [hb, List.getD_eq_getElem?_getD, List.getD_eq_getElem?_getD, List.getElem?_map, List.getElem?_map, List.getElem?_eq_getElem hi]
      rfl
    obtain ⟨x0, hx0⟩ : ∃ x, xs[0]? = some x := ⟨_, List.getElem?_eq_getElem (by omega)⟩
    obtain ⟨b0, rfl, _, hb0⟩ := get 0 x0 hx0
    refine q_drop (ev_cal (EvA.one (ev_var rfl)) fun H1 e Q k => ⟨.ref a, 2, ps.map pr, rfl, ⟨a, xs, rfl, e _ _ ha, hrows.up e⟩, tw.wm, k⟩) fun H1 e1 => ?_
    refine s_when (b := false) (et_or (a := false) (b := false) (et_test (ev_is (ev_op (ev_cb (EvA.one (evI_tup0 (K := K) (ev_var rfl) (e1 _ _ ha) hx0)) (rc_lenT (K := K) (SqT.of (e1 _ _ hb0)))) ev_c (rv_ne rfl)) ?_)) fun _ => et_B ?_) (fun z => nomatch z) fun _ H2 e2 => q H2 (e1.trans e2)
    · show V.bl (!decide (V.int 2 = V.int 2)) = V.bl false
      rw [decide_eq_true rfl]
      rfl
    · refine ev_cbP (ep_l (el_lcN (fun _ => true) (fun _ => .bl false) (ei_tup (xs := [.int 0, .int 1]) ((ep_u (eu_tup (ea_two (K := K) ev_c ev_c) (by decide))).imp fun v H2 e ⟨p, ev, hp⟩ => ⟨p, ev, SqT.of hp⟩)) (by decide) (fun x => rfl) fun i x H2 e2 hi hx => ⟨et_yes, fun _ => ?_⟩)) ?_
      · obtain ⟨ns, hns, hnd, hgood⟩ : ∃ (g : Nat) (col : List Int), (col.Nodup ∧ col.length = ps.length) ∧ x = .int (g : Int) ∧ ∀ (i : Nat) (y : V), xs[i]? = some y → ∃ b us, y = .ref b ∧ i < ps.length ∧ H b = some (.tup us) ∧ us[g]? = some (.int (col.getD i 0)) := by
          match i, hi, hx with
          | 0, _, hx =>
            cases Option.some.inj hx
            exact ⟨0, ps.map Prod.fst, ⟨tw.n1, List.length_map _⟩, rfl, fun i y hy => by
              obtain ⟨b, h1, h2, h3⟩ := get i y hy
              exact ⟨b, _, h1, h2, h3, rfl⟩⟩
          | 1, _, hx =>
            cases Option.some.inj hx
            exact ⟨1, ps.map Prod.snd, ⟨tw.n2, List.length_map _⟩, rfl, fun i y hy => by
              obtain ⟨b, h1, h2, h3⟩ := get i y hy
              exact ⟨b, _, h1, h2, h3, rfl⟩⟩
        obtain ⟨rfl, hcol⟩ := hgood
        refine ev_is (v := .bl (decide ((xs.length : Int) < (xs.length : Int)))) (ev_op (r := rI0 fun i j => .bl (decide (i < j)))
          (ev_cbP (z := .int (xs.length : Int)) (rr := fun us H Q => ∃ a kvs, us = [V.ref a] ∧ H a = some (.dK kvs) ∧ Q (.int kvs.length) H)
            (ep_dcT (K := K) (z := .bl true) (a := a) (xs := xs) (ev_var rfl) (e2 _ _ (e1 _ _ ha)) (by omega) (fun m => .inl (hns.getD m 0)) (fun i m h1 h2 h3 => nodup_ne hnd.1 h1 (by omega) (Sum.inl.inj h3)) (fun x => rfl)
              fun i y H3 e3 hy => ⟨by
                obtain ⟨b, us, rfl, h2, h3, h4⟩ := hcol i y hy
                exact ev_op (ev_var rfl) (ev_var rfl) (rv_ixT (SqT.of (e3 _ _ (e2 _ _ (e1 _ _ h3)))) (atI_nat h4)), ev_c⟩)
            (fun v H3 e3 ⟨p, kvs, h1, h2, h3⟩ Q k => ⟨p, kvs, by rw [h1], h2, by rw [h3]; exact k⟩))
          (ev_cb (EvA.one (ev_var rfl)) (rc_lenT (K := K) (SqT.of (e2 _ _ (e1 _ _ ha))))) rv_I0) ?_
        rw [decide_eq_false (Int.lt_irrefl _)]
      · rintro v H2 e2 ⟨p, rfl, hp⟩ Q k
        exact ⟨p, [false, false], rfl, SqL.of hp, k⟩
end
end K38
set_option Elab.async false
set_option linter.all false
set_option maxRecDepth 100000
set_option maxHeartbeats 4100000
/-! K38D4: order_of, order. -/
namespace K38
open PySem L2 Evl
theorem count_range {α : Type} (p : α → Bool) (d : α) (l : List α) : ((List.range l.length).filter fun m => p (l.getD m d)).length = l.countP p := by
  have e : l = (List.range l.length).map fun m => l.getD m d := by
    refine List.ext_getElem (by simp) (fun i h1 h2 => ?_)
    rw [List.getElem_map, List.getElem_range, List.getD_eq_getElem?_getD, List.getElem?_eq_getElem h1]
    rfl
  rw [← List.countP_eq_length_filter]
  conv => rhs; rw [e, List.countP_map]
  rfl
section
variable {K : PySem.W.Frag} {σ : L2.St} {H : Hp} {ta te : TE} {g : TG} {wi : L2.TI} {tz : TS} {D : Ends} {P : V → Hp → Prop}
theorem q_asgP {i : Nat} (h : EvP te σ H P) (k : ∀ v H1, Ex H H1 → P v H1 → tz D (σ.set i (some v)) H1) : tSeq (tAsg te (gName i)) tz D σ H := h H (Ex.refl H) _ k
theorem s_retP (h : EvP te σ H P) (k : ∀ v H1, Ex H H1 → P v H1 → D.rt v H1) : tRet te D σ H := h H (Ex.refl H) _ k
/-- tuple(a new list) -/
def rTupOf (K : PySem.W.Frag) : List V → Hp → VK → Prop := fun xs H Q => ∃ p ys, xs = [.ref p] ∧ ((SqL K H p ys ∧ ∀ l, H l = none → Q (.ref l) (upd H l (.tup ys))) ∨ (SqT K H p ys ∧ Q (.ref p) H))
theorem ep_tupOf {xs : List V} (h : EvP te σ H (fun v H => ∃ p, v = .ref p ∧ H p = some (.lst xs))) : EvP (tCB (rTupOf K) (tCons te tNil)) σ H (fun v H => ∃ p, v = .ref p ∧ H p = some (.tup xs)) := fun H1 e Q q =>
  h H1 e _ fun v H2 e2 ⟨p, ev, hp⟩ => ⟨p, xs, by rw [ev], .inl ⟨SqL.of hp, fun l hl => q _ _ (e2.trans (Ex.new hl)) ⟨l, rfl, upd_same⟩⟩⟩
theorem k_tupOf {X : Cx} {K : PySem.W.Frag} (hK : X.K = K) : CallR X (.type "tuple") (rTupOf K) := hK ▸ call_tuple_of
theorem given_len_f (n : Nat) (f : Nat → Bool) (v : Nat → V) : (given n f v).length = ((List.range n).filter f).length := by
  unfold given
  rw [List.length_map]
end
/-! ### rows of a table, sorted, the greatest first -/
theorem lexB_anti {p q : Int × Int} (h1 : SrtO.lexB p q = false) (h2 : SrtO.lexB q p = false) : p = q := by
  have a := SrtO.lexB_no.mp h1
  have b := SrtO.lexB_no.mp h2
  refine Prod.ext ?_ ?_ <;> omega
def kOf (H : Hp) : V → Int × Int
  | .ref a => match H a with
    | some (.tup [.int x, .int y]) => (x, y)
    | _ => (0, 0)
  | _ => (0, 0)
theorem kOf_at {H : Hp} {a : Addr} {p : Int × Int} (h : H a = some (.tup ((pr p).map V.int))) : kOf H (.ref a) = p := by
  show (match H a with
    | some (.tup [.int x, .int y]) => (x, y)
    | _ => (0, 0)) = p
  rw [h]
  rfl
theorem rows_k {H : Hp} {xs : List V} {ps : List (Int × Int)} (h : Rows H xs (ps.map pr)) : xs.map (kOf H) = ps ∧ ∀ x ∈ xs, ∃ t, x = V.ref t ∧ H t = some (.tup ((pr (kOf H x)).map V.int)) := by
  have hl : xs.length = ps.length := by rw [h.1, List.length_map]
  have at_ : ∀ (i : Nat) (hi : i < xs.length), ∃ t, xs[i] = V.ref t ∧ H t = some (.tup ((pr (ps[i]'(hl ▸ hi))).map V.int)) := fun i hi => by
    obtain ⟨b, e, hb⟩ := h.2 i xs[i] (pr (ps[i]'(hl ▸ hi))) (List.getElem?_eq_getElem hi) (by rw [List.getElem?_map, List.getElem?_eq_getElem (hl ▸ hi)]; rfl)
    exact ⟨b, e, hb⟩
  refine ⟨List.ext_getElem (by rw [List.length_map, hl]) fun i h1 h2 => ?_, fun x hx => ?_⟩
  · rw [List.getElem_map]
    obtain ⟨t, e, ht⟩ := at_ i (hl ▸ h2)
    rw [e, kOf_at ht]
  · obtain ⟨i, hi, rfl⟩ := List.mem_iff_getElem.mp hx
    obtain ⟨t, e, ht⟩ := at_ i hi
    refine ⟨t, e, ?_⟩
    rw [e, kOf_at ht, ht]
theorem rows_of {H : Hp} {xs : List V} {ps : List (Int × Int)} {k : V → Int × Int} (h1 : xs.map k = ps) (h2 : ∀ x ∈ xs, ∃ t, x = V.ref t ∧ H t = some (.tup ((pr (k x)).map V.int))) : Rows H xs (ps.map pr) := by
  subst h1
  refine ⟨by rw [List.length_map, List.length_map], fun i x r hx hr => ?_⟩
  rw [List.getElem?_map, List.getElem?_map, hx] at hr
  cases Option.some.inj hr
  exact h2 x (List.mem_of_getElem? hx)
/-- the greatest rows first -/
def Desc (ps : List (Int × Int)) : Prop := SrtO.Srtd SrtO.lexB ps.reverse
theorem ep_sortRev {K : PySem.W.Frag} {σ : L2.St} {H : Hp} {ta : TE} {a : Addr} {xs : List V} {ps : List (Int × Int)} (h : Ev ta σ H (.ref a)) (ha : H a = some (.tup xs)) (hr : Rows H xs (ps.map pr)) (hd : Desc ps) :
    EvP (tRevL K (tCB (rSoTP K) (tCons ta tNil))) σ H (fun v H => ∃ p zs, v = .ref p ∧ H p = some (.lst zs) ∧ Rows H zs (ps.map pr)) := fun H1 e Q q => by
  obtain ⟨k1, k2⟩ := rows_k hr
  refine h H1 e _ fun H2 e2 => ⟨a, xs, kOf H, rfl, SqT.of ((e.trans e2) _ _ ha), fun x hx => ?_, fun ys p hso hpe np => ?_⟩
  · obtain ⟨t, h1, h2⟩ := k2 x hx
    exact ⟨t, h1, (e.trans e2) _ _ h2⟩
  · refine ⟨p, ys, rfl, SqL.of upd_same, fun p2 np2 => q _ _ ((e2.trans (Ex.new np)).trans (Ex.new np2)) ⟨p2, ys.reverse, rfl, upd_same, ?_⟩⟩
    have e3 := (e.trans e2).trans ((Ex.new (o := .lst ys) np).trans (Ex.new (o := .lst ys.reverse) np2))
    refine rows_of (k := kOf H) ?_ fun x hx => ?_
    · have z : ys.map (kOf H) = ps.reverse := by
        refine List.Perm.eq_of_pairwise (fun x y _ _ h1 h2 => lexB_anti h2 h1) (SrtO.srtd_map (lt := SrtO.lexB) hso) hd ?_
        have w := (hpe.map (kOf H))
        rw [k1] at w
        exact w.trans (List.reverse_perm ps).symm
      rw [List.map_reverse, z, List.reverse_reverse]
    · obtain ⟨t, h1, h2⟩ := k2 x (hpe.mem_iff.mp (List.mem_reverse.mp hx))
      exact ⟨t, h1, e3 _ _ h2⟩
def ordM (ps : List (Int × Int)) : List Int := ps.map fun r => ((ps.countP fun t => decide (r.2 < t.2) : Nat) : Int)
def spOrderOf : Sp := fun vs H Q _ => ∃ (v : V) (ps : List (Int × Int)), vs = [v] ∧ Tab H v (ps.map pr) ∧ Desc ps ∧ ps.length ≤ 100 ∧ GivesP (fun v H => Tup H v (ordM ps)) H Q
section
variable {P : Program} {w : World} {K : PySem.W.Frag} {mg : Str → Option Value} {base : Heap} {f : Addr} {fd : FuncData}
theorem scOrderOf : FnScope ["table", "rows", "row", "told"] ["table"] (defScope sOrderOf) := ⟨rfl, rfl, rfl, by decide +kernel, rfl, by decide +kernel, by decide +kernel⟩
theorem ok_orderOf (F : Fun K "order_of" "order_of" sOrderOf f fd) (T : Nm mg) : FnOk P w K mg base CX0 1 f fd ["table"] spOrderOf := by
  refine F.ok scOrderOf (fun vs H Q E h => ?_) (fun cdv A outer s H vs Q E hr h => ?_)
  · obtain ⟨v, ps, rfl, _⟩ := h
    rfl
  · obtain ⟨v, ps, rfl, ⟨a, xs, rfl, ha, hrows⟩, hd, hz, q⟩ := h
    refine ⟨_, pss_cons (ps_set (i := 1) scOrderOf.nd rfl (.inr rfl) (pe_revL (pe_callB cr_soTP (by rfl) T.sorted (by decide +kernel) (pa_cons (pv 0) pa_nil))))
      (pss_one (ps_ret (pe_callTy (k_tupOf (K := K) rfl) (by rfl) T.tuple PyProof.Rows.boot_tuple (pa_cons
        (pe_lc (own := [("row", 2)]) (g := gName 2) (tt := tYes) rfl scOrderOf.nd (pi_list (pv 1)) (blkOk_by (N := ["table", "rows", "row", "told"]) (sc := defScope sOrderOf) (by decide +kernel))
          (fun _ _ _ _ _ => pg_name (i := 2) scOrderOf.nd rfl (Or.inr rfl)) (fun _ _ _ _ _ => pts_nil)
          (fun _ _ _ _ _ => pe_callB (k_len (K := K) rfl) (by rfl) T.len PySem.boot_len (pa_cons
            (pe_lc (own := [("told", 3)]) (g := gName 3) rfl scOrderOf.nd (k_pil (K := K) rfl (pv 1)) (blkOk_by (N := ["table", "rows", "row", "told"]) (by kernel_rfl))
              (fun _ _ _ _ _ => pg_name (i := 3) scOrderOf.nd rfl (Or.inl rfl))
              (fun _ _ _ _ _ => pts_one (pt_cmpR op_gt (pe_ix (k_ixT (K := K) rfl) (pv 3) pe_int (fun _ _ => rfl)) (pe_ix (k_ixT (K := K) rfl) (pv 2) pe_int (fun _ _ => rfl)) (nomark _)))
              (fun _ _ _ _ _ => pv 3)) pa_nil))) pa_nil)))), ?_⟩
    refine q_asgP (ep_sortRev (K := K) (ev_var rfl) ha hrows hd) fun v H1 e1 ⟨p, zs, ev, hp, hzs⟩ => ?_
    subst ev
    have hl : zs.length = ps.length := by rw [hzs.1, List.length_map]
    have get : ∀ (i : Nat) (x : V), zs[i]? = some x → ∃ b, x = .ref b ∧ H1 b = some (.tup [.int (ps.getD i (0, 0)).1, .int (ps.getD i (0, 0)).2]) := fun i x hx => by
      have hi : i < ps.length := by
        rw [← hl]
        exact (List.getElem?_eq_some_iff.mp hx).1
      obtain ⟨b, rfl, hb⟩ := hzs.2 i x (pr ps[i]) hx (by rw [List.getElem?_map, List.getElem?_eq_getElem hi]; rfl)
      refine ⟨b, rfl, ?_⟩
      rw [hb, List.getD_eq_getElem?_getD, List.getElem?_eq_getElem hi]
      rfl
    refine s_retP (ep_tupOf (K := K) (ep_l (el_lcN (fun _ => true) (fun i => .int ((ps.countP fun t => decide ((ps.getD i (0, 0)).2 < t.2) : Nat) : Int)) (ei_list (xs := zs) (ep_evr (ev_var rfl) fun H2 e => ⟨p, rfl, SqL.of (e _ _ hp)⟩)) (by omega) (fun x => rfl) fun i x H2 e2 hi hx => ⟨et_yes, fun _ => ?_⟩))) fun v H2 e2 ⟨p2, ev, hp2⟩ => q v H2 (e1.trans e2) ⟨p2, ev, ?_⟩
    · obtain ⟨b, rfl, hb⟩ := get i x hx
      refine ev_cbP (ep_l (el_lcN (fun m => decide ((ps.getD i (0, 0)).2 < (ps.getD m (0, 0)).2)) (fun m => zs.getD m .non) (ei_list (K := K) (xs := zs) (ep_evr (ev_var rfl) fun H3 e => ⟨p, rfl, SqL.of (e _ _ (e2 _ _ hp))⟩)) (by omega) (fun x => rfl) fun m y H3 e3 hm hy => ⟨?_, fun _ => ?_⟩)) ?_
      · obtain ⟨c, rfl, hc⟩ := get m y hy
        exact et_test (ev_op (r := rI0 fun i j => .bl (decide (j < i))) (ev_op (ev_var rfl) ev_c (rv_ixT (K := K) (SqT.of (e3 _ _ (e2 _ _ hc))) (atI_nat (j := 1) rfl))) (ev_op (ev_var rfl) ev_c (rv_ixT (K := K) (SqT.of (e3 _ _ (e2 _ _ hb))) (atI_nat (j := 1) rfl))) rv_I0)
      · refine ev_is (ev_var rfl) ?_
        rw [List.getD_eq_getElem?_getD, hy]
        rfl
      · rintro v H3 e3 ⟨p3, rfl, hp3⟩ Q k
        refine ⟨p3, _, rfl, .inl (SqL.of hp3), ?_⟩
        rw [given_len_f, hl, count_range (fun t => decide ((ps.getD i (0, 0)).2 < t.2)) (0, 0) ps]
        exact k
    · rw [hp2, given_all, hl]
      congr 2
      unfold ordM
      rw [List.map_map]
      refine List.ext_getElem (by simp) (fun i h1 h2 => ?_)
      have hi : i < ps.length := by simpa using h1
      rw [List.getElem_map, List.getElem_map, List.getElem_range, List.getD_eq_getElem?_getD, List.getElem?_eq_getElem hi]
      rfl
def spOrder : Sp := fun vs H Q _ => ∃ (v : V) (ps : List (Int × Int)), vs = [v] ∧ Tab H v (ps.map pr) ∧ Desc ps ∧ Twos ps ∧ GivesP (fun v H => Tup H v (ordM ps)) H Q
theorem scOrder : FnScope ["table"] ["table"] (defScope sOrder) := ⟨rfl, rfl, rfl, by decide +kernel, rfl, by decide +kernel, by decide +kernel⟩
theorem Twos.len {ps : List (Int × Int)} (t : Twos ps) : ps.length ≤ 6 := by
  have := t.wm.p6
  rwa [List.length_map] at this
theorem ok_order (F : Fun K "order" "order" sOrder f fd) (cN : Cal P w K mg base 6 "need_twos" ["table"] spNeedTwos) (cO : Cal P w K mg base 1 "order_of" ["table"] spOrderOf) :
    FnOk P w K mg base CX0 7 f fd ["table"] spOrder := by
  refine F.ok scOrder (fun vs H Q E h => ?_) (fun cdv A outer s H vs Q E hr h => ?_)
  · obtain ⟨v, ps, rfl, _⟩ := h
    rfl
  · obtain ⟨v, ps, rfl, hT, hd, tw, q⟩ := h
    refine ⟨_, pss_cons (ps_expr (pe_cal cN hr (pa_cons (pv 0) pa_nil))) (pss_one (ps_ret (pe_cal cO hr (pa_cons (pv 0) pa_nil)))), ?_⟩
    refine q_drop (ev_cal (EvA.one (ev_var rfl)) fun H1 e Q k => ⟨v, ps, rfl, hT.up e, tw, k⟩) fun H1 e1 => ?_
    exact s_retP (ep_cal (EvA.one (ev_var rfl)) fun H2 e2 Q k => ⟨v, ps, rfl, hT.up (e1.trans e2), hd, by have := tw.len; omega, k⟩) fun v H2 e2 p => q v H2 (e1.trans e2) p
end
end K38
set_option Elab.async false
set_option linter.all false
set_option maxRecDepth 100000
set_option maxHeartbeats 4100000
/-! K38D5: table_of, from_order, most_by_odds. -/
namespace K38
open PySem L2 Evl
section
variable {K : PySem.W.Frag} {σ : L2.St} {H : Hp} {te : TE} {t : TT} {g : TG} {wi : L2.TI}
/-- a comprehension of new tuples of ints -/
theorem ep_lcRowsW {vs : List Nat} {n : Nat} {PI : Nat → V → Hp → Prop} (f : Nat → Bool) (row : Nat → List Int) (h : EvI wi σ H n PI) (hn : n ≤ 40000)
    (turn : ∀ i x H1, Ex H H1 → i < n → PI i x H1 → g x (wipe σ vs) H1 fun σ2 H2 => wipe σ2 vs = wipe σ vs ∧ Ex H1 H2 ∧ EvT t σ2 H2 (f i) ∧ (f i = true → EvP te σ2 H2 (fun v H => Tup H v (row i))))
    (hg : ∀ x H1 (A B : L2.St → Hp → Prop), (∀ σ2 H2, A σ2 H2 → B σ2 H2) → g x (wipe σ vs) H1 A → g x (wipe σ vs) H1 B) :
    EvP (tLc wi g t te vs) σ H (fun v H => ∃ p xs, v = .ref p ∧ H p = some (.lst xs) ∧ Rows H xs (((List.range n).filter f).map row)) := fun H0 e Q q => h H0 e _ fun J G Y H1 e1 hG w hY D hD =>
  lc_it w (fun i H' => Ex H1 H' ∧ ∃ xs, H' D = some (.lst xs) ∧ xs.length ≤ i ∧ Rows H' xs (((List.range i).filter f).map row)) ⟨Ex.new hD, [], upd_same, Nat.le_refl _, Rows.nil⟩ (fun i H' _ p => hG H' p.1)
    (fun i x H2 H3 hi p y => by
      obtain ⟨p1, xs, p2, p3, p4⟩ := p
      obtain ⟨e3, hp⟩ := hY i x H2 H3 hi p1 y
      refine hg x H3 _ _ (fun σ2 H4 k => ?_) (turn i x H3 ((e.trans e1).trans (p1.trans e3)) hi hp)
      obtain ⟨k1, e4, k2, k3⟩ := k
      refine ⟨k1, k2 H4 (Ex.refl H4) _ fun H5 e5 => ?_⟩
      have hsucc : List.range (i + 1) = List.range i ++ [i] := List.range_succ
      cases hf : f i with
      | true =>
        refine iteT (k3 hf H5 e5 _ fun v H6 e6 hv => ⟨xs, e6 D _ (e5 D _ (e4 D _ (e3 D _ p2))), sz_lt (by omega), ?_, xs ++ [v], upd_same, by simp; exact p3, ?_⟩)
        · exact Ex.mut ((((p1.trans e3).trans e4).trans e5).trans e6) hD
        · rw [hsucc, List.filter_append, List.map_append]
          have hone : [i].filter f = [i] := by simp [hf]
          rw [hone]
          have up : ∀ (b : Addr) (ns : List Int), H6 b = some (.tup (ns.map V.int)) → (upd H6 D (.lst (xs ++ [v]))) b = some (.tup (ns.map V.int)) := fun b ns hb => by
            rw [upd_ne (ne_of hb (e6 D _ (e5 D _ (e4 D _ (e3 D _ p2)))) (fun z => nomatch z))]
            exact hb
          refine Rows.app ⟨p4.1, fun m y r h1 h2 => ?_⟩ (Rows.one (hv.imp fun b z => ⟨z.1, up b _ z.2⟩))
          exact ((p4.up (((e3.trans e4).trans e5).trans e6)).2 m y r h1 h2).imp fun b z => ⟨z.1, up b _ z.2⟩
      | false =>
        refine iteF ⟨((p1.trans e3).trans e4).trans e5, xs, e5 D _ (e4 D _ (e3 D _ p2)), by omega, ?_⟩
        rw [hsucc, List.filter_append, List.map_append]
        have hone : [i].filter f = [] := by simp [hf]
        rw [hone, List.map_nil, List.append_nil]
        exact p4.up ((e3.trans e4).trans e5))
    (fun H' p => by
      obtain ⟨p1, xs, p2, _, p4⟩ := p
      exact q _ H' (e1.trans p1) ⟨D, xs, rfl, p2, p4⟩)
theorem ep_lcRowsN {vs : List Nat} {j n : Nat} {PI : Nat → V → Hp → Prop} (f : Nat → Bool) (row : Nat → List Int) (h : EvI wi σ H n PI) (hn : n ≤ 40000) (hw : ∀ x, wipe ((wipe σ vs).set j (some x)) vs = wipe σ vs)
    (turn : ∀ i x H1, Ex H H1 → i < n → PI i x H1 → EvT t ((wipe σ vs).set j (some x)) H1 (f i) ∧ (f i = true → EvP te ((wipe σ vs).set j (some x)) H1 (fun v H => Tup H v (row i)))) :
    EvP (tLc wi (gName j) t te vs) σ H (fun v H => ∃ p xs, v = .ref p ∧ H p = some (.lst xs) ∧ Rows H xs (((List.range n).filter f).map row)) :=
  ep_lcRowsW f row h hn (fun i x H1 e hi p => ⟨hw x, Ex.refl H1, turn i x H1 e hi p⟩) fun x H1 A B k a => k _ _ a
theorem ep_lcRowsP {vs : List Nat} {j k n : Nat} {PI : Nat → V → Hp → Prop} (f : Nat → Bool) (row : Nat → List Int) (h : EvI wi σ H n PI) (hn : n ≤ 40000) (hw : ∀ x y, wipe (((wipe σ vs).set j (some x)).set k (some y)) vs = wipe σ vs)
    (turn : ∀ i x H1, Ex H H1 → i < n → PI i x H1 → ∃ T y z, x = .ref T ∧ H1 T = some (.tup [y, z]) ∧ EvT t (((wipe σ vs).set j (some y)).set k (some z)) H1 (f i) ∧ (f i = true → EvP te (((wipe σ vs).set j (some y)).set k (some z)) H1 (fun v H => Tup H v (row i)))) :
    EvP (tLc wi (gTup K 2 (gCons (gName j) (gCons (gName k) gNil))) t te vs) σ H (fun v H => ∃ p xs, v = .ref p ∧ H p = some (.lst xs) ∧ Rows H xs (((List.range n).filter f).map row)) :=
  ep_lcRowsW f row h hn (fun i x H1 e hi p => by
    obtain ⟨T, y, z, ex, hT, k1, k2⟩ := turn i x H1 e hi p
    exact ⟨T, [y, z], ex, .inl (.inl hT), rfl, y, [z], rfl, z, [], rfl, rfl, hw y z, Ex.refl H1, k1, k2⟩) fun x H1 A B k a => by
    obtain ⟨T, xs, e1, e2, e3, y, r, e4, z, r2, e5, e6, a⟩ := a
    exact ⟨T, xs, e1, e2, e3, y, r, e4, z, r2, e5, e6, k _ _ a⟩
theorem filter_all (n : Nat) : (List.range n).filter (fun _ => true) = List.range n := List.filter_eq_self.mpr fun _ _ => rfl
end
theorem ep_tupRows {K : PySem.W.Frag} {σ : L2.St} {H : Hp} {te : TE} {rows : List (List Int)} (h : EvP te σ H (fun v H => ∃ p xs, v = .ref p ∧ H p = some (.lst xs) ∧ Rows H xs rows)) : EvP (tCB (rTupOf K) (tCons te tNil)) σ H (fun v H => Tab H v rows) := fun H1 e Q q =>
  h H1 e _ fun v H2 e2 ⟨p, xs, ev, hp, hr⟩ => ⟨p, xs, by rw [ev], .inl ⟨SqL.of hp, fun l hl => q _ _ (e2.trans (Ex.new hl)) ⟨l, xs, rfl, upd_same, hr.up (Ex.new hl)⟩⟩⟩
/-- the crowd of an order, as pairs -/
def tabM (ns : List Int) : List (Int × Int) := (List.range ns.length).map fun (i : Nat) => ((ns.length : Int) - 1 - (i : Int), (ns.length : Int) - 1 - ns.getD i 0)
def spTableOf : Sp := fun vs H Q _ => ∃ (v : V) (ns : List Int), vs = [v] ∧ Tup H v ns ∧ ns.length ≤ 100 ∧ GivesP (fun v H => Tab H v ((tabM ns).map pr)) H Q
def spFromOrder : Sp := fun vs H Q _ => ∃ (v : V) (ns : List Int), vs = [v] ∧ Tup H v ns ∧ 1 ≤ ns.length ∧ ns.length ≤ 6 ∧ ns.Perm (rg ns.length) ∧ GivesP (fun v H => Tab H v ((tabM ns).map pr)) H Q
section
variable {P : Program} {w : World} {K : PySem.W.Frag} {mg : Str → Option Value} {base : Heap} {f : Addr} {fd : FuncData}
theorem scTableOf : FnScope ["told", "many", "at", "place"] ["told"] (defScope sTableOf) := ⟨rfl, rfl, rfl, by decide +kernel, rfl, by decide +kernel, by decide +kernel⟩
theorem ok_tableOf (F : Fun K "table_of" "table_of" sTableOf f fd) (T : Nm mg) : FnOk P w K mg base CX0 1 f fd ["told"] spTableOf := by
  refine F.ok scTableOf (fun vs H Q E h => ?_) (fun cdv A outer s H vs Q E hr h => ?_)
  · obtain ⟨v, ns, rfl, _⟩ := h
    rfl
  · obtain ⟨v, ns, rfl, ⟨a, rfl, ha⟩, hz, q⟩ := h
    refine ⟨_, pss_cons (ps_set (i := 1) scTableOf.nd rfl (.inr rfl) (pe_callB (k_len (K := K) rfl) (by rfl) T.len PySem.boot_len (pa_cons (pv 0) pa_nil)))
      (pss_one (ps_ret (pe_callTy (k_tupOf (K := K) rfl) (by rfl) T.tuple PyProof.Rows.boot_tuple (pa_cons
        (pe_lc (own := [("at", 2), ("place", 3)]) (tt := tYes) rfl scTableOf.nd (pi_enumT (by rfl) T.enum (pa_cons (pv 0) pa_nil)) (blkOk_by (N := ["told", "many", "at", "place"]) (sc := defScope sTableOf) (by decide +kernel))
          (g := gTup K 2 (gCons (gName 2) (gCons (gName 3) gNil)))
          (fun _ _ _ _ _ => pg_tup rfl (pgs_cons (pg_name (i := 2) scTableOf.nd rfl (Or.inl rfl)) (pgs_cons (pg_name (i := 3) scTableOf.nd rfl (Or.inl rfl)) pgs_nil))) (fun _ _ _ _ _ => pts_nil)
          (fun _ _ _ _ _ => pe_tup (pa_cons (pe_op op_sub (pe_op op_sub (pv 1) pe_int) (pv 2)) (pa_cons (pe_op op_sub (pe_op op_sub (pv 1) pe_int) (pv 3)) pa_nil)))) pa_nil)))), ?_⟩
    have hlen : ((ns.map V.int).length : Int) = (ns.length : Int) := by rw [List.length_map]
    refine q_asg (v := .int (ns.length : Int)) (ev_is (ev_cb (EvA.one (ev_var rfl)) (rc_lenT (K := K) (SqT.of ha))) (by rw [hlen])) fun H1 e1 => ?_
    refine s_retP (ep_tupRows (K := K) (rows := (tabM ns).map pr) ((ep_lcRowsP (K := K) (fun _ => true) (fun (i : Nat) => [(ns.length : Int) - 1 - (i : Int), (ns.length : Int) - 1 - ns.getD i 0]) (ei_enumT (K := K) (xs := ns.map V.int) (EvA.one (ev_var rfl)) (SqT.of (e1 _ _ ha)))
      (by rw [List.length_map]; omega) (fun x y => rfl) fun i x H2 e2 hi hx => ?_).imp fun v H2 e2 ⟨p, xs, h1, h2, h3⟩ => ⟨p, xs, h1, h2, ?_⟩)) fun v H2 e2 p => q v H2 (e1.trans e2) p
    · obtain ⟨T', y, h1, h2, h3⟩ := hx
      rw [List.getElem?_map] at h3
      obtain ⟨m, hm, rfl⟩ := Option.map_eq_some_iff.mp h3
      refine ⟨T', _, _, h1, h2, et_yes, fun _ => (ep_u (eu_tup (ea_two (K := K) (ev_cmp (ev_cmp (ev_var rfl) ev_c) (ev_var rfl)) (ev_cmp (ev_cmp (ev_var rfl) ev_c) (ev_var rfl))) (by show 2 ≤ 100000; decide))).imp fun v H3 e3 ⟨p, ev, hp⟩ => ⟨p, ev, ?_⟩⟩
      rw [hp, List.getD_eq_getElem?_getD, hm]
      rfl
    · rw [filter_all, List.length_map] at h3
      unfold tabM
      rw [List.map_map]
      exact h3
theorem scFromOrder : FnScope ["told"] ["told"] (defScope sFromOrder) := ⟨rfl, rfl, rfl, by decide +kernel, rfl, by decide +kernel, by decide +kernel⟩
theorem ok_fromOrder (F : Fun K "from_order" "from_order" sFromOrder f fd) (T : Nm mg) (cI : Cal P w K mg base 2 "is_order" ["value", "many"] spIsOrder) (cT : Cal P w K mg base 1 "table_of" ["told"] spTableOf) :
    FnOk P w K mg base CX0 3 f fd ["told"] spFromOrder := by
  refine F.ok scFromOrder (fun vs H Q E h => ?_) (fun cdv A outer s H vs Q E hr h => ?_)
  · obtain ⟨v, ns, rfl, _⟩ := h
    rfl
  · obtain ⟨v, ns, rfl, ⟨a, rfl, ha⟩, h1, h6, hp, q⟩ := h
    obtain ⟨tp, hmp⟩ := T.mp
    refine ⟨_, pss_cons (ps_if (PW.pt (pw_or (pt_not (pt_val (pe_callB call_isi (by rfl) T.isi PyProof.Rows.boot_isinstance (pa_cons (pv 0) (pa_cons (pe_bltn (by rfl) T.tuple PyProof.Rows.boot_tuple (v := .ty "tuple") rfl) pa_nil)))))
        (pw_or (pt_not (pt_chain op_le op_le pe_int (pe_callB (k_len (K := K) rfl) (by rfl) T.len PySem.boot_len (pa_cons (pv 0) pa_nil)) (pe_glob (v := .int 6) (by rfl) hmp ⟨_, rfl⟩)))
        (pw_or1 (pt_not (pt_val (pe_cal cI hr (pa_cons (pv 0) (pa_cons (pe_callB (k_len (K := K) rfl) (by rfl) T.len PySem.boot_len (pa_cons (pv 0) pa_nil)) pa_nil))))))))) pss_never pss_nil)
      (pss_one (ps_ret (pe_cal cT hr (pa_cons (pv 0) pa_nil)))), ?_⟩
    have hlen : ((ns.map V.int).length : Int) = (ns.length : Int) := by rw [List.length_map]
    have hl : ∀ {H' : Hp}, Ex H H' → Ev (tCB (rLenS K) (tCons (tVar 0) tNil)) [some (V.ref a)] H' (.int (ns.length : Int)) := fun e => ev_is (ev_cb (EvA.one (ev_var rfl)) (rc_lenT (K := K) (SqT.of (e _ _ ha)))) (by rw [hlen])
    refine q_when (b := false) (et_or (a := false) (b := false) (et_not (a := true) (et_B (ev_cb (ea_two (K := K) (ev_var rfl) ev_c) (rc_isiT ha (by decide +kernel)))))
      fun _ => et_or (a := false) (b := false) (et_not (a := true) (et_test ?_)) fun _ => et_not (a := true) (et_B (ev_cal (ea_two (K := K) (ev_var rfl) (hl (Ex.refl H))) fun H1 e Q k => ⟨.ref a, ns, rfl, ⟨a, rfl, e _ _ ha⟩, hp, by omega, k⟩))) (fun z => nomatch z) fun _ H1 e1 => ?_
    · have z := ev_chainI (p := fun i j => decide (i ≤ j)) (p' := fun i j => decide (i ≤ j)) (ev_c (σ := [some (V.ref a)]) (H := H) (v := .int 1)) (hl (Ex.refl H)) (ev_c (v := .int 6))
      rw [decide_eq_true (show (1 : Int) ≤ (ns.length : Int) by omega), decide_eq_true (show (ns.length : Int) ≤ 6 by omega)] at z
      exact z
    · exact s_retP (ep_cal (EvA.one (ev_var rfl)) fun H2 e2 Q k => ⟨.ref a, ns, rfl, ⟨a, rfl, (e1.trans e2) _ _ ha⟩, by omega, k⟩) fun v H2 e2 p => q v H2 (e1.trans e2) p
end
end K38
set_option Elab.async false
set_option linter.all false
set_option maxRecDepth 100000
set_option maxHeartbeats 4100000
/-! K38D6: rings_of, least_by_rings, most_by_odds. -/
namespace K38
open PySem L2 Evl
theorem inV_ints (p : Int) (ns : List Int) : inV (.int p) (ns.map V.int) = ns.contains p := by
  unfold inV
  rw [List.any_map, List.contains_eq_any_beq]
  congr 1
  funext m
  show (m == p) = (p == m)
  exact Bool.eq_iff_iff.mpr ⟨fun h => by simp at h ⊢; exact h.symm, fun h => by simp at h ⊢; exact h.symm⟩
theorem flat_ints (ns : List Int) : (ns.map V.int).all flatV = true := by
  rw [List.all_map]
  exact List.all_eq_true.mpr fun _ _ => rfl
theorem given_filter (p : Int → Bool) : ∀ l : List Int, given l.length (fun i => p (l.getD i 0)) (fun i => .int (l.getD i 0)) = (l.filter p).map V.int := fun l => by
  have e : l = (List.range l.length).map fun m => l.getD m 0 := by
    refine List.ext_getElem (by simp) (fun i h1 h2 => ?_)
    rw [List.getElem_map, List.getElem_range, List.getD_eq_getElem?_getD, List.getElem?_eq_getElem h1]
    rfl
  unfold given
  conv => rhs; rw [e, List.filter_map, List.map_map]
  rfl
section
variable {K : PySem.W.Frag} {σ : L2.St} {H : Hp} {ta tb te : TE} {tz : TS} {D : Ends} {P : V → Hp → Prop}
/-- xs.append(e), e told by a property -/
theorem q_appP {l : Addr} {xs : List V} (hl : H l = some (.lst xs)) (ha : Ev ta σ H (.ref l)) (h : EvP te σ H P) (hz : xs.length < 100000) (k : ∀ v H1, Ex H H1 → P v H1 → tz D σ (upd H1 l (.lst (xs ++ [v])))) :
    tSeq (tDrop (tBM K "list" rAppend ta (tCons te tNil))) tz D σ H := ha H (Ex.refl H) _ fun H1 e1 =>
  ⟨.inl ⟨rfl, xs, sq_of (e1 l _ hl)⟩, h H1 e1 _ fun v H2 e2 p => ⟨l, xs, v, rfl, rfl, e2 l _ (e1 l _ hl), sz_lt hz, k v H2 (e1.trans e2) p⟩⟩
theorem et_niL {a : Addr} {i : Int} {ns : List Int} (ha : Ev ta σ H (.int i)) (hb : Ev tb σ H (.ref a)) (h : SqL K H a (ns.map V.int)) : EvT (tTest (tOp (rIn K true) ta tb)) σ H (!ns.contains i) := by
  rw [← inV_ints]
  exact et_test (ev_op ha hb (rv_niL h rfl (flat_ints ns)))
theorem et_niT {v : V} {i : Int} {ns : List Int} (ha : Ev ta σ H (.int i)) (hb : Ev tb σ H v) (h : Tup H v ns) : EvT (tTest (tOp (rIn K true) ta tb)) σ H (!ns.contains i) := by
  obtain ⟨a, rfl, h⟩ := h
  rw [← inV_ints]
  exact et_test (ev_op ha hb (rv_niT (SqT.of h) rfl (flat_ints ns)))
theorem et_neNil {a : Addr} {ns : List Int} (ha : Ev ta σ H (.ref a)) (h : SqL K H a (ns.map V.int)) : EvT (tTest (tOp (rNeD K) ta (tLst tNil))) σ H (!decide (ns = [])) :=
  et_test (ev_opL ha (el_lst ea_nil (Nat.zero_le _)) fun p H1 hp e => rv_neL (ns := ns) (ms := []) (ex_l e h) (SqL.of hp))
/-- sorted(a list of ints): some list of ints -/
theorem ep_sorted {a : Addr} {ns : List Int} (ha : Ev ta σ H (.ref a)) (h : SqL K H a (ns.map V.int)) : EvP (tCB (rSortedI K) (tCons ta tNil)) σ H (fun v H => ∃ p xs, v = .ref p ∧ H p = some (.lst xs)) := fun H1 e Q q =>
  ha H1 e _ fun H2 e2 => ⟨a, ns, rfl, ex_l (e.trans e2) h, fun ms p _ _ np => q _ _ (e2.trans (Ex.new np)) ⟨p, _, rfl, upd_same⟩⟩
theorem ep_tupAny (h : EvP te σ H (fun v H => ∃ p xs, v = .ref p ∧ H p = some (.lst xs))) : EvP (tCB (rTupOf K) (tCons te tNil)) σ H (fun _ _ => True) := fun H1 e Q q =>
  h H1 e _ fun v H2 e2 ⟨p, xs, ev, hp⟩ => ⟨p, xs, by rw [ev], .inl ⟨SqL.of hp, fun l hl => q _ _ (e2.trans (Ex.new hl)) trivial⟩⟩
end
/-! ### rings, with fuel -/
def walkBlk (told : List Int) : Nat → List Int → Int → Option (List Int)
  | 0, _, _ => none
  | f + 1, block, here => if block.contains here = true then some block else if 0 ≤ here ∧ here.toNat < told.length ∧ block.length < 1000 then walkBlk told f (block ++ [here]) (told.getD here.toNat 0) else none
def ringsM (told : List Int) : Nat → List Int → Nat → Option Nat
  | 0, _, _ => none
  | f + 1, left, k => match left with
    | [] => some k
    | h :: _ => match walkBlk told (told.length + 2) [] h with
      | none => none
      | some b => if k < 1000 then ringsM told f (left.filter fun p => !b.contains p) (k + 1) else none
def spRingsOf : Sp := fun vs H Q _ => ∃ (v : V) (ns : List Int) (k : Nat), vs = [v] ∧ Tup H v ns ∧ ns.length ≤ 100 ∧ ringsM ns (ns.length + 2) (rg ns.length) 0 = some k ∧ GivesP (fun v H => ∃ p xs, v = .ref p ∧ H p = some (.lst xs) ∧ xs.length = k) H Q
section
variable {P : Program} {w : World} {K : PySem.W.Frag} {mg : Str → Option Value} {base : Heap} {f : Addr} {fd : FuncData}
theorem scRingsOf : FnScope ["told", "left", "found", "block", "here", "place"] ["told"] (defScope sRingsOf) := ⟨rfl, rfl, rfl, by decide +kernel, rfl, by decide +kernel, by decide +kernel⟩
/-- what stands between two turns of the outer loop -/
structure RW (H0 : Hp) (a : Addr) (ns : List Int) (k m : Nat) (σ : L2.St) (H : Hp) : Prop where
  ex : ∃ (lp fp : Addr) (left : List Int) (xs : List V) (y z : Option V), σ = [some (.ref a), some (.ref lp), some (.ref fp), y, z, none] ∧ Ex H0 H ∧ H lp = some (.lst (left.map V.int)) ∧ H fp = some (.lst xs) ∧ H0 fp = none ∧ lp ≠ fp ∧ left.length ≤ 1000 ∧ ringsM ns m left xs.length = some k
/-- and of the inner one -/
structure BW (H0 : Hp) (a lp fp : Addr) (left : List Int) (xs : List V) (ns b : List Int) (m : Nat) (σ : L2.St) (H : Hp) : Prop where
  ex : ∃ (bp : Addr) (block : List Int) (here : Int), σ = [some (.ref a), some (.ref lp), some (.ref fp), some (.ref bp), some (.int here), none] ∧ Ex H0 H ∧ H lp = some (.lst (left.map V.int)) ∧ H fp = some (.lst xs) ∧ H bp = some (.lst (block.map V.int)) ∧ H0 bp = none ∧ bp ≠ lp ∧ bp ≠ fp ∧ block.length ≤ 1000 ∧ walkBlk ns m block here = some b
theorem ok_ringsOf (F : Fun K "rings_of" "rings_of" sRingsOf f fd) (T : Nm mg) : FnOk P w K mg base CX0 1 f fd ["told"] spRingsOf := by
  refine F.ok scRingsOf (fun vs H Q E h => ?_) (fun cdv A outer s H vs Q E hr h => ?_)
  · obtain ⟨v, ns, k, rfl, _⟩ := h
    rfl
  · obtain ⟨v, ns, k, rfl, ⟨a, rfl, ha⟩, hz, hk, q⟩ := h
    refine ⟨_, pss_cons (ps_par (i := 1) (j := 2) rfl scRingsOf.nd rfl rfl (by decide) rfl rfl (pa_cons (pe_listRg rfl (by rfl) T.list (prg_1 (by rfl) T.range (pe_callB (k_len (K := K) rfl) (by rfl) T.len PySem.boot_len (pa_cons (pv 0) pa_nil)))) (pa_cons (pe_lst pa_nil) pa_nil)) (by rfl))
      (pss_cons (ps_while PassesOwn.never (pt_cmpR (op_neD hr.units) (pv 1) (pe_lst pa_nil) (nomark _))
        (pss_cons (ps_asg (pe_tup (pa_cons (pe_lst pa_nil) (pa_cons (pe_ix ix_list (pv 1) pe_int (fun _ _ => rfl)) pa_nil))) (pg_tup rfl (pgs_cons (pg_name (i := 3) scRingsOf.nd rfl (.inr rfl)) (pgs_cons (pg_name (i := 4) scRingsOf.nd rfl (.inl rfl)) pgs_nil))))
        (pss_cons (ps_while PassesOwn.never (pt_cmpR op_notIn_seq (pv 4) (pv 3) (by rfl))
          (pss_cons (ps_expr (pe_bm PySem.F.plainAttrs_list PySem.F.slot_list_append PySem.F.type_list_append mt_append (pv 3) (pa_cons (pv 4) pa_nil)))
          (pss_one (ps_set (i := 4) scRingsOf.nd rfl (.inl rfl) (pe_ix ix_tup (pv 0) (pv 4) (fun _ _ => rfl))))))
        (pss_cons (ps_expr (pe_bm PySem.F.plainAttrs_list PySem.F.slot_list_append PySem.F.type_list_append mt_append (pv 2) (pa_cons (pe_callTy (k_tupOf (K := K) rfl) (by rfl) T.tuple PyProof.Rows.boot_tuple (pa_cons
            (pe_callB cr_sortedI (by rfl) T.sorted (by decide +kernel) (pa_cons (pv 3) pa_nil)) pa_nil)) pa_nil)))
        (pss_one (ps_setLc (i := 1) (own := [("place", 5)]) (g := gName 5) rfl scRingsOf.nd rfl rfl (sw_true rfl rfl rfl (by decide +kernel)) (pi_list (pv 1)) (blkOk_by (N := ["told", "left", "found", "block", "here", "place"]) (sc := defScope sRingsOf) (by decide +kernel))
            (fun _ _ _ _ _ => pg_name (i := 5) scRingsOf.nd rfl (Or.inl rfl)) (fun _ _ _ _ _ => pts_one (pt_cmpR (k_notIn (K := K) rfl) (pv 5) (pv 3) (by rfl))) (fun _ _ _ _ _ => pv 5)))))))
      (pss_one (ps_ret (pv 2)))), ?_⟩
    have hlen : ((ns.map V.int).length : Int) = (ns.length : Int) := by rw [List.length_map]
    -- left, found = list(range(len(told))), []
    refine ⟨.ref a, rfl, a, _, rfl, .inr (SqT.of ha), _, rfl, RgOk.of_le (by omega) (by rw [List.length_map]; omega) (by omega) (by omega), fun lp nlp => ?_⟩
    rw [List.length_map, rgV_eq]
    refine ⟨Nat.zero_le _, fun fp nfp => ⟨_, _, rfl, ?_⟩⟩
    have e1 : Ex H (upd H lp (.lst ((rg ns.length).map V.int))) := Ex.new nlp
    have hlp : (upd H lp (.lst ((rg ns.length).map V.int))) lp = some (.lst ((rg ns.length).map V.int)) := upd_same
    have hne : lp ≠ fp := ne_of_none hlp nfp
    refine q_while (RW H a ns k) (ns.length + 2) ⟨lp, fp, rg ns.length, [], none, none, rfl, e1.trans (Ex.new nfp), ?_, upd_same, fresh_back e1 nfp, hne, ?_, hk⟩ fun m σ' H2 hw => ?_
    · rw [upd_ne hne]
      exact hlp
    · unfold rg
      simp only [List.length_map, List.length_range]
      omega
    · obtain ⟨lp, fp, left, xs, y, z, rfl, e2, h1, h2, h3, h4, h5, h6⟩ := hw
      refine ⟨_, et_neNil (ev_var rfl) (SqL.of h1), fun hb H3 e3 => ?_, fun hb H3 e3 => ?_⟩
      · cases m with
        | zero => cases h6
        | succ m =>
        cases left with
        | nil => cases hb
        | cons hd tl =>
        cases hw : walkBlk ns (ns.length + 2) [] hd with
        | none =>
          have z := h6
          simp only [ringsM, hw] at z
          cases z
        | some b =>
        have h7 : xs.length < 1000 ∧ ringsM ns m ((hd :: tl).filter fun p => !b.contains p) (xs.length + 1) = some k := by
          have z := h6
          simp only [ringsM, hw] at z
          by_cases hx : xs.length < 1000
          · rw [if_pos hx] at z
            exact ⟨hx, z⟩
          · rw [if_neg hx] at z
            cases z
        refine ⟨RW H a ns k m, fun σ2 H4 hw => ⟨m, Nat.lt_succ_self m, hw⟩, ?_⟩
        -- block, here = [], left[0]
        refine ⟨Nat.zero_le _, fun bp nbp => ?_⟩
        have hb1 : bp ≠ lp := (ne_of_none (e3 _ _ h1) nbp).symm
        have hb2 : bp ≠ fp := (ne_of_none (e3 _ _ h2) nbp).symm
        refine ⟨_, rfl, lp, _, 0, .int hd, rfl, rfl, SqL.of (by rw [upd_ne hb1.symm]; exact e3 _ _ h1), atI_nat (j := 0) rfl, ?_⟩
        refine ⟨by show 2 ≤ sizeLine; decide, fun tp ntp => ⟨tp, _, rfl, SqT.of upd_same, rfl, _, _, rfl, _, _, rfl, rfl, ?_⟩⟩
        have e4 : Ex H2 (upd (upd H3 bp (.lst [])) tp (.tup [V.ref bp, V.int hd])) := e3.trans ((Ex.new nbp).trans (Ex.new ntp))
        -- while here not in block
        refine q_while (BW H a lp fp (hd :: tl) xs ns b) (ns.length + 2) ⟨bp, [], hd, rfl, e2.trans e4, e4 _ _ h1, e4 _ _ h2, (Ex.new ntp) _ _ upd_same, fresh_back (e2.trans e3) nbp, hb1, hb2, Nat.zero_le _, hw⟩ fun m2 σ3 H4 hw3 => ?_
        obtain ⟨bp, block, here, rfl, e5, g1, g2, g3, g4, g5, g6, g7, g8⟩ := hw3
        refine ⟨_, et_niL (ev_var rfl) (ev_var rfl) (SqL.of g3), fun hb H5 e6 => ?_, fun hb H5 e6 => ?_⟩
        · cases m2 with
          | zero => cases g8
          | succ m2 =>
          have hb' : ¬ block.contains here = true := by
            intro z
            rw [z] at hb
            cases hb
          have g9 : (0 ≤ here ∧ here.toNat < ns.length ∧ block.length < 1000) ∧ walkBlk ns m2 (block ++ [here]) (ns.getD here.toNat 0) = some b := by
            have z := g8
            unfold walkBlk at z
            rw [if_neg hb'] at z
            by_cases hx : 0 ≤ here ∧ here.toNat < ns.length ∧ block.length < 1000
            · rw [if_pos hx] at z
              exact ⟨hx, z⟩
            · rw [if_neg hx] at z
              cases z
          obtain ⟨⟨i1, i2, i3⟩, g9⟩ := g9
          refine ⟨BW H a lp fp (hd :: tl) xs ns b m2, fun σ2 H6 hw => ⟨m2, Nat.lt_succ_self m2, hw⟩, ?_⟩
          refine q_app (e6 _ _ g3) (ev_var rfl) (ev_var rfl) (by rw [List.length_map]; omega) fun H6 e7 => ?_
          have e8 : Ex H4 H6 := e6.trans e7
          have hat : (ns.map V.int)[here.toNat]? = some (.int (ns.getD here.toNat 0)) := by
            rw [List.getElem?_map, List.getD_eq_getElem?_getD, List.getElem?_eq_getElem i2]
            rfl
          have hge : here = ((here.toNat : Nat) : Int) := by omega
          refine s_asg (v := .int (ns.getD here.toNat 0)) (ev_op (y := .int ((here.toNat : Nat) : Int)) (ev_var rfl) (ev_is (ev_var rfl) (by rw [← hge])) (rv_ixT (SqT.of (Ex.mut (e5.trans e8) g4 _ _ ha)) (atI_nat hat))) fun H7 e9 => ?_
          refine ⟨bp, block ++ [here], ns.getD here.toNat 0, rfl, (Ex.mut (e5.trans e8) g4).trans e9, e9 _ _ ?_, e9 _ _ ?_, e9 _ _ ?_, g4, g5, g6, ?_, g9⟩
          · rw [upd_ne g5.symm]
            exact e8 _ _ g1
          · rw [upd_ne g6.symm]
            exact e8 _ _ g2
          · rw [upd_same, List.map_append]
            rfl
          · rw [List.length_append]
            show block.length + 1 ≤ 1000
            omega
        · -- behind the inner loop
          have hb' : block.contains here = true := by
            cases hc : block.contains here with
            | true => rfl
            | false =>
              rw [hc] at hb
              cases hb
          have hbb : block = b := by
            cases m2 with
            | zero => cases g8
            | succ m2 =>
              have z := g8
              unfold walkBlk at z
              rw [if_pos hb'] at z
              exact Option.some.inj z
          subst hbb
          refine q_appP (e6 _ _ g2) (ev_var rfl) (ep_tupAny (K := K) (ep_sorted (K := K) (ev_var rfl) (SqL.of (e6 _ _ g3)))) (by omega) fun v H6 e7 _ => ?_
          have e8 : Ex H4 H6 := e6.trans e7
          have hf : ∀ {b : Addr} {o : HO}, b ≠ fp → H4 b = some o → (upd H6 fp (.lst (xs ++ [v]))) b = some o := fun hne hb => by
            rw [upd_ne hne]
            exact e8 _ _ hb
          refine s_asgL (el_lcN (fun i => !block.contains ((hd :: tl).getD i 0)) (fun i => .int ((hd :: tl).getD i 0)) (ei_list (xs := (hd :: tl).map V.int) (ep_evr (ev_var rfl) fun H7 e => ⟨lp, rfl, SqL.of (e _ _ (hf h4 g1))⟩)) (by rw [List.length_map]; omega) (fun x => rfl) fun i x H7 e9 hi hx => ?_) fun p H7 hp e9 h9 => ?_
          · rw [List.getElem?_map] at hx
            obtain ⟨n, hn, rfl⟩ := Option.map_eq_some_iff.mp hx
            have hg : (hd :: tl).getD i 0 = n := by
              rw [List.getD_eq_getElem?_getD, hn]
              rfl
            rw [hg]
            exact ⟨et_niL (ev_var rfl) (ev_var rfl) (SqL.of (e9 _ _ (hf g6 g3))), fun _ => ev_var rfl⟩
          · rw [List.length_map, given_filter fun n => !block.contains n] at h9
            refine ⟨p, fp, _, xs ++ [v], _, _, rfl, (Ex.mut (e5.trans e8) h3).trans e9, h9, e9 _ _ upd_same, h3, ?_, Nat.le_trans (List.length_filter_le _ _) h5, ?_⟩
            · exact fun z => by
                rw [z, upd_same] at hp
                cases hp
            · rw [List.length_append]
              exact h7.2
      · have hx : left = [] := by
          cases left with
          | nil => rfl
          | cons => cases hb
        subst hx
        have hk2 : xs.length = k := by
          cases m with
          | zero => cases h6
          | succ m =>
            have z := h6
            simp only [ringsM] at z
            exact Option.some.inj z
        exact s_ret (ev_var rfl) fun H4 e4 => q _ _ ((e2.trans e3).trans e4) ⟨fp, xs, rfl, e4 _ _ (e3 _ _ h2), hk2⟩
end
end K38
set_option Elab.async false
set_option linter.all false
set_option maxRecDepth 100000
set_option maxHeartbeats 4100000
/-! K38D7: least_by_rings, most_by_odds. -/
namespace K38
open PySem L2 Evl
section
variable {K : PySem.W.Frag} {σ : L2.St} {H : Hp} {te tl : TE}
/-- a call on one value that is told by a property -/
theorem ep_calP {P P' : V → Hp → Prop} {sp : Sp} (h : EvP te σ H P) (hs : ∀ v H1, Ex H H1 → P v H1 → ∀ Q : VK, GivesP P' H1 Q → sp [v] H1 Q E0) : EvP (tCall sp [] E0 (tCons te tNil)) σ H P' := fun H1 e Q q =>
  h H1 e _ fun v H2 e2 p => hs v H2 (e.trans e2) p Q fun u H3 e3 p' => q u H3 (e2.trans e3) p'
theorem cut_from (xs : List V) (m : Nat) : cutV xs (some (m : Int)) none = xs.drop m := by
  unfold cutV
  rw [show HT.sIx xs.length 0 (some (m : Int)) = min m xs.length from HT.sIx_nat xs.length 0 m, HT.sIx_none]
  by_cases h : m ≤ xs.length
  · rw [Nat.min_eq_left h]
    exact List.take_of_length_le (by rw [List.length_drop]; exact Nat.le_refl _)
  · rw [Nat.min_eq_right (by omega), List.drop_of_length_le (by omega : xs.length ≤ m), List.drop_length, List.take_nil]
/-- t[m:] of a tuple of ints -/
theorem ep_from {v : V} {ns : List Int} {m : Nat} (h : Ev te σ H v) (hv : Tup H v ns) (hl : Ev tl σ H (.int (m : Int))) : EvP (tSl (rSlA K) te (tPart tl) tNoPart) σ H (fun v H => Tup H v (ns.drop m)) := fun H1 e Q q =>
  h H1 e _ fun H2 e2 => hl H2 (e.trans e2) _ fun H3 e3 => ⟨_, rfl, by
    obtain ⟨a, rfl, ha⟩ := hv
    refine ⟨a, ns.map V.int, rfl, SqT.of (((e.trans e2).trans e3) _ _ ha), fun hw => ?_, fun _ p hp => q _ _ ((e2.trans e3).trans (Ex.new hp)) ⟨p, rfl, ?_⟩⟩
    · refine q _ _ (e2.trans e3) ⟨a, rfl, ?_⟩
      have h1 := hw.1
      rw [show HT.sIx (ns.map V.int).length 0 (some (m : Int)) = min m (ns.map V.int).length from HT.sIx_nat _ 0 m, List.length_map] at h1
      have hd : ns.drop m = ns := by
        by_cases hm : m = 0
        · rw [hm]; rfl
        · have : ns = [] := List.eq_nil_of_length_eq_zero (by omega)
          rw [this, List.drop_nil]
      rw [hd]
      exact ((e.trans e2).trans e3) _ _ ha
    · rw [upd_same, cut_from, List.map_drop]⟩
theorem rc_sum {K : PySem.W.Frag} {H : Hp} {a : Addr} {ns : List Int} (h : SqL K H a (ns.map V.int)) : RC (rSum K) [.ref a] H (.int ns.sum) := fun H1 e Q q => ⟨a, ns, rfl, ex_l e h, q H1 (Ex.refl H1)⟩
/-- len of a comprehension over a tuple of ints: how many pass the test -/
theorem ev_count {vs : List Nat} {j : Nat} {t : TT} {ns : List Int} (p : Int → Bool) (h : EvP tl σ H (fun v H => Tup H v ns)) (hz : ns.length ≤ 1000) (hw : ∀ x, wipe ((wipe σ vs).set j (some x)) vs = wipe σ vs) (hj : ∀ x, ((wipe σ vs).set j (some x))[j]? = some (some x))
    (ht : ∀ n H1, Ex H H1 → EvT t ((wipe σ vs).set j (some (.int n))) H1 (p n)) : Ev (tCB (rLenS K) (tCons (tLc (iTup K tl) (gName j) t (tVar j) vs) tNil)) σ H (.int ((ns.countP p : Nat) : Int)) := by
  refine ev_cbP (ep_l (el_lcN (fun i => p (ns.getD i 0)) (fun i => .int (ns.getD i 0)) (ei_tup (K := K) (xs := ns.map V.int) (h.imp fun v H2 e ⟨a, ev, ha⟩ => ⟨a, ev, SqT.of ha⟩)) (by rw [List.length_map]; omega) hw fun i x H1 e hi hx => ?_)) ?_
  · rw [List.getElem?_map] at hx
    obtain ⟨n, hn, rfl⟩ := Option.map_eq_some_iff.mp hx
    have hg : ns.getD i 0 = n := by
      rw [List.getD_eq_getElem?_getD, hn]
      rfl
    rw [hg]
    exact ⟨ht n H1 e, fun _ => ev_var (hj _)⟩
  · rintro v H3 e3 ⟨p3, rfl, hp3⟩ Q k
    refine ⟨p3, _, rfl, .inl (SqL.of hp3), ?_⟩
    rw [given_len_f, List.length_map, count_range p 0 ns]
    exact k
end
def mostM (ns : List Int) : Int := ((List.range ns.length).map fun (i : Nat) => (((ns.drop (i + 1)).countP fun n => decide (n < ns.getD i 0) : Nat) : Int)).sum
def spMostBy : Sp := fun vs H Q _ => ∃ (v : V) (ps : List (Int × Int)), vs = [v] ∧ Tab H v (ps.map pr) ∧ Desc ps ∧ Twos ps ∧ Gives (.int (mostM (ordM ps))) H Q
def spLeastBy : Sp := fun vs H Q _ => ∃ (v : V) (ps : List (Int × Int)) (k : Nat), vs = [v] ∧ Tab H v (ps.map pr) ∧ Desc ps ∧ Twos ps ∧ ringsM (ordM ps) (ps.length + 2) (rg ps.length) 0 = some k ∧ Gives (.int ((ps.length : Int) - (k : Int))) H Q
theorem ordM_len (ps : List (Int × Int)) : (ordM ps).length = ps.length := List.length_map _
section
variable {P : Program} {w : World} {K : PySem.W.Frag} {mg : Str → Option Value} {base : Heap} {f : Addr} {fd : FuncData}
theorem scLeastBy : FnScope ["table"] ["table"] (defScope sLeastBy) := ⟨rfl, rfl, rfl, by decide +kernel, rfl, by decide +kernel, by decide +kernel⟩
theorem ok_leastBy (F : Fun K "least_by_rings" "least_by_rings" sLeastBy f fd) (T : Nm mg) (cN : Cal P w K mg base 6 "need_twos" ["table"] spNeedTwos) (cO : Cal P w K mg base 1 "order_of" ["table"] spOrderOf) (cR : Cal P w K mg base 1 "rings_of" ["told"] spRingsOf) :
    FnOk P w K mg base CX0 7 f fd ["table"] spLeastBy := by
  refine F.ok scLeastBy (fun vs H Q E h => ?_) (fun cdv A outer s H vs Q E hr h => ?_)
  · obtain ⟨v, ps, k, rfl, _⟩ := h
    rfl
  · obtain ⟨v, ps, k, rfl, hT, hd, tw, hk, q⟩ := h
    refine ⟨_, pss_cons (ps_expr (pe_cal cN hr (pa_cons (pv 0) pa_nil)))
      (pss_one (ps_ret (pe_op op_sub (pe_callB (k_len (K := K) rfl) (by rfl) T.len PySem.boot_len (pa_cons (pv 0) pa_nil))
        (pe_callB (k_len (K := K) rfl) (by rfl) T.len PySem.boot_len (pa_cons (pe_cal cR hr (pa_cons (pe_cal cO hr (pa_cons (pv 0) pa_nil)) pa_nil)) pa_nil))))), ?_⟩
    have t6 := tw.len
    refine q_drop (ev_cal (EvA.one (ev_var rfl)) fun H1 e Q k => ⟨v, ps, rfl, hT.up e, tw, k⟩) fun H1 e1 => ?_
    have hT1 := hT.up e1
    refine s_ret (v := .int ((ps.length : Int) - (k : Int))) (ev_cmp (gg := fun i j => .int (i - j)) ?_ ?_) fun H2 e2 => q H2 (e1.trans e2)
    · obtain ⟨a, xs, rfl, ha, hrows⟩ := hT1
      refine ev_is (ev_cb (EvA.one (ev_var rfl)) (rc_lenT (K := K) (SqT.of ha))) ?_
      rw [hrows.1, List.length_map]
    · refine ev_cbP (P := fun v H => ∃ p xs, v = .ref p ∧ H p = some (.lst xs) ∧ xs.length = k) ?_ fun v H2 e2 ⟨p, xs, ev, hp, hl⟩ Q kk => ⟨p, xs, by rw [ev], .inl (SqL.of hp), by rw [hl]; exact kk⟩
      exact ep_calP (P := fun v H => Tup H v (ordM ps)) (ep_cal (EvA.one (ev_var rfl)) fun H3 e3 Q k => ⟨v, ps, rfl, hT1.up e3, hd, by omega, k⟩) fun u H3 e3 hu Q kk =>
        ⟨u, ordM ps, k, rfl, hu, by rw [ordM_len]; omega, by rw [ordM_len]; exact hk, kk⟩
theorem scMostBy : FnScope ["table", "told", "at", "place", "other"] ["table"] (defScope sMostBy) := ⟨rfl, rfl, rfl, by decide +kernel, rfl, by decide +kernel, by decide +kernel⟩
theorem ok_mostBy (F : Fun K "most_by_odds" "most_by_odds" sMostBy f fd) (T : Nm mg) (cN : Cal P w K mg base 6 "need_twos" ["table"] spNeedTwos) (cO : Cal P w K mg base 1 "order_of" ["table"] spOrderOf) :
    FnOk P w K mg base CX0 7 f fd ["table"] spMostBy := by
  refine F.ok scMostBy (fun vs H Q E h => ?_) (fun cdv A outer s H vs Q E hr h => ?_)
  · obtain ⟨v, ps, rfl, _⟩ := h
    rfl
  · obtain ⟨v, ps, rfl, hT, hd, tw, q⟩ := h
    refine ⟨_, pss_cons (ps_expr (pe_cal cN hr (pa_cons (pv 0) pa_nil)))
      (pss_cons (ps_set (i := 1) scMostBy.nd rfl (.inr rfl) (pe_cal cO hr (pa_cons (pv 0) pa_nil)))
      (pss_one (ps_ret (pe_callB (cr_sum rfl) (by rfl) T.sum (by decide +kernel) (pa_cons
        (pe_lc (own := [("at", 2), ("place", 3)]) (tt := tYes) rfl scMostBy.nd (pi_enumT (by rfl) T.enum (pa_cons (pv 1) pa_nil)) (blkOk_by (N := ["table", "told", "at", "place", "other"]) (sc := defScope sMostBy) (by decide +kernel))
          (g := gTup K 2 (gCons (gName 2) (gCons (gName 3) gNil)))
          (fun _ _ _ _ _ => pg_tup rfl (pgs_cons (pg_name (i := 2) scMostBy.nd rfl (Or.inl rfl)) (pgs_cons (pg_name (i := 3) scMostBy.nd rfl (Or.inr rfl)) pgs_nil))) (fun _ _ _ _ _ => pts_nil)
          (fun _ _ _ _ _ => pe_callB (k_len (K := K) rfl) (by rfl) T.len PySem.boot_len (pa_cons
            (pe_lc (own := [("other", 4)]) (g := gName 4) rfl scMostBy.nd (k_pit (K := K) rfl (pe_slice (k_slT (K := K) rfl) (pv 1) (po_some (pe_op op_add (pv 2) pe_int)) po_none)) (blkOk_by (N := ["table", "told", "at", "place", "other"]) (by kernel_rfl))
              (fun _ _ _ _ _ => pg_name (i := 4) scMostBy.nd rfl (Or.inl rfl)) (fun _ _ _ _ _ => pts_one (pt_cmpR op_lt (pv 4) (pv 3) (nomark _))) (fun _ _ _ _ _ => pv 4)) pa_nil))) pa_nil))))), ?_⟩
    have t6 := tw.len
    have hln := ordM_len ps
    refine q_drop (ev_cal (EvA.one (ev_var rfl)) fun H1 e Q k => ⟨v, ps, rfl, hT.up e, tw, k⟩) fun H1 e1 => ?_
    refine q_asgP (ep_cal (P := fun v H => Tup H v (ordM ps)) (EvA.one (ev_var rfl)) fun H2 e Q k => ⟨v, ps, rfl, hT.up (e1.trans e), hd, by omega, k⟩) fun u H2 e2 hu => ?_
    generalize hns : ordM ps = ns at hu q hln
    obtain ⟨a, rfl, ha⟩ := hu
    refine s_ret (v := .int (mostM ns)) (ev_cbP (ep_l (el_lcP (K := K) (fun _ => true) (fun i => .int (((ns.drop (i + 1)).countP fun n => decide (n < ns.getD i 0) : Nat) : Int)) (ei_enumT (K := K) (xs := ns.map V.int) (EvA.one (ev_var rfl)) (SqT.of ha)) (by rw [List.length_map]; omega) (fun x y => rfl) fun i x H3 e3 hi hx => ?_)) ?_) fun H3 e3 => q H3 ((e1.trans e2).trans e3)
    · obtain ⟨T', y, h1, h2, h3⟩ := hx
      rw [List.getElem?_map] at h3
      obtain ⟨m, hm, rfl⟩ := Option.map_eq_some_iff.mp h3
      have hg : ns.getD i 0 = m := by
        rw [List.getD_eq_getElem?_getD, hm]
        rfl
      rw [hg]
      refine ⟨T', _, _, h1, h2, et_yes, fun _ => ev_count (K := K) (fun n => decide (n < m)) (ep_from (K := K) (ns := ns) (m := i + 1) (ev_var rfl) ⟨a, rfl, e3 _ _ ha⟩ ?_) (by rw [List.length_drop]; omega) (fun x => rfl) (fun x => rfl) fun n H4 e4 => et_test (ev_op (ev_var rfl) (ev_var rfl) rv_I0)⟩
      exact ev_is (ev_cmp (gg := fun i j => .int (i + j)) (ev_var rfl) ev_c) rfl
    · rintro v H3 e3 ⟨p, rfl, hp⟩ Q k
      refine ⟨p, (List.range ns.length).map fun (i : Nat) => (((ns.drop (i + 1)).countP fun n => decide (n < ns.getD i 0) : Nat) : Int), rfl, SqL.of ?_, k⟩
      rw [hp, given_all, List.length_map, List.map_map]
      rfl
end
end K38
set_option Elab.async false
set_option linter.all false
set_option maxRecDepth 100000
set_option maxHeartbeats 4100000
/-! K38D8: count_orders_by_odds, count_orders_by_rings. -/
namespace K38
open PySem L2 Evl
def addAt (l : List Int) (i : Nat) (c : Int) : List Int := l.set i (l.getD i 0 + c)
def oddsIn (l : List Int) (j : Nat) (c : Int) : Nat → List Int
  | 0 => l
  | s + 1 => addAt (oddsIn l j c s) (j + s) c
def oddsRow (found : List Int) (size : Nat) (l0 : List Int) : Nat → List Int
  | 0 => l0
  | j + 1 => oddsIn (oddsRow found size l0 j) j (found.getD j 0) size
def oddsAll : Nat → List Int
  | 0 => [1]
  | i + 1 => oddsRow (oddsAll i) (i + 2) (List.replicate ((oddsAll i).length + (i + 1)) 0) (oddsAll i).length
def ringsRow (found : List Int) (size : Int) (l0 : List Int) : Nat → List Int
  | 0 => l0
  | j + 1 => addAt (ringsRow found size l0 j) (j + 1) (size * found.getD j 0)
def ringsAll : Nat → List Int
  | 0 => [1]
  | i + 1 => ringsRow (ringsAll i) ((i : Int) + 1) (ringsAll i ++ [0]) (ringsAll i).length
theorem addAt_len (l : List Int) (i : Nat) (c : Int) : (addAt l i c).length = l.length := List.length_set
theorem oddsIn_len (l : List Int) (j : Nat) (c : Int) : ∀ s, (oddsIn l j c s).length = l.length
  | 0 => rfl
  | s + 1 => (addAt_len _ _ _).trans (oddsIn_len l j c s)
theorem oddsRow_len (found : List Int) (size : Nat) (l0 : List Int) : ∀ j, (oddsRow found size l0 j).length = l0.length
  | 0 => rfl
  | j + 1 => (oddsIn_len _ _ _ _).trans (oddsRow_len found size l0 j)
theorem oddsAll_len : ∀ i, (oddsAll (i + 1)).length = (oddsAll i).length + (i + 1) := fun i => by
  show (oddsRow (oddsAll i) (i + 2) _ _).length = _
  rw [oddsRow_len, List.length_replicate]
theorem oddsAll_le : ∀ i, i ≤ 6 → (oddsAll i).length ≤ 1 + 7 * i
  | 0, _ => Nat.le_refl _
  | i + 1, h => by
    rw [oddsAll_len]
    have := oddsAll_le i (by omega)
    omega
theorem ringsRow_len (found : List Int) (size : Int) (l0 : List Int) : ∀ j, (ringsRow found size l0 j).length = l0.length
  | 0 => rfl
  | j + 1 => (addAt_len _ _ _).trans (ringsRow_len found size l0 j)
theorem ringsAll_len : ∀ i, (ringsAll i).length = i + 1
  | 0 => rfl
  | i + 1 => by
    show (ringsRow (ringsAll i) _ _ _).length = _
    rw [ringsRow_len, List.length_append, ringsAll_len i]
    rfl
def spCntOdds : Sp := fun vs H Q _ => ∃ m : Nat, vs = [.int (m : Int)] ∧ 1 ≤ m ∧ m ≤ 6 ∧ GivesP (fun v H => Tup H v (oddsAll (m - 1))) H Q
def spCntRings : Sp := fun vs H Q _ => ∃ m : Nat, vs = [.int (m : Int)] ∧ 1 ≤ m ∧ m ≤ 6 ∧ GivesP (fun v H => Tup H v (ringsAll (m - 1))) H Q
section
variable {K : PySem.W.Frag} {σ : L2.St} {H : Hp} {ta tb te : TE} {D : Ends} {tz tu : TS} {g : TG}
/-- xs[i] += e, ints -/
theorem s_augL {l : Addr} {ns : List Int} {j : Nat} {c : Int} (hl : H l = some (.lst (ns.map V.int))) (hj : j < ns.length) (ha : Ev ta σ H (.ref l)) (hb : Ev tb σ H (.int (j : Int))) (he : Ev te σ H (.int c))
    (k : ∀ H1, Ex H H1 → D.nx σ (upd H1 l (.lst ((addAt ns j c).map V.int)))) : tAugS ta tb te (rIxL K) (ipI fun i j => i + j) rSetL D σ H :=
  ha H (Ex.refl H) _ fun H1 e1 => hb H1 e1 _ fun H2 e2 => by
    have hl2 := (e1.trans e2) _ _ hl
    refine ⟨l, _, (j : Int), .int (ns.getD j 0), rfl, rfl, SqL.of hl2, atI_nat ?_, he H2 (e1.trans e2) _ fun H3 e3 => ⟨_, _, rfl, rfl, l, _, (j : Int), j, rfl, rfl, e3 _ _ hl2, ixN_nat (by rw [List.length_map]; exact hj), ?_⟩⟩
    · rw [List.getElem?_map, List.getD_eq_getElem?_getD, List.getElem?_eq_getElem hj]
      rfl
    · have z := k H3 ((e1.trans e2).trans e3)
      unfold addAt at z
      rw [List.map_set] at z
      exact z
theorem el_rep0 {k : Nat} (h : Ev tb σ H (.int (k : Int))) (hk : k ≤ 1000) : EvL (tOp rRep (tLst (tCons (tC (.int 0)) tNil)) tb) σ H ((List.replicate k (0 : Int)).map V.int) := fun H1 e Q q =>
  ⟨Nat.le_of_lt (by decide), fun p hp => h _ (e.trans (Ex.new hp)) _ fun H2 e2 => ⟨p, (k : Int), _, rfl, rfl, e2 _ _ upd_same, by omega, by omega, by
      show 1 * (k : Int).toNat ≤ sizeLine
      exact Nat.le_trans (show 1 * (k : Int).toNat ≤ 1000 by omega) (by decide), fun p2 hp2 => q p2 _ (fresh_back ((Ex.new hp).trans e2) hp2) (((Ex.new hp).trans e2).trans (Ex.new hp2)) (by
      rw [upd_same, Int.toNat_natCast, List.flatten_replicate_singleton, List.map_replicate])⟩⟩
theorem el_cat {a : Addr} {xs ys : List V} (ha : Ev ta σ H (.ref a)) (hx : H a = some (.lst xs)) (hb : EvL tb σ H ys) (hz : xs.length + ys.length ≤ 100000) : EvL (tOp rCat ta tb) σ H (xs ++ ys) := fun H1 e Q q =>
  ha H1 e _ fun H2 e2 => hb H2 (e.trans e2) _ fun b H3 _ e3 hbv => ⟨a, b, xs, ys, rfl, rfl, ((e.trans e2).trans e3) _ _ hx, hbv, sz_of hz, fun p hp => q p _ (fresh_back (e2.trans e3) hp) ((e2.trans e3).trans (Ex.new hp)) upd_same⟩
/-- for i, x in enumerate(xs): a list that stands still, turns that change other things -/
theorem q_forE {a : Addr} {xs : List V} {te' : TE} (h : Ev te' σ H (.ref a)) (hx : SqL K H a xs) (Pv : Nat → L2.St → Hp → Prop) (h0 : ∀ H1, Ex H H1 → Pv 0 σ H1) (hl : ∀ i σ' H', i ≤ xs.length → Pv i σ' H' → SqL K H' a xs)
    (hs : ∀ i y T σ' H' H2, xs[i]? = some y → Pv i σ' H' → H' T = none → Ex H' H2 → H2 T = some (.tup [.int (i : Int), y]) → g (.ref T) σ' H2 fun σ2 H3 => tu { D with nx := Pv (i + 1), ct := Pv (i + 1), bk := tz D } σ2 H3)
    (hd : ∀ σ' H', Pv xs.length σ' H' → tz D σ' H') : tSeq (tFor (iEnum K (tCons te' tNil)) g tu) tz D σ H :=
  h H (Ex.refl H) _ fun H1 e1 => ⟨a, xs, rfl, ex_l e1 hx, for_it (D := { D with nx := tz D }) (walk_enum (K := K) (a := a) (xs := xs)) Pv (h0 H1 e1) (fun i σ' H' hi p => hl i σ' H' hi p)
    (fun i x σ' H2 H3 hi p y => by
      obtain ⟨T, x1, x2, h1, h2, h3, h4, h5⟩ := y
      subst h1 h3
      refine hs i x2 T σ' H2 _ h5 p h2 (Ex.new h2) ?_
      rw [upd_same, ← Option.some.inj h4]) hd⟩
end
section
variable {P : Program} {w : World} {K : PySem.W.Frag} {mg : Str → Option Value} {base : Heap} {f : Addr} {fd : FuncData}
theorem scCntOdds : FnScope ["many", "found", "size", "later", "at", "count", "step"] ["many"] (defScope sCntOdds) := ⟨rfl, rfl, rfl, by decide +kernel, rfl, by decide +kernel, by decide +kernel⟩
theorem ok_cntOdds (F : Fun K "count_orders_by_odds" "count_orders_by_odds" sCntOdds f fd) (T : Nm mg) (cN : Cal P w K mg base 3 "need_number" ["value", "low", "high"] spNeedNumber) :
    FnOk P w K mg base CX0 4 f fd ["many"] spCntOdds := by
  refine F.ok scCntOdds (fun vs H Q E h => ?_) (fun cdv A outer s H vs Q E hr h => ?_)
  · obtain ⟨m, rfl, _⟩ := h
    rfl
  · obtain ⟨m, rfl, h1, h6, q⟩ := h
    obtain ⟨tp, hmp⟩ := T.mp
    refine ⟨_, pss_cons (ps_expr (pe_cal cN hr (pa_cons (pv 0) (pa_cons pe_int (pa_cons (pe_glob (v := .int 6) (by rfl) hmp ⟨_, rfl⟩) pa_nil)))))
      (pss_cons (ps_set (i := 1) scCntOdds.nd rfl (.inl rfl) (pe_lst (pa_cons pe_int pa_nil)))
      (pss_cons (ps_for PassesOwn.never rfl (pi_range2 (by rfl) T.range (pa_cons pe_int (pa_cons (pe_op op_add (pv 0) pe_int) pa_nil))) (pg_name (i := 2) scCntOdds.nd rfl (.inl rfl))
          (pss_cons (ps_set (i := 3) scCntOdds.nd rfl (.inl rfl) (pe_op op_rep (pe_lst (pa_cons pe_int pa_nil)) (pe_op op_sub (pe_op op_add (pe_callB (k_len (K := K) rfl) (by rfl) T.len PySem.boot_len (pa_cons (pv 1) pa_nil)) (pv 2)) pe_int)))
          (pss_cons (ps_for PassesOwn.never rfl (pi_enum (by rfl) T.enum (pa_cons (pv 1) pa_nil)) (pg_tup rfl (pgs_cons (pg_name (i := 4) scCntOdds.nd rfl (.inl rfl)) (pgs_cons (pg_name (i := 5) scCntOdds.nd rfl (.inl rfl)) pgs_nil)))
              (pss_one (ps_for PassesOwn.never rfl (pi_range1 (by rfl) T.range (pa_cons (pv 2) pa_nil)) (pg_name (i := 6) scCntOdds.nd rfl (.inl rfl))
                (pss_one (ps_augS (pv 3) (pe_op op_add (pv 4) (pv 6)) gt_list (pv 5) ip_add set_list)))))
          (pss_one (ps_set (i := 1) scCntOdds.nd rfl (.inl rfl) (pv 3))))))
      (pss_one (ps_ret (pe_callTy (k_tupOf (K := K) rfl) (by rfl) T.tuple PyProof.Rows.boot_tuple (pa_cons (pv 1) pa_nil)))))), ?_⟩
    refine q_drop (ev_cal (ea_cons (ev_var rfl) (ea_two (K := K) ev_c ev_c)) fun H1 e Q k => ⟨(m : Int), 1, 6, rfl, by omega, by omega, k⟩) fun H1 e1 => ?_
    refine q_asgL (xs := [1].map V.int) (el_lst (EvA.one ev_c) (by decide)) fun fp H2 nfp e2 hfp => ?_
    refine q_forR2 (lo := 2) (n := (m : Int) + 1) (ea_two (K := K) ev_c (ev_cmp (gg := fun i j => .int (i + j)) (ev_var rfl) ev_c)) ⟨by omega, by omega, by omega, by omega⟩
      (fun i σ' H' => ∃ (fp : Addr) (y2 y3 y4 y5 y6 : Option V), σ' = [some (.int (m : Int)), some (.ref fp), y2, y3, y4, y5, y6] ∧ Ex H H' ∧ H' fp = some (.lst ((oddsAll i).map V.int)))
      (fun H3 e3 => ⟨fp, none, none, none, none, none, rfl, (e1.trans e2).trans e3, e3 _ _ hfp⟩) ?_ ?_
    · rintro i σ' H3 hi ⟨fp, y2, y3, y4, y5, y6, rfl, e3, hfp⟩
      have hi6 : i ≤ 6 := by omega
      have hle := oddsAll_le i hi6
      have hlen : Ev (tCB (rLenS K) (tCons (tVar 1) tNil)) [some (.int (m : Int)), some (.ref fp), some (.int (2 + (i : Int))), y3, y4, y5, y6] H3 (.int ((oddsAll i).length : Int)) := by
        have z := ev_len (K := K) (σ := [some (.int (m : Int)), some (.ref fp), some (.int (2 + (i : Int))), y3, y4, y5, y6]) (ta := tVar 1) (ev_var rfl) (SqL.of (K := K) hfp)
        rw [List.length_map] at z
        exact z
      refine q_asgL (el_rep0 (k := (oddsAll i).length + (i + 1)) (ev_is (ev_cmp (gg := fun i j => .int (i - j)) (ev_cmp (gg := fun i j => .int (i + j)) hlen (ev_var rfl)) ev_c) ?_) (by omega)) fun lp H4 nlp e4 hlp => ?_
      · congr 1
        omega
      have hne : lp ≠ fp := (ne_of_none hfp nlp).symm
      refine q_forE (K := K) (xs := (oddsAll i).map V.int) (ev_var rfl) (SqL.of (e4 _ _ hfp))
        (fun j σ' H' => ∃ (y4 y5 y6 : Option V), σ' = [some (.int (m : Int)), some (.ref fp), some (.int (2 + (i : Int))), some (.ref lp), y4, y5, y6] ∧ Ex H H' ∧ H' fp = some (.lst ((oddsAll i).map V.int)) ∧ H' lp = some (.lst ((oddsRow (oddsAll i) (i + 2) (List.replicate ((oddsAll i).length + (i + 1)) 0) j).map V.int)))
        (fun H5 e5 => ⟨y4, y5, y6, rfl, (e3.trans e4).trans e5, e5 _ _ (e4 _ _ hfp), e5 _ _ hlp⟩) (fun j σ' H' _ ⟨_, _, _, _, _, h, _⟩ => SqL.of h) ?_ ?_
      · rintro j y T' σ' H5 H6 hy ⟨y4, y5, y6, rfl, e5, g1, g2⟩ nT e6 hT
        rw [List.getElem?_map] at hy
        obtain ⟨c, hc, rfl⟩ := Option.map_eq_some_iff.mp hy
        have hg : (oddsAll i).getD j 0 = c := by
          rw [List.getD_eq_getElem?_getD, hc]
          rfl
        have hj : j < (oddsAll i).length := (List.getElem?_eq_some_iff.mp hc).1
        refine ⟨T', _, rfl, SqT.of hT, rfl, _, _, rfl, _, _, rfl, rfl, ?_⟩
        refine s_forR1 (n := 2 + (i : Int)) (EvA.one (ev_var rfl)) ⟨by omega, by omega⟩
          (fun s σ' H' => ∃ y6 : Option V, σ' = [some (.int (m : Int)), some (.ref fp), some (.int (2 + (i : Int))), some (.ref lp), some (.int (j : Int)), some (.int c), y6] ∧ Ex H H' ∧ H' fp = some (.lst ((oddsAll i).map V.int)) ∧
            H' lp = some (.lst ((oddsIn (oddsRow (oddsAll i) (i + 2) (List.replicate ((oddsAll i).length + (i + 1)) 0) j) j c s).map V.int)))
          (fun H7 e7 => ⟨y6, rfl, (e5.trans e6).trans e7, e7 _ _ (e6 _ _ g1), e7 _ _ (e6 _ _ g2)⟩) ?_ ?_
        · rintro s σ' H7 hs ⟨y6, rfl, e7, k1, k2⟩
          refine s_augL (K := K) (j := j + s) (c := c) k2 ?_ (ev_var rfl) (ev_is (ev_cmp (gg := fun i j => .int (i + j)) (ev_var rfl) (ev_var rfl)) ?_) (ev_var rfl) fun H8 e8 => ⟨_, rfl, Ex.mut (e7.trans e8) (fresh_back e3 nlp), ?_, upd_same⟩
          · rw [oddsIn_len, oddsRow_len, List.length_replicate]
            omega
          · congr 1
          · rw [upd_ne hne.symm]
            exact e8 _ _ k1
        · rintro σ' H7 ⟨y6, rfl, e7, k1, k2⟩
          refine ⟨_, _, _, rfl, e7, k1, ?_⟩
          rw [k2]
          show _ = some (HO.lst ((oddsIn _ j ((oddsAll i).getD j 0) (i + 2)).map V.int))
          rw [hg]
          congr 3
          congr 1
          omega
      · rintro σ' H5 ⟨y4, y5, y6, rfl, e5, g1, g2⟩
        rw [List.length_map] at g2
        exact s_asg (ev_var rfl) fun H6 e6 => ⟨lp, _, _, _, _, _, rfl, e5.trans e6, e6 _ _ g2⟩
    · rintro σ' H3 ⟨fp, y2, y3, y4, y5, y6, rfl, e3, hfp⟩
      have e : ((m : Int) + 1 - 2).toNat = m - 1 := by omega
      rw [e] at hfp
      refine s_retP (ep_tupOf (K := K) (ep_evr (ev_var rfl) fun H4 e4 => ⟨fp, rfl, e4 _ _ hfp⟩)) fun v H4 e4 ⟨p, ev, hp⟩ => q v H4 (e3.trans e4) ⟨p, ev, hp⟩
end
end K38
set_option Elab.async false
set_option linter.all false
set_option maxRecDepth 100000
set_option maxHeartbeats 4100000
/-! K38D9: count_orders_by_rings. -/
namespace K38
open PySem L2 Evl
section
variable {P : Program} {w : World} {K : PySem.W.Frag} {mg : Str → Option Value} {base : Heap} {f : Addr} {fd : FuncData}
theorem scCntRings : FnScope ["many", "found", "size", "later", "at", "count"] ["many"] (defScope sCntRings) := ⟨rfl, rfl, rfl, by decide +kernel, rfl, by decide +kernel, by decide +kernel⟩
theorem ok_cntRings (F : Fun K "count_orders_by_rings" "count_orders_by_rings" sCntRings f fd) (T : Nm mg) (cN : Cal P w K mg base 3 "need_number" ["value", "low", "high"] spNeedNumber) :
    FnOk P w K mg base CX0 4 f fd ["many"] spCntRings := by
  refine F.ok scCntRings (fun vs H Q E h => ?_) (fun cdv A outer s H vs Q E hr h => ?_)
  · obtain ⟨m, rfl, _⟩ := h
    rfl
  · obtain ⟨m, rfl, h1, h6, q⟩ := h
    obtain ⟨tp, hmp⟩ := T.mp
    refine ⟨_, pss_cons (ps_expr (pe_cal cN hr (pa_cons (pv 0) (pa_cons pe_int (pa_cons (pe_glob (v := .int 6) (by rfl) hmp ⟨_, rfl⟩) pa_nil)))))
      (pss_cons (ps_set (i := 1) scCntRings.nd rfl (.inl rfl) (pe_lst (pa_cons pe_int pa_nil)))
      (pss_cons (ps_for PassesOwn.never rfl (pi_range2 (by rfl) T.range (pa_cons pe_int (pa_cons (pv 0) pa_nil))) (pg_name (i := 2) scCntRings.nd rfl (.inl rfl))
          (pss_cons (ps_set (i := 3) scCntRings.nd rfl (.inl rfl) (pe_op op_cat (pv 1) (pe_lst (pa_cons pe_int pa_nil))))
          (pss_cons (ps_for PassesOwn.never rfl (pi_enum (by rfl) T.enum (pa_cons (pv 1) pa_nil)) (pg_tup rfl (pgs_cons (pg_name (i := 4) scCntRings.nd rfl (.inl rfl)) (pgs_cons (pg_name (i := 5) scCntRings.nd rfl (.inl rfl)) pgs_nil)))
              (pss_one (ps_augS (pv 3) (pe_op op_add (pv 4) pe_int) gt_list (pe_op op_mul (pv 2) (pv 5)) ip_add set_list)))
          (pss_one (ps_set (i := 1) scCntRings.nd rfl (.inl rfl) (pv 3))))))
      (pss_one (ps_ret (pe_callTy (k_tupOf (K := K) rfl) (by rfl) T.tuple PyProof.Rows.boot_tuple (pa_cons (pv 1) pa_nil)))))), ?_⟩
    refine q_drop (ev_cal (ea_cons (ev_var rfl) (ea_two (K := K) ev_c ev_c)) fun H1 e Q k => ⟨(m : Int), 1, 6, rfl, by omega, by omega, k⟩) fun H1 e1 => ?_
    refine q_asgL (xs := [1].map V.int) (el_lst (EvA.one ev_c) (by decide)) fun fp H2 nfp e2 hfp => ?_
    refine q_forR2 (lo := 1) (n := (m : Int)) (ea_two (K := K) ev_c (ev_var rfl)) ⟨by omega, by omega, by omega, by omega⟩
      (fun i σ' H' => ∃ (fp : Addr) (y2 y3 y4 y5 : Option V), σ' = [some (.int (m : Int)), some (.ref fp), y2, y3, y4, y5] ∧ Ex H H' ∧ H' fp = some (.lst ((ringsAll i).map V.int)))
      (fun H3 e3 => ⟨fp, none, none, none, none, rfl, (e1.trans e2).trans e3, e3 _ _ hfp⟩) ?_ ?_
    · rintro i σ' H3 hi ⟨fp, y2, y3, y4, y5, rfl, e3, hfp⟩
      have hle := ringsAll_len i
      refine q_asgL (el_cat (xs := (ringsAll i).map V.int) (ys := [0].map V.int) (ev_var rfl) hfp (el_lst (EvA.one ev_c) (by decide)) (by rw [List.length_map, List.length_map]; show (ringsAll i).length + 1 ≤ 100000; omega)) fun lp H4 nlp e4 hlp => ?_
      rw [← List.map_append] at hlp
      have hne : lp ≠ fp := (ne_of_none hfp nlp).symm
      refine q_forE (K := K) (xs := (ringsAll i).map V.int) (ev_var rfl) (SqL.of (e4 _ _ hfp))
        (fun j σ' H' => ∃ (y4 y5 : Option V), σ' = [some (.int (m : Int)), some (.ref fp), some (.int (1 + (i : Int))), some (.ref lp), y4, y5] ∧ Ex H H' ∧ H' fp = some (.lst ((ringsAll i).map V.int)) ∧ H' lp = some (.lst ((ringsRow (ringsAll i) ((i : Int) + 1) (ringsAll i ++ [0]) j).map V.int)))
        (fun H5 e5 => ⟨y4, y5, rfl, (e3.trans e4).trans e5, e5 _ _ (e4 _ _ hfp), e5 _ _ hlp⟩) (fun j σ' H' _ ⟨_, _, _, _, h, _⟩ => SqL.of h) ?_ ?_
      · rintro j y T' σ' H5 H6 hy ⟨y4, y5, rfl, e5, g1, g2⟩ nT e6 hT
        rw [List.getElem?_map] at hy
        obtain ⟨c, hc, rfl⟩ := Option.map_eq_some_iff.mp hy
        have hg : (ringsAll i).getD j 0 = c := by
          rw [List.getD_eq_getElem?_getD, hc]
          rfl
        have hj : j < (ringsAll i).length := (List.getElem?_eq_some_iff.mp hc).1
        refine ⟨T', _, rfl, SqT.of hT, rfl, _, _, rfl, _, _, rfl, rfl, ?_⟩
        refine s_augL (K := K) (j := j + 1) (c := ((i : Int) + 1) * c) (e6 _ _ g2) ?_ (ev_var rfl) (ev_is (ev_cmp (gg := fun i j => .int (i + j)) (ev_var rfl) ev_c) rfl)
          (ev_is (ev_opI (gg := fun i j => .int (i * j)) (ev_var rfl) (ev_var rfl) (.inl ⟨by omega, by omega⟩)) ?_) fun H8 e8 => ⟨_, _, rfl, Ex.mut ((e5.trans e6).trans e8) (fresh_back e3 nlp), ?_, ?_⟩
        · rw [ringsRow_len, List.length_append]
          show j + 1 < (ringsAll i).length + 1
          omega
        · show V.int ((1 + (i : Int)) * c) = V.int (((i : Int) + 1) * c)
          rw [Int.add_comm]
        · rw [upd_ne hne.symm]
          exact e8 _ _ (e6 _ _ g1)
        · rw [upd_same]
          show _ = some (HO.lst ((addAt _ (j + 1) (((i : Int) + 1) * (ringsAll i).getD j 0)).map V.int))
          rw [hg]
      · rintro σ' H5 ⟨y4, y5, rfl, e5, g1, g2⟩
        rw [List.length_map] at g2
        exact s_asg (ev_var rfl) fun H6 e6 => ⟨lp, _, _, _, _, rfl, e5.trans e6, e6 _ _ g2⟩
    · rintro σ' H3 ⟨fp, y2, y3, y4, y5, rfl, e3, hfp⟩
      have e : ((m : Int) - 1).toNat = m - 1 := by omega
      rw [e] at hfp
      refine s_retP (ep_tupOf (K := K) (ep_evr (ev_var rfl) fun H4 e4 => ⟨fp, rfl, e4 _ _ hfp⟩)) fun v H4 e4 ⟨p, ev, hp⟩ => q v H4 (e3.trans e4) ⟨p, ev, hp⟩
end
end K38
set_option Elab.async false
set_option linter.all false
set_option maxRecDepth 100000
set_option maxHeartbeats 4100000
/-! K38L1: _law_taken. -/
namespace K38
open PySem L2 Evl
/-- all but what stands at r stays -/
def ExBut (r : Addr) (H H' : Hp) : Prop := ∀ b o, b ≠ r → H b = some o → H' b = some o
theorem ExBut.refl (r : Addr) (H : Hp) : ExBut r H H := fun _ _ _ h => h
theorem ExBut.up {r : Addr} {H H1 H2 : Hp} (h : ExBut r H H1) (e : Ex H1 H2) : ExBut r H H2 := fun b o n q => e b o (h b o n q)
theorem ExBut.trans {r : Addr} {H H1 H2 : Hp} (h : ExBut r H H1) (e : ExBut r H1 H2) : ExBut r H H2 := fun b o n q => e b o n (h b o n q)
theorem ExBut.put {r : Addr} {H H1 H2 : Hp} {o : HO} (h : ExBut r H H1) (e : Ex H1 H2) : ExBut r H (upd H2 r o) := fun b u n q => by
  rw [upd_ne n]
  exact e b u (h b u n q)
/-- the list of draws: the script, how many are taken, the mixed number, a great cell's rest -/
def rowL (a : Addr) (k z e : Int) : HO := .lst [.ref a, .int k, .int z, .int e]
theorem sql_but {K : PySem.W.Frag} {H H' : Hp} {r a : Addr} {ns : List Int} {k z e : Int} (hr : H r = some (rowL a k z e)) (hs : SqL K H a (ns.map V.int)) (h : ExBut r H H') : SqL K H' a (ns.map V.int) := by
  rcases hs with hs | hs
  · have hne : a ≠ r := fun q => by
      subst q
      rcases hs with q | ⟨o, q⟩
      · rw [hr] at q
        have q := Option.some.inj q
        unfold rowL at q
        cases ns with
        | nil => cases q
        | cons x rest => cases q
      · rw [hr] at q
        cases q
    rcases hs with q | ⟨o, q⟩
    · exact .inl (.inl (h _ _ hne q))
    · exact .inl (.inr ⟨o, h _ _ hne q⟩)
  · exact .inr hs
structure RowOk (K : PySem.W.Frag) (H : Hp) (r a : Addr) (ns : List Int) : Prop where
  ex : ∃ (k z e : Int), H r = some (rowL a k z e) ∧ SqL K H a (ns.map V.int) ∧ ns.length ≤ 1000 ∧ 0 ≤ k ∧ 0 ≤ z ∧ z ≤ 2147483647
theorem RowOk.up {K : PySem.W.Frag} {H H' : Hp} {r a : Addr} {ns : List Int} (h : RowOk K H r a ns) (e : Ex H H') : RowOk K H' r a ns := by
  obtain ⟨k, z, x, h1, h2, h3⟩ := h
  exact ⟨k, z, x, e _ _ h1, ex_l e h2, h3⟩
def spTaken (K : PySem.W.Frag) : Sp := fun vs H Q _ => ∃ (r a : Addr) (ns : List Int) (m : Int), vs = [.ref r, .int m] ∧ 1 ≤ m ∧ m ≤ 100000 ∧ RowOk K H r a ns ∧ ∀ (H' : Hp) (n : Int), ExBut r H H' → RowOk K H' r a ns → 0 ≤ n → n < m → Q (.int n) H'
def rInt : List V → Hp → VK → Prop := fun xs H Q => (∃ i, xs = [.int i] ∧ Q (.int i) H) ∨ ∃ k, xs = [.bl k] ∧ Q (.int (if k then 1 else 0)) H
theorem rc_int {H : Hp} {i : Int} : RC rInt [.int i] H (.int i) := fun H1 _ Q q => .inl ⟨i, rfl, q H1 (Ex.refl H1)⟩
theorem fmod_in (i : Int) {m : Int} (hm : 0 < m) : 0 ≤ i.fmod m ∧ i.fmod m < m := by
  rw [Int.fmod_eq_emod_of_nonneg _ (Int.le_of_lt hm)]
  exact ⟨Int.emod_nonneg _ (by omega), Int.emod_lt_of_pos _ hm⟩
section
variable {P : Program} {w : World} {K : PySem.W.Frag} {mg : Str → Option Value} {base : Heap} {f : Addr} {fd : FuncData}
theorem scTaken : FnScope ["_law_row", "_law_many", "_law_found", "_law_cell"] ["_law_row", "_law_many"] (defScope sTaken) := ⟨rfl, rfl, rfl, by decide +kernel, rfl, by decide +kernel, by decide +kernel⟩
/-- row[j] -/
theorem ev_row {σ : L2.St} {H : Hp} {r a : Addr} {k z e : Int} {j : Nat} {v : V} (hσ : σ[0]? = some (some (.ref r))) (h : H r = some (rowL a k z e)) (hj : [V.ref a, .int k, .int z, .int e][j]? = some v) : Ev (tOp (rIxL K) (tVar 0) (tC (.int (j : Int)))) σ H v :=
  ev_op (ev_var hσ) ev_c (rv_ixL (SqL.of h) (atI_nat hj))
theorem ok_taken (F : Fun K "_law_taken" "_law_taken" sTaken f fd) (T : Nm mg) : FnOk P w K mg base CX0 1 f fd ["_law_row", "_law_many"] (spTaken K) := by
  refine F.ok scTaken (fun vs H Q E h => ?_) (fun cdv A outer s H vs Q E hr h => ?_)
  · obtain ⟨r, a, ns, m, rfl, _⟩ := h
    rfl
  · obtain ⟨r, a, ns, m, rfl, hm1, hm2, ⟨k, z, e, h1, h2, h3, h4, h5, h6⟩, q⟩ := h
    refine ⟨_, pss_cons (ps_if (pt_cmpR op_gt (pe_ix ix_list (pv 0) pe_int (fun _ _ => rfl)) pe_int (nomark _))
        (pss_cons (ps_set (i := 2) scTaken.nd rfl (.inl rfl) (pe_op op_modN (pe_callTy call_int1 (by rfl) T.int PyProof.Rows.boot_int (pa_cons (pe_ix ix_list (pv 0) pe_int (fun _ _ => rfl)) pa_nil)) (pv 1)))
        (pss_cons (ps_asg (pe_op op_fdivN (pe_ix ix_list (pv 0) pe_int (fun _ _ => rfl)) (pv 1)) (pg_sub (pv 0) pe_int set_list))
        (pss_one (ps_ret (pv 2))))) pss_nil)
      (pss_cons (ps_asg (pe_op op_add (pe_ix ix_list (pv 0) pe_int (fun _ _ => rfl)) pe_int) (pg_sub (pv 0) pe_int set_list))
      (pss_cons (ps_if (pt_cmpR op_gt (pe_ix ix_list (pv 0) pe_int (fun _ _ => rfl)) (pe_callB call_len_seq (by rfl) T.len PySem.boot_len (pa_cons (pe_ix ix_list (pv 0) pe_int (fun _ _ => rfl)) pa_nil)) (nomark _))
        (pss_cons (ps_asg (pe_op op_modN (pe_callTy call_int1 (by rfl) T.int PyProof.Rows.boot_int (pa_cons (pe_op op_add (pe_op op_mul (pe_ix ix_list (pv 0) pe_int (fun _ _ => rfl)) pe_int) pe_int) pa_nil)) pe_int) (pg_sub (pv 0) pe_int set_list))
        (pss_one (ps_ret (pe_op op_modN (pe_callTy call_int1 (by rfl) T.int PyProof.Rows.boot_int (pa_cons (pe_op op_fdivN (pe_ix ix_list (pv 0) pe_int (fun _ _ => rfl)) pe_int) pa_nil)) (pv 1))))) pss_nil)
      (pss_cons (ps_set (i := 3) scTaken.nd rfl (.inl rfl) (pe_ix ix_list (pe_ix ix_list (pv 0) pe_int (fun _ _ => rfl)) (pe_op op_sub (pe_ix ix_list (pv 0) pe_int (fun _ _ => rfl)) pe_int) (fun _ _ => rfl)))
      (pss_cons (ps_asg (pe_op op_modN (pe_callTy call_int1 (by rfl) T.int PyProof.Rows.boot_int (pa_cons (pe_op op_add (pe_op op_add (pe_op op_mul (pe_ix ix_list (pv 0) pe_int (fun _ _ => rfl)) pe_int) (pv 3)) pe_int) pa_nil)) pe_int) (pg_sub (pv 0) pe_int set_list))
      (pss_cons (ps_if (pt_cmpR op_ge (pv 3) (pe_op op_pow pe_int pe_int) (nomark _)) (pss_one (ps_asg (pe_op op_fdivN (pv 3) (pv 1)) (pg_sub (pv 0) pe_int set_list))) pss_nil)
      (pss_one (ps_ret (pe_op op_modN (pe_callTy call_int1 (by rfl) T.int PyProof.Rows.boot_int (pa_cons (pv 3) pa_nil)) (pv 1))))))))), ?_⟩
    have hm : m ≠ 0 := by omega
    have hmd : CDivN e m := ⟨hm, by omega⟩
    have big : ∀ x : Int, 0 ≤ x → x ≤ 2147483647 → CMul x 48271 := fun x a b => .inl ⟨by omega, by omega⟩
    have md := fun i : Int => fmod_in i (show (0 : Int) < 2147483647 by decide)
    refine q_when (b := decide (0 < e)) (et_test (ev_op (r := rI0 fun i j => .bl (decide (j < i))) (ev_row (K := K) (j := 3) (by rfl) h1 rfl) ev_c rv_I0)) (fun _ H1 e1 => ?_) (fun _ H1 e1 => ?_)
    · -- a great cell's rest
      refine q_asg (v := .int (e.fmod m)) (ev_opI (gg := fun i j => .int (i.fmod j)) (ev_cb (EvA.one (ev_row (K := K) (j := 3) (by rfl) (e1 _ _ h1) rfl)) rc_int) (ev_var rfl) hm) fun H2 e2 => ?_
      have e12 := e1.trans e2
      refine q_setL (j := 3) (e12 _ _ h1) (ev_opI (gg := fun i j => .int (i.fdiv j)) (ev_row (K := K) (j := 3) (by rfl) (e12 _ _ h1) rfl) (ev_var rfl) hmd) (ev_var rfl) ev_c (by show _ < 4; decide) fun H3 e3 => ?_
      have b3 : ExBut r H (upd H3 r (rowL a k z (e.fdiv m))) := (ExBut.refl r H).put (e12.trans e3)
      exact s_ret (ev_var rfl) fun H4 e4 => q H4 _ (b3.up e4) (RowOk.up ⟨k, z, e.fdiv m, upd_same, sql_but h1 h2 b3, h3, h4, h5, h6⟩ e4) (fmod_in e (by omega)).1 (fmod_in e (by omega)).2
    · refine q_setL (j := 1) (e1 _ _ h1) (ev_cmp (gg := fun i j => .int (i + j)) (ev_row (K := K) (j := 1) (by rfl) (e1 _ _ h1) rfl) ev_c) (ev_var rfl) ev_c (by show _ < 4; decide) fun H2 e2 => ?_
      have b2 : ExBut r H (upd H2 r (rowL a (k + 1) z e)) := (ExBut.refl r H).put (e1.trans e2)
      have s2 := sql_but h1 h2 b2
      have r2 : (upd H2 r (rowL a (k + 1) z e)) r = some (rowL a (k + 1) z e) := upd_same
      show tSeq (tIfS _ _ _) _ _ _ (upd H2 r (rowL a (k + 1) z e))
      generalize upd H2 r (rowL a (k + 1) z e) = G2 at b2 s2 r2 ⊢
      have hln : ((ns.map V.int).length : Int) = (ns.length : Int) := by rw [List.length_map]
      refine q_when (b := decide ((ns.length : Int) < k + 1)) (et_test (ev_op (r := rI0 fun i j => .bl (decide (j < i))) (ev_row (K := K) (j := 1) (by rfl) r2 rfl) (ev_is (ev_cb (EvA.one (ev_row (K := K) (j := 0) (by rfl) r2 rfl)) (rc_lenL (K := K) s2)) (by rw [hln])) rv_I0)) (fun _ H3 e3 => ?_) (fun hb H3 e3 => ?_)
      · refine q_setL (j := 2) (v := .int ((z * 48271 + 11).fmod 2147483647)) (e3 _ _ r2) (ev_opI (gg := fun i j => .int (i.fmod j)) (ev_cb (EvA.one (ev_cmp (gg := fun i j => .int (i + j)) (ev_opI (gg := fun i j => .int (i * j)) (ev_row (K := K) (j := 2) (by rfl) (e3 _ _ r2) rfl) ev_c (big z h5 h6)) ev_c)) rc_int) ev_c (by decide)) (ev_var rfl) ev_c (by show _ < 4; decide) fun H4 e4 => ?_
        have b4 : ExBut r H (upd H4 r (rowL a (k + 1) ((z * 48271 + 11).fmod 2147483647) e)) := b2.put (e3.trans e4)
        have r4 : (upd H4 r (rowL a (k + 1) ((z * 48271 + 11).fmod 2147483647) e)) r = some (rowL a (k + 1) ((z * 48271 + 11).fmod 2147483647) e) := upd_same
        show tRet _ _ _ (upd H4 r (rowL a (k + 1) ((z * 48271 + 11).fmod 2147483647) e))
        refine s_ret (v := .int ((((z * 48271 + 11).fmod 2147483647).fdiv 7).fmod m)) (ev_opI (gg := fun i j => .int (i.fmod j)) (ev_cb (EvA.one (ev_opI (gg := fun i j => .int (i.fdiv j)) (ev_row (K := K) (j := 2) (by rfl) r4 rfl) ev_c ⟨by decide, by decide⟩)) rc_int) (ev_var rfl) hm) fun H5 e5 => ?_
        have m1 := md (z * 48271 + 11)
        exact q H5 _ (b4.up e5) (RowOk.up ⟨k + 1, _, e, r4, sql_but h1 h2 b4, h3, by omega, m1.1, by omega⟩ e5) (fmod_in _ (by omega)).1 (fmod_in _ (by omega)).2
      · have hk : k.toNat < ns.length := by
          have := of_decide_eq_false hb
          omega
        have hat : (ns.map V.int)[k.toNat]? = some (.int (ns.getD k.toNat 0)) := by
          rw [List.getElem?_map, List.getD_eq_getElem?_getD, List.getElem?_eq_getElem hk]
          rfl
        generalize ns.getD k.toNat 0 = c at hat
        refine q_asg (v := .int c) (ev_op (y := .int ((k.toNat : Nat) : Int)) (ev_row (K := K) (j := 0) (by rfl) (e3 _ _ r2) rfl) (ev_is (ev_cmp (gg := fun i j => .int (i - j)) (ev_row (K := K) (j := 1) (by rfl) (e3 _ _ r2) rfl) ev_c) (by congr 1; omega)) (rv_ixL (ex_l e3 s2) (atI_nat hat))) fun H4 e4 => ?_
        have r4 := e4 _ _ (e3 _ _ r2)
        have m1 := md (z * 48271 + c + 11)
        refine q_setL (j := 2) (v := .int ((z * 48271 + c + 11).fmod 2147483647)) r4 (ev_opI (gg := fun i j => .int (i.fmod j)) (ev_cb (EvA.one (ev_cmp (gg := fun i j => .int (i + j)) (ev_cmp (gg := fun i j => .int (i + j)) (ev_opI (gg := fun i j => .int (i * j)) (ev_row (K := K) (j := 2) (by rfl) r4 rfl) ev_c (big z h5 h6)) (ev_var rfl)) ev_c)) rc_int) ev_c (by decide)) (ev_var rfl) ev_c (by show _ < 4; decide) fun H5 e5 => ?_
        generalize (z * 48271 + c + 11).fmod 2147483647 = z' at m1 ⊢
        have b5 : ExBut r H (upd H5 r (rowL a (k + 1) z' e)) := b2.put ((e3.trans e4).trans e5)
        have r5 : (upd H5 r (rowL a (k + 1) z' e)) r = some (rowL a (k + 1) z' e) := upd_same
        show tSeq (tIfS _ _ _) _ _ _ (upd H5 r (rowL a (k + 1) z' e))
        generalize upd H5 r (rowL a (k + 1) z' e) = G5 at b5 r5 ⊢
        have fin : ∀ (e' : Int) (G : Hp), ExBut r H G → G r = some (rowL a (k + 1) z' e') → tRet (tOp (rI (fun _ j => j ≠ 0) fun i j => .int (i.fmod j)) (tCB rInt (tCons (tVar 3) tNil)) (tVar 1)) { nx := fun _ H' => Q .non H', rt := Q } [some (.ref r), some (.int m), none, some (.int c)] G := fun e' G bG rG =>
          s_ret (v := .int (c.fmod m)) (ev_opI (gg := fun i j => .int (i.fmod j)) (ev_cb (EvA.one (ev_var rfl)) rc_int) (ev_var rfl) hm) fun H6 e6 =>
            q H6 _ (bG.up e6) (RowOk.up ⟨k + 1, z', e', rG, sql_but h1 h2 bG, h3, by omega, m1.1, by omega⟩ e6) (fmod_in _ (by omega)).1 (fmod_in _ (by omega)).2
        refine q_when (b := decide ((10 : Int) ^ (18 : Int).toNat ≤ c)) (et_test (ev_op (r := rI0 fun i j => .bl (decide (j ≤ i))) (ev_var rfl) (ev_opI (gg := fun i j => .int (i ^ j.toNat)) ev_c ev_c ⟨by decide, by decide, by decide⟩) rv_I0)) (fun _ H6 e6 => ?_) (fun _ H6 e6 => ?_)
        · refine s_setL (j := 3) (v := .int (c.fdiv m)) (e6 _ _ r5) (ev_opI (gg := fun i j => .int (i.fdiv j)) (ev_var rfl) (ev_var rfl) ⟨hm, by omega⟩) (ev_var rfl) ev_c (by show _ < 4; decide) fun H7 e7 => ?_
          exact fin (c.fdiv m) (upd H7 r (rowL a (k + 1) z' (c.fdiv m))) (b5.put (e6.trans e7)) upd_same
        · exact fin e H6 (b5.up e6) (e6 _ _ r5)
end
end K38
set_option Elab.async false
set_option linter.all false
set_option maxRecDepth 100000
set_option maxHeartbeats 4100000
/-! K38L2: _law_perms, _law_alike. -/
namespace K38
open PySem L2 Evl
/-! ### all orders -/
def ext (m : Nat) (told : List Int) : List (List Int) := ((List.range m).filter fun (p : Nat) => !told.contains (p : Int)).map fun (p : Nat) => told ++ [(p : Int)]
def permsAt (m : Nat) : Nat → List (List Int)
  | 0 => [[]]
  | i + 1 => (permsAt m i).flatMap (ext m)
def PermsFit (m : Nat) : Prop := ∀ i, i < m + 1 → (permsAt m i).length ≤ 1000 ∧ ∀ r ∈ permsAt m i, r.length ≤ 1000
def spPerms : Sp := fun vs H Q _ => ∃ m : Nat, vs = [.int (m : Int)] ∧ m ≤ 1000 ∧ PermsFit m ∧ GivesP (fun v H => ∃ p xs, v = .ref p ∧ H p = some (.lst xs) ∧ Rows H xs (permsAt m m)) H Q
section
variable {K : PySem.W.Frag} {σ : L2.St} {H : Hp} {ta tb : TE}
/-- t + (p,) -/
theorem ep_snoc {v : V} {ns : List Int} {p : Int} (h : Ev ta σ H v) (hv : Tup H v ns) (hz : ns.length ≤ 1000) (hb : Ev tb σ H (.int p)) : EvP (tOp (rCatA K) ta (tTup (tCons tb tNil))) σ H (fun v H => Tup H v (ns ++ [p])) := fun H1 e Q q =>
  h H1 e _ fun H2 e2 => hb H2 (e.trans e2) _ fun H3 e3 => ⟨by show 1 ≤ sizeLine; decide, fun b nb => by
    obtain ⟨a, rfl, ha⟩ := hv
    have e4 : Ex H1 (upd H3 b (.tup [.int p])) := (e2.trans e3).trans (Ex.new nb)
    refine ⟨a, b, ns.map V.int, [.int p], rfl, rfl, SqT.of ((e.trans e4) _ _ ha), SqT.of upd_same, ?_, fun hn => q _ _ e4 ⟨b, rfl, ?_⟩, fun _ hn => absurd hn (by simp), fun _ _ c nc => q _ _ (e4.trans (Ex.new nc)) ⟨c, rfl, ?_⟩⟩
    · rw [List.length_map]
      exact Nat.le_trans (show ns.length + 1 ≤ 1001 by omega) (by decide)
    · have hns : ns = [] := by simpa using hn
      subst hns
      exact upd_same
    · rw [upd_same, List.map_append]
      rfl⟩
/-- xs + a new list told by a property -/
theorem ep_catP {a : Addr} {xs : List V} {P P' : V → Hp → Prop} (ha : Ev ta σ H (.ref a)) (hx : H a = some (.lst xs)) (hb : EvP tb σ H P)
    (hp : ∀ v H1, Ex H H1 → P v H1 → ∃ b ys, v = .ref b ∧ H1 b = some (.lst ys) ∧ xs.length + ys.length ≤ 100000 ∧ ∀ p, H1 p = none → P' (.ref p) (upd H1 p (.lst (xs ++ ys)))) : EvP (tOp rCat ta tb) σ H P' := fun H1 e Q q =>
  ha H1 e _ fun H2 e2 => hb H2 (e.trans e2) _ fun v H3 e3 pv => by
    obtain ⟨b, ys, rfl, hb, hz, k⟩ := hp v H3 ((e.trans e2).trans e3) pv
    exact ⟨a, b, xs, ys, rfl, rfl, ((e.trans e2).trans e3) _ _ hx, hb, sz_of hz, fun p np => q _ _ ((e2.trans e3).trans (Ex.new np)) (k p np)⟩
end
theorem s_asgP {σ : L2.St} {H : Hp} {te : TE} {D : Ends} {P : V → Hp → Prop} {i : Nat} (h : EvP te σ H P) (k : ∀ v H1, Ex H H1 → P v H1 → D.nx (σ.set i (some v)) H1) : tAsg te (gName i) D σ H := h H (Ex.refl H) _ k
theorem flat_take {f : List Int → List (List Int)} {rows : List (List Int)} {j : Nat} {r : List Int} (h : rows[j]? = some r) : (rows.take (j + 1)).flatMap f = (rows.take j).flatMap f ++ f r := by
  rw [List.take_add_one, h, List.flatMap_append]
  simp
section
variable {P : Program} {w : World} {K : PySem.W.Frag} {mg : Str → Option Value} {base : Heap} {f : Addr} {fd : FuncData}
theorem scPerms : FnScope ["_law_many", "_law_rows", "_law_turn", "_law_longer", "_law_told", "_law_place"] ["_law_many"] (defScope sPerms) := ⟨rfl, rfl, rfl, by decide +kernel, rfl, by decide +kernel, by decide +kernel⟩
theorem ok_perms (F : Fun K "_law_perms" "_law_perms" sPerms f fd) (T : Nm mg) : FnOk P w K mg base CX0 1 f fd ["_law_many"] spPerms := by
  refine F.ok scPerms (fun vs H Q E h => ?_) (fun cdv A outer s H vs Q E hr h => ?_)
  · obtain ⟨m, rfl, _⟩ := h
    rfl
  · obtain ⟨m, rfl, hm, hfit, q⟩ := h
    refine ⟨_, pss_cons (ps_set (i := 1) scPerms.nd rfl (.inl rfl) (pe_lst (pa_cons (pe_tup pa_nil) pa_nil)))
      (pss_cons (ps_for PassesOwn.never rfl (pi_range1 (by rfl) T.range (pa_cons (pv 0) pa_nil)) (pg_name (i := 2) scPerms.nd rfl (.inl rfl))
          (pss_cons (ps_set (i := 3) scPerms.nd rfl (.inl rfl) (pe_lst pa_nil))
          (pss_cons (ps_for PassesOwn.never rfl (pi_list (pv 1)) (pg_name (i := 4) scPerms.nd rfl (.inr rfl))
              (pss_one (ps_set (i := 3) scPerms.nd rfl (.inl rfl) (pe_op op_cat (pv 3)
                (pe_lc (own := [("_law_place", 5)]) (g := gName 5) rfl scPerms.nd (pi_range1 (by rfl) T.range (pa_cons (pv 0) pa_nil)) (blkOk_by (N := ["_law_many", "_law_rows", "_law_turn", "_law_longer", "_law_told", "_law_place"]) (sc := defScope sPerms) (by decide +kernel))
                  (fun _ _ _ _ _ => pg_name (i := 5) scPerms.nd rfl (Or.inl rfl)) (fun _ _ _ _ _ => pts_one (pt_cmpR (k_notIn (K := K) rfl) (pv 5) (pv 4) (by rfl)))
                  (fun _ _ _ _ _ => pe_op (k_cat (K := K) rfl) (pv 4) (pe_tup (pa_cons (pv 5) pa_nil))))))))
          (pss_one (ps_set (i := 1) scPerms.nd rfl (.inl rfl) (pv 3))))))
      (pss_one (ps_ret (pv 1)))), ?_⟩
    -- rows = [()]
    have z0 : ∀ σ : L2.St, EvP (tLst (tCons (tTup tNil) tNil)) σ H (fun v H => ∃ p xs, v = .ref p ∧ H p = some (.lst xs) ∧ Rows H xs [[]]) := fun σ H1 e Q q =>
      ⟨Nat.zero_le _, fun t nt => ⟨by show 1 ≤ sizeLine; decide, fun rp nrp => q _ _ ((Ex.new nt).trans (Ex.new nrp)) ⟨rp, [V.ref t], rfl, upd_same, Rows.one ⟨t, rfl, (Ex.new nrp) _ _ upd_same⟩⟩⟩⟩
    refine q_asgP (z0 _) fun v G e1 ⟨rp, xs0, ev, hrp, hr0⟩ => ?_
    subst ev
    refine q_forR1 (n := (m : Int)) (EvA.one (ev_var rfl)) ⟨by omega, by omega⟩
      (fun i σ' H' => ∃ (rp : Addr) (xs : List V) (y2 y3 y4 : Option V), σ' = [some (.int (m : Int)), some (.ref rp), y2, y3, y4, none] ∧ Ex H H' ∧ H' rp = some (.lst xs) ∧ Rows H' xs (permsAt m i))
      (fun H1 e => ⟨rp, _, none, none, none, rfl, e1.trans e, e _ _ hrp, hr0.up e⟩) ?_ ?_
    · rintro i σ' H1 hi ⟨rp, xs, y2, y3, y4, rfl, e2, g1, g2⟩
      have him : i < m := by omega
      refine q_asgL (xs := []) (el_lst ea_nil (Nat.zero_le _)) fun lp H2 nlp e3 hlp => ?_
      refine q_forLn (K := K) (xs := xs) (ev_var rfl) (SqL.of (e3 _ _ g1))
        (fun j σ' H' => ∃ (lp : Addr) (ys : List V) (y4 : Option V), σ' = [some (.int (m : Int)), some (.ref rp), some (.int (i : Int)), some (.ref lp), y4, none] ∧ Ex H H' ∧ H' rp = some (.lst xs) ∧ Rows H' xs (permsAt m i) ∧ H' lp = some (.lst ys) ∧ Rows H' ys (((permsAt m i).take j).flatMap (ext m)))
        (fun H3 e4 => ⟨lp, [], y4, rfl, (e2.trans e3).trans e4, e4 _ _ (e3 _ _ g1), g2.up (e3.trans e4), e4 _ _ hlp, Rows.nil⟩) (fun j σ' H' _ ⟨_, _, _, _, _, h, _⟩ => SqL.of h) ?_ ?_
      · rintro j x σ' H3 hx ⟨lp, ys, y4, rfl, e4, k1, k2, k3, k4⟩
        obtain ⟨told, htold⟩ : ∃ r, (permsAt m i)[j]? = some r := ⟨_, List.getElem?_eq_getElem (by rw [← k2.1]; exact (List.getElem?_eq_some_iff.mp hx).1)⟩
        have ht := k2.2 j x told hx htold
        have hz := (hfit i (by omega)).2 told (List.mem_of_getElem? htold)
        have hlen : ys.length + (ext m told).length ≤ 1000 := by
          have a := (hfit (i + 1) (by omega)).1
          rw [show permsAt m (i + 1) = (permsAt m i).flatMap (ext m) from rfl] at a
          rw [k4.1, ← List.length_append, ← flat_take (f := ext m) htold]
          conv at a => lhs; rw [← List.take_append_drop (j + 1) (permsAt m i), List.flatMap_append, List.length_append]
          omega
        refine s_asgP (ep_catP (P' := fun v H => ∃ lp ys, v = .ref lp ∧ H lp = some (.lst ys) ∧ Rows H ys (((permsAt m i).take (j + 1)).flatMap (ext m))) (ev_var rfl) k3 (ep_lcRowsN (fun p => !told.contains (p : Int)) (fun (p : Nat) => told ++ [(p : Int)]) (ei_range1 (n := (m : Int)) (EvA.one (ev_var rfl)) ⟨by omega, by omega⟩) (by omega) (fun x => rfl) fun p y H4 e5 hp hy => ?_) fun v H4 e5 ⟨b, zs, ev, hb, hzs⟩ => ?_) fun v H4 e5 ⟨lp2, ys2, ev, h1, h2⟩ => ?_
        · subst hy
          exact ⟨et_niT (K := K) (ev_var rfl) (ev_var rfl) (ht.up e5), fun _ => ep_snoc (K := K) (ev_var rfl) (ht.up e5) hz (ev_var rfl)⟩
        · have hzs2 : Rows H4 zs (ext m told) := by
            unfold ext
            exact hzs
          refine ⟨b, zs, ev, hb, by rw [hzs2.1]; omega, fun p np => ⟨p, ys ++ zs, rfl, upd_same, ?_⟩⟩
          rw [flat_take htold]
          exact ((k4.up e5).app hzs2).up (Ex.new np)
        · subst ev
          exact ⟨lp2, ys2, _, rfl, e4.trans e5, e5 _ _ k1, k2.up e5, h1, h2⟩
      · rintro σ' H3 ⟨lp, ys, y4, rfl, e4, k1, k2, k3, k4⟩
        rw [k2.1, List.take_length] at k4
        exact s_asg (ev_var rfl) fun H4 e5 => ⟨lp, ys, _, _, _, rfl, e4.trans e5, e5 _ _ k3, k4.up e5⟩
    · rintro σ' H1 ⟨rp, xs, y2, y3, y4, rfl, e2, g1, g2⟩
      rw [Int.toNat_natCast] at g2
      exact s_ret (ev_var rfl) fun H2 e3 => q _ H2 (e2.trans e3) ⟨rp, xs, rfl, e3 _ _ g1, g2.up e3⟩
end
end K38
set_option Elab.async false
set_option linter.all false
set_option maxRecDepth 100000
set_option maxHeartbeats 4100000
/-! K38L3: _law_alike, of two things that are alike. -/
namespace K38
open PySem L2 Evl
/-- the same ints; tuples or lists of things that are alike, n deep -/
def Alike : Nat → V → V → Hp → Prop
  | 0, x, y, _ => ∃ i, x = .int i ∧ y = .int i
  | n + 1, x, y, H => (∃ i, x = .int i ∧ y = .int i) ∨ ∃ (a b : Addr) (xs ys : List V), x = .ref a ∧ y = .ref b ∧ ((H a = some (.tup xs) ∧ H b = some (.tup ys)) ∨ (H a = some (.lst xs) ∧ H b = some (.lst ys))) ∧
      xs.length = ys.length ∧ ys.length ≤ 1000 ∧ ∀ (i : Nat) (u v : V), xs[i]? = some u → ys[i]? = some v → Alike n u v H
theorem Alike.up {H H' : Hp} (e : Ex H H') : ∀ {n : Nat} {x y : V}, Alike n x y H → Alike n x y H'
  | 0, _, _, h => h
  | n + 1, x, y, h => by
    rcases h with h | ⟨a, b, xs, ys, h1, h2, h3, h4, h5, h6⟩
    · exact .inl h
    · refine .inr ⟨a, b, xs, ys, h1, h2, ?_, h4, h5, fun i u v hu hv => (h6 i u v hu hv).up e⟩
      rcases h3 with ⟨p, q⟩ | ⟨p, q⟩
      · exact .inl ⟨e _ _ p, e _ _ q⟩
      · exact .inr ⟨e _ _ p, e _ _ q⟩
def spAlike (n : Nat) : Sp := fun vs H Q _ => ∃ x y : V, vs = [x, y] ∧ Alike n x y H ∧ Gives (.bl true) H Q
/-- a tuple or a list stands: whether it is a list -/
def Seq (H : Hp) (l : Bool) (a : Addr) (xs : List V) : Prop := if l then H a = some (.lst xs) else H a = some (.tup xs)
theorem Seq.up {H H' : Hp} {l : Bool} {a : Addr} {xs : List V} (h : Seq H l a xs) (e : Ex H H') : Seq H' l a xs := by
  unfold Seq at *
  cases l
  · exact e _ _ h
  · exact e _ _ h
section
variable {K : PySem.W.Frag} {σ : L2.St} {H : Hp} {te : TE}
/-- isinstance(x, (tuple, list)) -/
theorem ev_isTL {v : V} {b : Bool} (h : Ev te σ H v) (hk : ∀ H1, Ex H H1 → ∃ t, TyX K H1 v t ∧ PySem.W.kitAny K t [.type "tuple", .type "list"] = some b) : Ev (tCB (rIsiT K) (tCons te (tCons (tTup (tCons (tC (.ty "tuple")) (tCons (tC (.ty "list")) tNil))) tNil))) σ H (.bl b) := fun H1 e Q q =>
  h H1 e _ fun H2 e2 => ⟨by show 2 ≤ sizeLine; decide, fun p np => by
    obtain ⟨t, h1, h2⟩ := hk (upd H2 p (.tup [.ty "tuple", .ty "list"])) ((e.trans e2).trans (Ex.new np))
    exact ⟨v, p, [.ty "tuple", .ty "list"], t, [.type "tuple", .type "list"], b, rfl, upd_same, .cons (.ty _) (.cons (.ty _) .nil), h1, h2, q _ (e2.trans (Ex.new np))⟩⟩
theorem ty_seq {l : Bool} {a : Addr} {xs : List V} (h : Seq H l a xs) : TyX K H (.ref a) (.type (if l then "list" else "tuple")) := by
  unfold Seq at h
  cases l
  · exact .base (.tup h)
  · exact .base (.lst h)
theorem rc_isiS {l : Bool} {a : Addr} {xs : List V} {T : String} {b : Bool} (h : Seq H l a xs) (hk : kitB (if l then "list" else "tuple") T = some b) : RC (rIsi K) [.ref a, .ty T] H (.bl b) := fun H1 e Q q =>
  ⟨_, _, _, _, b, rfl, .ty T, ty_seq (h.up e), kit_ty hk, q H1 (Ex.refl H1)⟩
theorem rc_lenS {l : Bool} {a : Addr} {xs : List V} (h : Seq H l a xs) : RC (rLenS K) [.ref a] H (.int (xs.length : Int)) := by
  unfold Seq at h
  cases l
  · exact rc_lenT (SqT.of h)
  · exact rc_lenL (SqL.of h)
theorem rv_ixSeq {l : Bool} {a : Addr} {xs : List V} {i : Nat} {v : V} (h : Seq H l a xs) (hi : xs[i]? = some v) : RV (rIx K) (.ref a) (.int (i : Int)) H v := fun H1 e Q q => by
  have h1 := h.up e
  unfold Seq at h1
  cases l
  · exact .inr (.inl ⟨a, xs, (i : Int), v, rfl, rfl, SqT.of h1, atI_nat hi, q H1 (Ex.refl H1)⟩)
  · exact .inl ⟨a, xs, (i : Int), v, rfl, rfl, SqL.of h1, atI_nat hi, q H1 (Ex.refl H1)⟩
theorem k_ixS {X : Cx} {K : PySem.W.Frag} (hK : X.K = K) : IxR X (rIx K) := hK ▸ ix_seq
theorem kit_int : PySem.W.kitAny K (.type "int") [.type "tuple", .type "list"] = some false :=
  kitAny_cons (kit_ty (r := false) (by decide +kernel)) (fun _ => kitAny_cons (kit_ty (r := false) (by decide +kernel)) (fun _ => kitAny_nil) (fun z => nomatch z)) (fun z => nomatch z)
theorem kit_seq (l : Bool) : PySem.W.kitAny K (.type (if l then "list" else "tuple")) [.type "tuple", .type "list"] = some true := by
  cases l
  · exact kitAny_cons (kit_ty (r := true) (by decide +kernel)) (fun z => nomatch z) fun _ => rfl
  · exact kitAny_cons (kit_ty (r := false) (by decide +kernel)) (fun _ => kitAny_cons (kit_ty (r := true) (by decide +kernel)) (fun z => nomatch z) fun _ => rfl) (fun z => nomatch z)
end
section
variable {P : Program} {w : World} {K : PySem.W.Frag} {mg : Str → Option Value} {base : Heap} {f : Addr} {fd : FuncData}
theorem scAlike : FnScope ["_law_found", "_law_due", "_law_k"] ["_law_found", "_law_due"] (defScope sAlike) := ⟨rfl, rfl, rfl, by decide +kernel, rfl, by decide +kernel, by decide +kernel⟩
theorem ok_alike (F : Fun K "_law_alike" "_law_alike" sAlike f fd) (T : Nm mg) (gA : mg "_law_alike" = some (.ref f)) (bA : Binds K fd ["_law_found", "_law_due"] []) :
    ∀ n : Nat, FnOk P w K mg base CX0 (n + 1) f fd ["_law_found", "_law_due"] (spAlike n) := by
  intro n
  induction n with
  | zero =>
    refine F.ok scAlike (fun vs H Q E h => ?_) (fun cdv A outer s H vs Q E hr h => ?_)
    · obtain ⟨x, y, rfl, _⟩ := h
      rfl
    · obtain ⟨x, y, rfl, ⟨i, rfl, rfl⟩, q⟩ := h
      refine ⟨_, pss_cons (ps_if (pt_val (pe_callB call_isiT (by rfl) T.isi PyProof.Rows.boot_isinstance (pa_cons (pv 1) (pa_cons (pe_tup (pa_cons (pe_bltn (by rfl) T.tuple PyProof.Rows.boot_tuple (v := .ty "tuple") rfl) (pa_cons (pe_bltn (by rfl) T.list PyProof.Rows.boot_list (v := .ty "list") rfl) pa_nil))) pa_nil)))) pss_never pss_nil)
        (pss_cons (ps_if (PW.pt (pw_or (pt_cmp (pc_isN (pv 1))) (pw_or1 (pt_val (pe_callB call_isi (by rfl) T.isi PyProof.Rows.boot_isinstance (pa_cons (pv 1) (pa_cons (pe_bltn (by rfl) T.str PyProof.Rows.boot_str (v := .ty "str") rfl) pa_nil))))))) pss_never pss_nil)
        (pss_one (ps_ret (pe_and (pe_callB call_isi (by rfl) T.isi PyProof.Rows.boot_isinstance (pa_cons (pv 0) (pa_cons (pe_bltn (by rfl) T.int PyProof.Rows.boot_int (v := .ty "int") rfl) pa_nil)))
          (pe_and (pe_cmpR op_eq (pe_callB call_isi (by rfl) T.isi PyProof.Rows.boot_isinstance (pa_cons (pv 0) (pa_cons (pe_bltn (by rfl) T.bool PyProof.Rows.boot_bool (v := .ty "bool") rfl) pa_nil)))
              (pe_callB call_isi (by rfl) T.isi PyProof.Rows.boot_isinstance (pa_cons (pv 1) (pa_cons (pe_bltn (by rfl) T.bool PyProof.Rows.boot_bool (v := .ty "bool") rfl) pa_nil))) (nomark _))
          (pe_one (pe_cmpR op_eq (pv 0) (pv 1) (nomark _)))))))), ?_⟩
      refine q_when (b := false) (et_B (ev_isTL (K := K) (ev_var rfl) fun H1 e => ⟨_, .base (.int i), kit_int⟩)) (fun z => nomatch z) fun _ H1 e1 => ?_
      refine q_when (b := false) (et_or (a := false) (b := false) (et_B (ev_isN_no (ev_var rfl) fun z => nomatch z)) fun _ => et_B (ev_cb (ea_two (K := K) (ev_var rfl) ev_c) (rc_isiI (by decide +kernel)))) (fun z => nomatch z) fun _ H2 e2 => ?_
      refine s_ret (v := .bl true) (ev_andV (a := true) (b := true) (ev_cb (ea_two (K := K) (ev_var rfl) ev_c) (rc_isiI (by decide +kernel))) fun _ => ev_andV (a := true) (b := true) ?_ fun _ => ?_) fun H3 e3 => q H3 ((e1.trans e2).trans e3)
      · exact ev_op (x := .bl false) (y := .bl false) (ev_cb (ea_two (K := K) (ev_var rfl) ev_c) (rc_isiI (by decide +kernel))) (ev_cb (ea_two (K := K) (ev_var rfl) ev_c) (rc_isiI (by decide +kernel))) (rv_eq rfl)
      · refine ev_is (ev_op (ev_var rfl) (ev_var rfl) (rv_eq rfl)) ?_
        rw [decide_eq_true rfl]
  | succ n ih =>
    have cA : Cal P w K mg base (n + 1) "_law_alike" ["_law_found", "_law_due"] (spAlike n) := ⟨f, fd, ih, gA, F.kp, bA⟩
    refine F.ok scAlike (fun vs H Q E h => ?_) (fun cdv A outer s H vs Q E hr h => ?_)
    · obtain ⟨x, y, rfl, _⟩ := h
      rfl
    · obtain ⟨x, y, rfl, ⟨i, rfl, rfl⟩ | ⟨a, b, xs, ys, rfl, rfl, hab, hxy, hz, hal⟩, q⟩ := h
      · refine ⟨_, pss_cons (ps_if (pt_val (pe_callB call_isiT (by rfl) T.isi PyProof.Rows.boot_isinstance (pa_cons (pv 1) (pa_cons (pe_tup (pa_cons (pe_bltn (by rfl) T.tuple PyProof.Rows.boot_tuple (v := .ty "tuple") rfl) (pa_cons (pe_bltn (by rfl) T.list PyProof.Rows.boot_list (v := .ty "list") rfl) pa_nil))) pa_nil)))) pss_never pss_nil)
          (pss_cons (ps_if (PW.pt (pw_or (pt_cmp (pc_isN (pv 1))) (pw_or1 (pt_val (pe_callB call_isi (by rfl) T.isi PyProof.Rows.boot_isinstance (pa_cons (pv 1) (pa_cons (pe_bltn (by rfl) T.str PyProof.Rows.boot_str (v := .ty "str") rfl) pa_nil))))))) pss_never pss_nil)
          (pss_one (ps_ret (pe_and (pe_callB call_isi (by rfl) T.isi PyProof.Rows.boot_isinstance (pa_cons (pv 0) (pa_cons (pe_bltn (by rfl) T.int PyProof.Rows.boot_int (v := .ty "int") rfl) pa_nil)))
            (pe_and (pe_cmpR op_eq (pe_callB call_isi (by rfl) T.isi PyProof.Rows.boot_isinstance (pa_cons (pv 0) (pa_cons (pe_bltn (by rfl) T.bool PyProof.Rows.boot_bool (v := .ty "bool") rfl) pa_nil)))
                (pe_callB call_isi (by rfl) T.isi PyProof.Rows.boot_isinstance (pa_cons (pv 1) (pa_cons (pe_bltn (by rfl) T.bool PyProof.Rows.boot_bool (v := .ty "bool") rfl) pa_nil))) (nomark _))
            (pe_one (pe_cmpR op_eq (pv 0) (pv 1) (nomark _)))))))), ?_⟩
        refine q_when (b := false) (et_B (ev_isTL (K := K) (ev_var rfl) fun H1 e => ⟨_, .base (.int i), kit_int⟩)) (fun z => nomatch z) fun _ H1 e1 => ?_
        refine q_when (b := false) (et_or (a := false) (b := false) (et_B (ev_isN_no (ev_var rfl) fun z => nomatch z)) fun _ => et_B (ev_cb (ea_two (K := K) (ev_var rfl) ev_c) (rc_isiI (by decide +kernel)))) (fun z => nomatch z) fun _ H2 e2 => ?_
        refine s_ret (v := .bl true) (ev_andV (a := true) (b := true) (ev_cb (ea_two (K := K) (ev_var rfl) ev_c) (rc_isiI (by decide +kernel))) fun _ => ev_andV (a := true) (b := true) ?_ fun _ => ?_) fun H3 e3 => q H3 ((e1.trans e2).trans e3)
        · exact ev_op (x := .bl false) (y := .bl false) (ev_cb (ea_two (K := K) (ev_var rfl) ev_c) (rc_isiI (by decide +kernel))) (ev_cb (ea_two (K := K) (ev_var rfl) ev_c) (rc_isiI (by decide +kernel))) (rv_eq rfl)
        · refine ev_is (ev_op (ev_var rfl) (ev_var rfl) (rv_eq rfl)) ?_
          rw [decide_eq_true rfl]
      · obtain ⟨l, ha, hb⟩ : ∃ l, Seq H l a xs ∧ Seq H l b ys := by
          rcases hab with ⟨p, q⟩ | ⟨p, q⟩
          · exact ⟨false, p, q⟩
          · exact ⟨true, p, q⟩
        refine ⟨_, pss_cons (ps_if (pt_val (pe_callB call_isiT (by rfl) T.isi PyProof.Rows.boot_isinstance (pa_cons (pv 1) (pa_cons (pe_tup (pa_cons (pe_bltn (by rfl) T.tuple PyProof.Rows.boot_tuple (v := .ty "tuple") rfl) (pa_cons (pe_bltn (by rfl) T.list PyProof.Rows.boot_list (v := .ty "list") rfl) pa_nil))) pa_nil))))
            (pss_cons (ps_if (PW.pt (pw_or (pt_not (pt_val (pe_callB call_isiT (by rfl) T.isi PyProof.Rows.boot_isinstance (pa_cons (pv 0) (pa_cons (pe_tup (pa_cons (pe_bltn (by rfl) T.tuple PyProof.Rows.boot_tuple (v := .ty "tuple") rfl) (pa_cons (pe_bltn (by rfl) T.list PyProof.Rows.boot_list (v := .ty "list") rfl) pa_nil))) pa_nil)))))
                (pw_or1 (pt_cmpR op_ne (pe_callB call_isi (by rfl) T.isi PyProof.Rows.boot_isinstance (pa_cons (pv 0) (pa_cons (pe_bltn (by rfl) T.list PyProof.Rows.boot_list (v := .ty "list") rfl) pa_nil)))
                  (pe_callB call_isi (by rfl) T.isi PyProof.Rows.boot_isinstance (pa_cons (pv 1) (pa_cons (pe_bltn (by rfl) T.list PyProof.Rows.boot_list (v := .ty "list") rfl) pa_nil))) (nomark _))))) pss_never pss_nil)
            (pss_cons (ps_if (pt_cmpR op_ne (pe_callB (k_len (K := K) rfl) (by rfl) T.len PySem.boot_len (pa_cons (pv 0) pa_nil)) (pe_callB (k_len (K := K) rfl) (by rfl) T.len PySem.boot_len (pa_cons (pv 1) pa_nil)) (nomark _)) pss_never pss_nil)
            (pss_one (ps_ret (pe_cmpR (op_eqD hr.units)
              (pe_lc (own := [("_law_k", 2)]) (g := gName 2) rfl scAlike.nd (pi_range1 (by rfl) T.range (pa_cons (pe_callB (k_len (K := K) rfl) (by rfl) T.len PySem.boot_len (pa_cons (pv 1) pa_nil)) pa_nil)) (blkOk_by (N := ["_law_found", "_law_due", "_law_k"]) (sc := defScope sAlike) (by decide +kernel))
                (fun _ _ _ _ _ => pg_name (i := 2) scAlike.nd rfl (Or.inl rfl))
                (fun _ _ _ _ _ => pts_one (pt_not (pt_val (pe_cal cA hr (pa_cons (pe_ix (k_ixS (K := K) rfl) (pv 0) (pv 2) (fun _ _ => rfl)) (pa_cons (pe_ix (k_ixS (K := K) rfl) (pv 1) (pv 2) (fun _ _ => rfl)) pa_nil)) (Nat.le_refl _)))))
                (fun _ _ _ _ _ => pv 2)) (pe_lst pa_nil) (nomark _)))))) pss_nil) pss_never, ?_⟩
        refine q_if (b := true) (et_B (ev_isTL (K := K) (ev_var rfl) fun H1 e => ⟨_, ty_seq (hb.up e), kit_seq l⟩)) (fun _ H1 e1 => ?_) (fun z => nomatch z)
        obtain ⟨bl, hbl⟩ : ∃ c, kitB (if l then "list" else "tuple") "list" = some c := by
          cases l
          · exact ⟨false, by decide +kernel⟩
          · exact ⟨true, by decide +kernel⟩
        have ha1 := ha.up e1
        have hb1 := hb.up e1
        refine q_when (b := false) (et_or (a := false) (b := false) (et_not (a := true) (et_B (ev_isTL (K := K) (ev_var rfl) fun H2 e => ⟨_, ty_seq (ha1.up e), kit_seq l⟩))) fun _ => et_test (ev_is (ev_op (x := .bl bl) (y := .bl bl) (ev_cb (ea_two (K := K) (ev_var rfl) ev_c) (rc_isiS ha1 hbl)) (ev_cb (ea_two (K := K) (ev_var rfl) ev_c) (rc_isiS hb1 hbl)) (rv_ne rfl)) ?_)) (fun z => nomatch z) fun _ H2 e2 => ?_
        · rw [decide_eq_true rfl]
          rfl
        have ha2 := ha1.up e2
        have hb2 := hb1.up e2
        refine q_when (b := false) (et_test (ev_is (ev_op (ev_cb (EvA.one (ev_var rfl)) (rc_lenS (K := K) ha2)) (ev_cb (EvA.one (ev_var rfl)) (rc_lenS (K := K) hb2)) (rv_ne rfl)) ?_)) (fun z => nomatch z) fun _ H3 e3 => ?_
        · rw [hxy, decide_eq_true rfl]
          rfl
        have ha3 := ha2.up e3
        have hb3 := hb2.up e3
        have e123 := (e1.trans e2).trans e3
        refine s_ret (v := .bl true) (ev_opLL (xs := ([] : List Int).map V.int) (ys := ([] : List Int).map V.int) (z := .bl true) ?_ (el_lst ea_nil (Nat.zero_le _)) fun p p' H4 hp hp' e4 => ?_) fun H4 e4 => q H4 (e123.trans e4)
        · have hg : given ((ys.length : Int).toNat) (fun _ => false) (fun i => V.int (i : Int)) = ([] : List Int).map V.int := by
            unfold given
            rw [show (List.range (ys.length : Int).toNat).filter (fun _ => false) = [] from List.filter_eq_nil_iff.mpr fun _ _ => Bool.false_ne_true]
            rfl
          rw [← hg]
          refine el_lcN (fun _ => false) (fun i => V.int (i : Int)) (ei_range1 (n := (ys.length : Int)) (EvA.one (ev_cb (EvA.one (ev_var rfl)) (rc_lenS (K := K) hb3))) ⟨by omega, by omega⟩) (by omega) (fun x => rfl) fun i x H4 e4 hi hx => ⟨?_, fun z => nomatch z⟩
          subst hx
          have hi2 : i < ys.length := by omega
          have hu : xs[i]? = some (xs[i]'(by omega)) := List.getElem?_eq_getElem (by omega)
          have hv : ys[i]? = some ys[i] := List.getElem?_eq_getElem hi2
          exact et_not (a := true) (et_B (ev_cal (ea_two (K := K) (ev_op (ev_var rfl) (ev_var rfl) (rv_ixSeq (ha3.up e4) hu)) (ev_op (ev_var rfl) (ev_var rfl) (rv_ixSeq (hb3.up e4) hv))) fun H5 e5 Q k => ⟨_, _, rfl, (hal i _ _ hu hv).up (e123.trans (e4.trans e5)), k⟩))
        · have z := rv_eqL (K := K) (ns := []) (ms := []) (SqL.of hp) (SqL.of hp')
          rw [decide_eq_true rfl] at z
          exact z
end
end K38
set_option Elab.async false
set_option linter.all false
set_option maxRecDepth 100000
set_option maxHeartbeats 4100000
/-! K38M: what the law itself reckons, plainly; the finite check. -/
namespace K38
open PySem L2 Evl
def oddsOf (m : Nat) (told : List Int) : Int := ((List.range m).map fun (i : Nat) => (((told.drop i).countP fun n => decide (n < told.getD i 0) : Nat) : Int)).sum
def ringWalk (told : List Int) (h : Int) : Nat → List Int × Int
  | 0 => ([], h)
  | i + 1 => ((ringWalk told h i).1 ++ [(ringWalk told h i).2], told.getD (ringWalk told h i).2.toNat 0)
def stepR (m : Nat) (told : List Int) (s : List Int × Int) : List Int × Int := match s.1 with
  | [] => s
  | h :: _ => (s.1.filter fun p => !(ringWalk told h m).1.contains p, s.2 + 1)
def leftAt (m : Nat) (told : List Int) : Nat → List Int × Int
  | 0 => (rg m, 0)
  | t + 1 => stepR m told (leftAt m told t)
def deedsOf (m : Nat) (told : List Int) : Int := (m : Int) - (leftAt m told m).2
def Inside (m : Nat) (told : List Int) : Prop := told.length = m ∧ ∀ x ∈ told, 0 ≤ x ∧ x < (m : Int)
def okTold (m : Nat) (told : List Int) : Bool :=
  decide (told.length = m) && told.all (fun x => decide (0 ≤ x) && decide (x < (m : Int))) && decide (told.Perm (rg told.length)) &&
  (let ps := tabM told
   ps.all (fun p => decide (0 ≤ p.1) && decide (p.1 ≤ 99) && decide (0 ≤ p.2) && decide (p.2 ≤ 99)) && decide ((ps.map Prod.fst).Nodup) && decide ((ps.map Prod.snd).Nodup) &&
   decide (ps.reverse.Pairwise fun x y => SrtO.lexB y x = false) && decide (ordM ps = told)) &&
  decide (mostM told = oddsOf m told) &&
  (match ringsM told (m + 2) (rg m) 0 with
   | none => false
   | some k => decide ((m : Int) - (k : Int) = deedsOf m told))
def okMany (m : Nat) : Bool :=
  let ps := permsAt m m
  let o := ps.map (oddsOf m)
  let d := ps.map (deedsOf m)
  let oa := oddsAll (m - 1)
  let ra := ringsAll (m - 1)
  ps.all (okTold m) && decide (1 ≤ ps.length) && decide (ps.length ≤ 1000) && decide (1 ≤ oa.length) && decide (oa.length ≤ 100) && decide (1 ≤ ra.length) && decide (ra.length ≤ 100) &&
  o.contains ((oa.length - 1 : Nat) : Int) && o.all (fun y => decide (y ≤ ((oa.length - 1 : Nat) : Int))) && d.contains ((ra.length - 1 : Nat) : Int) && d.all (fun y => decide (y ≤ ((ra.length - 1 : Nat) : Int))) &&
  decide (oa = (List.range oa.length).map fun (s : Nat) => ((o.count (s : Int) : Nat) : Int)) && decide (ra = (List.range ra.length).map fun (s : Nat) => ((d.count (s : Int) : Nat) : Int)) &&
  (List.range (m + 1)).all (fun i => decide ((permsAt m i).length ≤ 1000) && (permsAt m i).all fun r => decide (r.length ≤ 1000))
theorem many1 : okMany 1 = true := by decide +kernel
theorem many2 : okMany 2 = true := by decide +kernel
theorem many3 : okMany 3 = true := by decide +kernel
theorem many4 : okMany 4 = true := by decide +kernel
theorem many5 : okMany 5 = true := by decide +kernel
theorem many_ok {m : Nat} (h1 : 1 ≤ m) (h5 : m ≤ 5) : okMany m = true := by
  obtain rfl | rfl | rfl | rfl | rfl : m = 1 ∨ m = 2 ∨ m = 3 ∨ m = 4 ∨ m = 5 := by omega
  · exact many1
  · exact many2
  · exact many3
  · exact many4
  · exact many5
end K38
set_option Elab.async false
set_option linter.all false
set_option maxRecDepth 100000
set_option maxHeartbeats 4100000
/-! K38N: the check, as facts. -/
namespace K38
open PySem L2 Evl
structure ToldOk (m : Nat) (told : List Int) : Prop where
  len : told.length = m
  ins : ∀ x ∈ told, 0 ≤ x ∧ x < (m : Int)
  perm : told.Perm (rg told.length)
  hp : ∀ p ∈ tabM told, (0 ≤ p.1 ∧ p.1 ≤ 99) ∧ 0 ≤ p.2 ∧ p.2 ≤ 99
  n1 : ((tabM told).map Prod.fst).Nodup
  n2 : ((tabM told).map Prod.snd).Nodup
  desc : Desc (tabM told)
  ord : ordM (tabM told) = told
  most : mostM told = oddsOf m told
  rings : ∃ k : Nat, ringsM told (m + 2) (rg m) 0 = some k ∧ (m : Int) - (k : Int) = deedsOf m told
theorem told_ok {m : Nat} {told : List Int} (h : okTold m told = true) : ToldOk m told := by
  unfold okTold at h
  simp only [Bool.and_eq_true, decide_eq_true_eq, List.all_eq_true] at h
  obtain ⟨⟨⟨⟨⟨h1, h2⟩, h3⟩, ⟨⟨⟨⟨h4, h5⟩, h6⟩, h7⟩, h8⟩⟩, h9⟩, h10⟩ := h
  refine ⟨h1, h2, h3, fun p hp => ?_, h5, h6, h7, h8, h9, ?_⟩
  · obtain ⟨⟨⟨a, b⟩, c⟩, d⟩ := h4 p hp
    exact ⟨⟨a, b⟩, c, d⟩
  · cases hr : ringsM told (m + 2) (rg m) 0 with
    | none =>
      rw [hr] at h10
      cases h10
    | some k =>
      rw [hr] at h10
      exact ⟨k, rfl, by simpa using h10⟩
theorem tabM_len (ns : List Int) : (tabM ns).length = ns.length := by
  unfold tabM
  simp only [List.length_map, List.length_range]
theorem ToldOk.twos {m : Nat} {told : List Int} (h : ToldOk m told) (h1 : 1 ≤ m) (h5 : m ≤ 5) : Twos (tabM told) := by
  have hl := (tabM_len told).trans h.len
  refine ⟨⟨by decide, by decide, by rw [List.length_map]; omega, by rw [List.length_map]; omega, fun r hr => ?_⟩, h.n1, h.n2⟩
  obtain ⟨p, hp, rfl⟩ := List.mem_map.mp hr
  refine ⟨rfl, fun n hn => ?_⟩
  obtain ⟨a, b⟩ := h.hp p hp
  rcases List.mem_cons.mp hn with e | hn
  · rw [e]; exact a
  · rw [List.mem_singleton.mp hn]; exact b
structure ManyOk (m : Nat) : Prop where
  told : ∀ r ∈ permsAt m m, ToldOk m r
  n1 : 1 ≤ (permsAt m m).length
  n2 : (permsAt m m).length ≤ 1000
  o1 : 1 ≤ (oddsAll (m - 1)).length
  o2 : (oddsAll (m - 1)).length ≤ 100
  r1 : 1 ≤ (ringsAll (m - 1)).length
  r2 : (ringsAll (m - 1)).length ≤ 100
  om : (((oddsAll (m - 1)).length - 1 : Nat) : Int) ∈ (permsAt m m).map (oddsOf m)
  oM : ∀ y ∈ (permsAt m m).map (oddsOf m), y ≤ (((oddsAll (m - 1)).length - 1 : Nat) : Int)
  rm : (((ringsAll (m - 1)).length - 1 : Nat) : Int) ∈ (permsAt m m).map (deedsOf m)
  rM : ∀ y ∈ (permsAt m m).map (deedsOf m), y ≤ (((ringsAll (m - 1)).length - 1 : Nat) : Int)
  oc : oddsAll (m - 1) = (List.range (oddsAll (m - 1)).length).map fun (s : Nat) => ((((permsAt m m).map (oddsOf m)).count (s : Int) : Nat) : Int)
  rc : ringsAll (m - 1) = (List.range (ringsAll (m - 1)).length).map fun (s : Nat) => ((((permsAt m m).map (deedsOf m)).count (s : Int) : Nat) : Int)
  fit : PermsFit m
theorem many_facts {m : Nat} (h1 : 1 ≤ m) (h5 : m ≤ 5) : ManyOk m := by
  have h := many_ok h1 h5
  unfold okMany at h
  simp only [Bool.and_eq_true, decide_eq_true_eq, List.all_eq_true, List.contains_iff_mem, List.mem_range] at h
  obtain ⟨⟨⟨⟨⟨⟨⟨⟨⟨⟨⟨⟨⟨a1, a2⟩, a3⟩, a4⟩, a5⟩, a6⟩, a7⟩, a8⟩, a9⟩, a10⟩, a11⟩, a12⟩, a13⟩, a14⟩ := h
  exact ⟨fun r hr => told_ok (a1 r hr), a2, a3, a4, a5, a6, a7, a8, a9, a10, a11, a12, a13, a14⟩
end K38
set_option Elab.async false
set_option linter.all false
set_option maxRecDepth 100000
set_option maxHeartbeats 4100000
/-! K38V: what the law's own walk wants. -/
namespace K38
open PySem L2 Evl
section
variable {K : PySem.W.Frag} {σ : L2.St} {H : Hp} {ta tb tc te : TE} {D : Ends} {P : V → Hp → Prop} {z : V} {sp : Sp}
/-- a call on two values that are told by properties -/
theorem ev_cal2 {Pa Pb : V → Hp → Prop} (ha : EvP ta σ H Pa) (hst : ∀ v H1 H2, Ex H1 H2 → Pa v H1 → Pa v H2) (hb : EvP tb σ H Pb) (hs : ∀ u v H1, Ex H H1 → Pa u H1 → Pb v H1 → ∀ Q : VK, Gives z H1 Q → sp [u, v] H1 Q E0) : Ev (tCall sp [] E0 (tCons ta (tCons tb tNil))) σ H z := fun H1 e Q q =>
  ha H1 e _ fun u H2 e2 pu => hb H2 (e.trans e2) _ fun v H3 e3 pv => hs u v H3 ((e.trans e2).trans e3) (hst u H2 H3 e3 pu) pv Q fun H4 e4 => q H4 ((e2.trans e3).trans e4)
theorem ep_lst3 {x y : V} (ha : EvP ta σ H P) (hst : ∀ v H1 H2, Ex H1 H2 → P v H1 → P v H2) (hb : Ev tb σ H x) (hc : Ev tc σ H y) : EvP (tLst (tCons ta (tCons tb (tCons tc tNil)))) σ H (fun v H => ∃ p u, v = .ref p ∧ H p = some (.lst [u, x, y]) ∧ P u H) := fun H1 e Q q =>
  ha H1 e _ fun u H2 e2 pu => hb H2 (e.trans e2) _ fun H3 e3 => hc H3 ((e.trans e2).trans e3) _ fun H4 e4 => ⟨by show 3 ≤ sizeLine; decide, fun p np => q _ _ (((e2.trans e3).trans e4).trans (Ex.new np)) ⟨p, u, rfl, upd_same, hst u H2 _ ((e3.trans e4).trans (Ex.new np)) pu⟩⟩
/-- an item of a list of tuples -/
theorem ep_ixRows {rows : List (List Int)} {i : Nat} {r : List Int} (ha : EvP ta σ H (fun v H => ∃ p xs, v = .ref p ∧ H p = some (.lst xs) ∧ Rows H xs rows)) (hb : Ev tb σ H (.int (i : Int))) (hr : rows[i]? = some r) : EvP (tOp (rIxL K) ta tb) σ H (fun v H => Tup H v r) := fun H1 e Q q =>
  ha H1 e _ fun u H2 e2 ⟨p, xs, eu, hp, hrows⟩ => hb H2 (e.trans e2) _ fun H3 e3 => by
    obtain ⟨x, hx, ht⟩ := hrows.at hr
    exact ⟨p, xs, (i : Int), x, eu, rfl, SqL.of (e3 _ _ hp), atI_nat hx, q x H3 (e2.trans e3) (ht.up e3)⟩
theorem ev_max {a : Addr} {ns : List Int} {M : Int} (ha : Ev ta σ H (.ref a)) (h : H a = some (.lst (ns.map V.int))) (h1 : M ∈ ns) (h2 : ∀ y ∈ ns, y ≤ M) : Ev (tCB (rMax K) (tCons ta tNil)) σ H (.int M) := fun H1 e Q q =>
  ha H1 e _ fun H2 e2 => ⟨a, ns, rfl, SqL.of ((e.trans e2) _ _ h), List.length_pos_of_mem h1, fun mx h3 h4 => by
    rw [Int.le_antisymm (h2 mx h3) (h4 M h1)]
    exact q H2 e2⟩
/-- xs.count(n) -/
theorem ev_lcount {a : Addr} {ns : List Int} {n : Int} (ha : Ev ta σ H (.ref a)) (h : H a = some (.lst (ns.map V.int))) (hb : Ev tb σ H (.int n)) : Ev (tBM K "list" (rCntI K) ta (tCons tb tNil)) σ H (.int ((ns.count n : Nat) : Int)) := fun H1 e Q q =>
  ha H1 e _ fun H2 e2 => ⟨.inl ⟨rfl, _, SqL.of ((e.trans e2) _ _ h)⟩, hb H2 (e.trans e2) _ fun H3 e3 => ⟨a, ns, n, rfl, rfl, SqL.of (((e.trans e2).trans e3) _ _ h), q H3 (e2.trans e3)⟩⟩
theorem alike_ints : ∀ (n : Nat) (i : Int) (H : Hp), Alike n (.int i) (.int i) H
  | 0, i, _ => ⟨i, rfl, rfl⟩
  | n + 1, i, _ => .inl ⟨i, rfl, rfl⟩
theorem alike_tup {n : Nat} {H : Hp} {u v : V} {ns : List Int} (hu : Tup H u ns) (hv : Tup H v ns) (hz : ns.length ≤ 1000) : Alike (n + 1) u v H := by
  obtain ⟨a, rfl, ha⟩ := hu
  obtain ⟨b, rfl, hb⟩ := hv
  refine .inr ⟨a, b, _, _, rfl, rfl, .inl ⟨ha, hb⟩, rfl, by rw [List.length_map]; exact hz, fun i x y hx hy => ?_⟩
  rw [hx] at hy
  cases Option.some.inj hy
  rw [List.getElem?_map] at hx
  obtain ⟨m, _, rfl⟩ := Option.map_eq_some_iff.mp hx
  exact alike_ints n m H
end
/-! ### where the law's own rings go -/
theorem getD_in {m : Nat} {told : List Int} (h : ToldOk m told) {x : Int} (h0 : 0 ≤ x) (h1 : x < (m : Int)) : 0 ≤ told.getD x.toNat 0 ∧ told.getD x.toNat 0 < (m : Int) := by
  have hi : x.toNat < told.length := by
    have := h.len
    omega
  rw [List.getD_eq_getElem?_getD, List.getElem?_eq_getElem hi]
  exact h.ins _ (List.getElem_mem hi)
theorem ring_in {m : Nat} {told : List Int} (h : ToldOk m told) {x : Int} (h0 : 0 ≤ x) (h1 : x < (m : Int)) : ∀ i, 0 ≤ (ringWalk told x i).2 ∧ (ringWalk told x i).2 < (m : Int)
  | 0 => ⟨h0, h1⟩
  | i + 1 => getD_in h (ring_in h h0 h1 i).1 (ring_in h h0 h1 i).2
theorem ring_len (told : List Int) (x : Int) : ∀ i, (ringWalk told x i).1.length = i
  | 0 => rfl
  | i + 1 => by
    show ((ringWalk told x i).1 ++ [_]).length = i + 1
    rw [List.length_append, ring_len told x i]
    rfl
theorem left_in (m : Nat) (told : List Int) : ∀ t, (leftAt m told t).1.length ≤ m ∧ ∀ x ∈ (leftAt m told t).1, 0 ≤ x ∧ x < (m : Int)
  | 0 => by
    show (rg m).length ≤ m ∧ ∀ x ∈ rg m, _
    unfold rg
    refine ⟨by rw [List.length_map, List.length_range]; exact Nat.le_refl _, fun x hx => ?_⟩
    obtain ⟨i, hi, rfl⟩ := List.mem_map.mp hx
    have := List.mem_range.mp hi
    omega
  | t + 1 => by
    have ih := left_in m told t
    show (stepR m told (leftAt m told t)).1.length ≤ m ∧ ∀ x ∈ (stepR m told (leftAt m told t)).1, _
    unfold stepR
    split
    · exact ih
    · refine ⟨Nat.le_trans (List.length_filter_le _ _) ih.1, fun x hx => ih.2 x (List.mem_filter.mp hx).1⟩
/-- what the law has at hand -/
structure LW (K : PySem.W.Frag) (H : Hp) (a rp op dp : Addr) (ns O D : List Int) (H' : Hp) : Prop where
  e : Ex H H'
  row : ∃ (k z x : Int), H' rp = some (rowL a k z x) ∧ 0 ≤ k ∧ 0 ≤ z ∧ z ≤ 2147483647
  od : H' op = some (.lst (O.map V.int))
  de : H' dp = some (.lst (D.map V.int))
theorem LW.up {K : PySem.W.Frag} {H : Hp} {a rp op dp : Addr} {ns O D : List Int} {H1 H2 : Hp} (h : LW K H a rp op dp ns O D H1) (e : Ex H1 H2) : LW K H a rp op dp ns O D H2 :=
  ⟨h.e.trans e, let ⟨k, z, x, h1, h2⟩ := h.row; ⟨k, z, x, e _ _ h1, h2⟩, e _ _ h.od, e _ _ h.de⟩
/-- three places of the call's own, all unlike -/
structure LP (H : Hp) (rp op dp : Addr) : Prop where
  r : H rp = none
  o : H op = none
  d : H dp = none
  ro : rp ≠ op
  rd : rp ≠ dp
  od : op ≠ dp
theorem LW.putO {K : PySem.W.Frag} {H : Hp} {a rp op dp : Addr} {ns O D : List Int} {H1 : Hp} (h : LW K H a rp op dp ns O D H1) (p : LP H rp op dp) (n : Int) : LW K H a rp op dp ns (O ++ [n]) D (upd H1 op (.lst (O.map V.int ++ [V.int n]))) :=
  ⟨Ex.mut h.e p.o, let ⟨k, z, x, h1, h2⟩ := h.row; ⟨k, z, x, (upd_ne p.ro).trans h1, h2⟩, by rw [upd_same, List.map_append]; rfl, (upd_ne p.od.symm).trans h.de⟩
theorem LW.putD {K : PySem.W.Frag} {H : Hp} {a rp op dp : Addr} {ns O D : List Int} {H1 : Hp} (h : LW K H a rp op dp ns O D H1) (p : LP H rp op dp) (n : Int) : LW K H a rp op dp ns O (D ++ [n]) (upd H1 dp (.lst (D.map V.int ++ [V.int n]))) :=
  ⟨Ex.mut h.e p.d, let ⟨k, z, x, h1, h2⟩ := h.row; ⟨k, z, x, (upd_ne p.rd).trans h1, h2⟩, (upd_ne p.od).trans h.od, by rw [upd_same, List.map_append]; rfl⟩
theorem LW.rowOk {K : PySem.W.Frag} {H : Hp} {a rp op dp : Addr} {ns O D : List Int} {H1 : Hp} (h : LW K H a rp op dp ns O D H1) (hs : SqL K H a (ns.map V.int)) (hz : ns.length ≤ 1000) : RowOk K H1 rp a ns :=
  let ⟨k, z, x, h1, h2⟩ := h.row
  ⟨k, z, x, h1, ex_l h.e hs, hz, h2⟩
/-- behind a draw -/
theorem LW.drawn {K : PySem.W.Frag} {H : Hp} {a rp op dp : Addr} {ns O D : List Int} {H1 H2 : Hp} (h : LW K H a rp op dp ns O D H1) (p : LP H rp op dp) (b : ExBut rp H1 H2) (r : RowOk K H2 rp a ns) : LW K H a rp op dp ns O D H2 := by
  refine ⟨fun c o q => b c o (fun w => ?_) (h.e c o q), ?_, b _ _ p.ro.symm h.od, b _ _ p.rd.symm h.de⟩
  · rw [w, p.r] at q
    cases q
  · obtain ⟨k, z, x, h1, _, _, h2⟩ := r
    exact ⟨k, z, x, h1, h2⟩
/-- a list of tuples is no list of ints -/
theorem refs_ne {H : Hp} {p q : Addr} {xs : List V} {rows : List (List Int)} {ns : List Int} (hp : H p = some (.lst xs)) (hr : Rows H xs rows) (h1 : 1 ≤ rows.length) (hq : H q = some (.lst (ns.map V.int))) : p ≠ q := fun e => by
  subst e
  rw [hp] at hq
  have e := HO.lst.inj (Option.some.inj hq)
  have hl := hr.1
  obtain ⟨a, ha, _⟩ := hr.2 0 (xs[0]'(by omega)) (rows[0]'(by omega)) (List.getElem?_eq_getElem _) (List.getElem?_eq_getElem _)
  have h0 : xs[0]? = some (V.ref a) := by rw [List.getElem?_eq_getElem (by omega), ha]
  rw [e, List.getElem?_map] at h0
  obtain ⟨n, _, hn⟩ := Option.map_eq_some_iff.mp h0
  cases hn
theorem Rows.put {H : Hp} {xs : List V} {rows : List (List Int)} {q : Addr} {ys zs : List V} (h : Rows H xs rows) (hq : H q = some (.lst ys)) : Rows (upd H q (.lst zs)) xs rows :=
  ⟨h.1, fun i x r a b => (h.2 i x r a b).imp fun c z => ⟨z.1, by
    have hne : c ≠ q := ne_of z.2 hq (fun w => nomatch w)
    rw [upd_ne hne]
    exact z.2⟩⟩
end K38
set_option Elab.async false
set_option linter.all false
set_option maxRecDepth 100000
set_option maxHeartbeats 16000000
/-! K38W: the law, walked. -/
namespace K38
open PySem L2 Evl
section
variable {K : PySem.W.Frag} {σ : L2.St} {H : Hp} {ta tb tl : TE} {tz tu : TS} {D : Ends} {P : V → Hp → Prop}
theorem q_asgTaken {r a : Addr} {ns : List Int} {m c : Int} {i : Nat} (ha : Ev ta σ H (.ref r)) (hb : Ev tb σ H (.int m)) (h1 : 1 ≤ m) (h2 : m ≤ 100000) (hr : RowOk K H r a ns)
    (k : ∀ H' n, ExBut r H H' → RowOk K H' r a ns → 0 ≤ n → n < m → tz D (σ.set i (some (.int (c + n)))) H') : tSeq (tAsg (tOp (rI0 fun i j => .int (i + j)) (tC (.int c)) (tCall (spTaken K) [] E0 (tCons ta (tCons tb tNil)))) (gName i)) tz D σ H :=
  ha H (Ex.refl H) _ fun H1 e1 => hb H1 e1 _ fun H2 e2 => ⟨r, a, ns, m, rfl, h1, h2, hr.up (e1.trans e2), fun H' n b ro n0 n1 => ⟨c, n, rfl, rfl, k H' n (fun x o hx q => b x o hx ((e1.trans e2) x o q)) ro n0 n1⟩⟩
theorem q_asgTaken0 {r a : Addr} {ns : List Int} {m : Int} {i : Nat} (ha : Ev ta σ H (.ref r)) (hb : Ev tb σ H (.int m)) (h1 : 1 ≤ m) (h2 : m ≤ 100000) (hr : RowOk K H r a ns)
    (k : ∀ H' n, ExBut r H H' → RowOk K H' r a ns → 0 ≤ n → n < m → tz D (σ.set i (some (.int n))) H') : tSeq (tAsg (tCall (spTaken K) [] E0 (tCons ta (tCons tb tNil))) (gName i)) tz D σ H :=
  ha H (Ex.refl H) _ fun H1 e1 => hb H1 e1 _ fun H2 e2 => ⟨r, a, ns, m, rfl, h1, h2, hr.up (e1.trans e2), fun H' n b ro n0 n1 => k H' n (fun x o hx q => b x o hx ((e1.trans e2) x o q)) ro n0 n1⟩
/-- a for over a list that is told by a property -/
theorem q_forX {j : Nat} (h : EvP tl σ H P) (k : ∀ v H1, Ex H H1 → P v H1 → ∃ a xs, v = .ref a ∧ SqL K H1 a xs ∧ ∃ Pv : Nat → L2.St → Hp → Prop, Pv 0 σ H1 ∧ (∀ i σ' H', i ≤ xs.length → Pv i σ' H' → SqL K H' a xs) ∧
      (∀ i x σ' H', xs[i]? = some x → Pv i σ' H' → tu { D with nx := Pv (i + 1), ct := Pv (i + 1), bk := tz D } (σ'.set j (some x)) H') ∧ ∀ σ' H', Pv xs.length σ' H' → tz D σ' H') : tSeq (tFor (iList K tl) (gName j) tu) tz D σ H :=
  h H (Ex.refl H) _ fun v H1 e1 p => by
    obtain ⟨a, xs, ev, hs, Pv, h0, hl, ht, hd⟩ := k v H1 e1 p
    exact ⟨a, ev, ⟨xs, hs⟩, for_list (D := { D with nx := tz D }) Pv h0 hl ht hd⟩
/-- two names at once -/
theorem s_asg2 {i j : Nat} {Pa : V → Hp → Prop} {Pb : V → V → Hp → Prop} (ha : EvP ta σ H Pa) (hb : ∀ u H1, Ex H H1 → Pa u H1 → EvP tb σ H1 (Pb u)) (k : ∀ u v H1 H2 H3, Ex H H1 → Pa u H1 → Ex H1 H2 → Pb u v H2 → Ex H2 H3 → D.nx ((σ.set i (some u)).set j (some v)) H3) :
    tAsg (tTup (tCons ta (tCons tb tNil))) (gTup K 2 (gCons (gName i) (gCons (gName j) gNil))) D σ H :=
  ha H (Ex.refl H) _ fun u H1 e1 pu => hb u H1 e1 pu H1 (Ex.refl H1) _ fun v H2 e2 pv => ⟨by show 2 ≤ sizeLine; decide, fun t nt => ⟨t, _, rfl, SqT.of upd_same, rfl, _, _, rfl, _, _, rfl, rfl, k u v H1 H2 _ e1 pu e2 pv (Ex.new nt)⟩⟩
end
def spLaw (K : PySem.W.Frag) : Sp := fun vs H Q _ => ∃ (a : Addr) (ns : List Int), vs = [.ref a] ∧ SqL K H a (ns.map V.int) ∧ ns.length ≤ 63 ∧ ∀ H', Q (.bl true) H'
abbrev nLaw : List Str := ["_law_script", "_law_row", "_law_many", "_law_odds", "_law_deeds", "_law_told", "_law_at", "_law_left", "_law_rings", "_law_turn", "_law_here", "_law_ring", "_law_step", "_law_table", "_law_later", "_law_place", "_law_size"]
section
variable {P : Program} {w : World} {K : PySem.W.Frag} {mg : Str → Option Value} {base : Heap} {f : Addr} {fd : FuncData}
theorem scLaw : FnScope nLaw ["_law_script"] (defScope sLaw) := ⟨rfl, rfl, rfl, by decide +kernel, rfl, by decide +kernel, by decide +kernel⟩
theorem ok_law (F : Fun K "law" "law" sLaw f fd) (T : Nm mg) (cT : Cal P w K mg base 1 "_law_taken" ["_law_row", "_law_many"] (spTaken K)) (cP : Cal P w K mg base 1 "_law_perms" ["_law_many"] spPerms) (cA : Cal P w K mg base 3 "_law_alike" ["_law_found", "_law_due"] (spAlike 2))
    (cO : Cal P w K mg base 4 "count_orders_by_odds" ["many"] spCntOdds) (cR : Cal P w K mg base 4 "count_orders_by_rings" ["many"] spCntRings) (cF : Cal P w K mg base 3 "from_order" ["told"] spFromOrder)
    (cOr : Cal P w K mg base 7 "order" ["table"] spOrder) (cMo : Cal P w K mg base 7 "most_by_odds" ["table"] spMostBy) (cLe : Cal P w K mg base 7 "least_by_rings" ["table"] spLeastBy) : FnOk P w K mg base CX0 8 f fd ["_law_script"] (spLaw K) := by
  refine F.ok scLaw (fun vs H Q E h => ?_) (fun cdv A outer s H vs Q E hr h => ?_)
  · obtain ⟨a, ns, rfl, _⟩ := h
    rfl
  · obtain ⟨a, ns, rfl, hs, hz, q⟩ := h
    refine ⟨_, pss_cons (ps_set (i := 1) scLaw.nd rfl (.inl rfl) (pe_lst (pa_cons (pv 0) (pa_cons pe_int (pa_cons pe_int (pa_cons pe_int pa_nil))))))
      (pss_cons (ps_set (i := 2) scLaw.nd rfl (.inl rfl) (pe_op op_add pe_int (pe_cal cT hr (pa_cons (pv 1) (pa_cons pe_int pa_nil)))))
      (pss_cons (ps_asg (pe_tup (pa_cons (pe_lst pa_nil) (pa_cons (pe_lst pa_nil) pa_nil))) (pg_tup rfl (pgs_cons (pg_name (i := 3) scLaw.nd rfl (.inr rfl)) (pgs_cons (pg_name (i := 4) scLaw.nd rfl (.inr rfl)) pgs_nil))))
      (pss_cons (ps_for PassesOwn.never rfl (pi_list (pe_cal cP hr (pa_cons (pv 2) pa_nil))) (pg_name (i := 5) scLaw.nd rfl (.inr rfl))
        (pss_cons (ps_expr (pe_bm PySem.F.plainAttrs_list PySem.F.slot_list_append PySem.F.type_list_append mt_append (pv 3) (pa_cons (pe_callB (cr_sum rfl) (by rfl) T.sum (by decide +kernel) (pa_cons
            (pe_lc (own := [("_law_at", 6)]) (g := gName 6) (tt := tYes) rfl scLaw.nd (pi_range1 (by rfl) T.range (pa_cons (pv 2) pa_nil)) (blkOk_by (N := nLaw) (sc := defScope sLaw) (by decide +kernel))
              (fun _ _ _ _ _ => pg_name (i := 6) scLaw.nd rfl (Or.inr rfl)) (fun _ _ _ _ _ => pts_nil)
              (fun _ _ _ _ _ => pe_callB (k_len (K := K) rfl) (by rfl) T.len PySem.boot_len (pa_cons
                (pe_lc (own := [("_law_later", 14)]) (g := gName 14) rfl scLaw.nd (k_pit (K := K) rfl (pe_slice (k_slT (K := K) rfl) (pv 5) (po_some (pv 6)) po_none)) (blkOk_by (N := nLaw) (by kernel_rfl))
                  (fun _ _ _ _ _ => pg_name (i := 14) scLaw.nd rfl (Or.inl rfl)) (fun _ _ _ _ _ => pts_one (pt_cmpR op_lt (pv 14) (pe_ix (k_ixT (K := K) rfl) (pv 5) (pv 6) (fun _ _ => rfl)) (nomark _))) (fun _ _ _ _ _ => pv 14)) pa_nil))) pa_nil)) pa_nil)))
        (pss_cons (ps_par (i := 7) (j := 8) rfl scLaw.nd rfl rfl (by decide) rfl rfl (pa_cons (pe_listRg rfl (by rfl) T.list (prg_1 (by rfl) T.range (pv 2))) (pa_cons pe_int pa_nil)) (by rfl))
        (pss_cons (ps_for PassesOwn.never rfl (pi_range1 (by rfl) T.range (pa_cons (pv 2) pa_nil)) (pg_name (i := 9) scLaw.nd rfl (.inl rfl))
          (pss_one (ps_if (pt_cmpR (op_neD hr.units) (pv 7) (pe_lst pa_nil) (nomark _))
            (pss_cons (ps_asg (pe_tup (pa_cons (pe_ix ix_list (pv 7) pe_int (fun _ _ => rfl)) (pa_cons (pe_op op_add (pv 8) pe_int) (pa_cons (pe_lst pa_nil) pa_nil)))) (pg_tup rfl (pgs_cons (pg_name (i := 10) scLaw.nd rfl (.inl rfl)) (pgs_cons (pg_name (i := 8) scLaw.nd rfl (.inl rfl)) (pgs_cons (pg_name (i := 11) scLaw.nd rfl (.inr rfl)) pgs_nil)))))
            (pss_cons (ps_for PassesOwn.never rfl (pi_range1 (by rfl) T.range (pa_cons (pv 2) pa_nil)) (pg_name (i := 12) scLaw.nd rfl (.inl rfl))
              (pss_one (ps_asg (pe_tup (pa_cons (pe_op op_cat (pv 11) (pe_lst (pa_cons (pv 10) pa_nil))) (pa_cons (pe_ix ix_tup (pv 5) (pv 10) (fun _ _ => rfl)) pa_nil))) (pg_tup rfl (pgs_cons (pg_name (i := 11) scLaw.nd rfl (.inr rfl)) (pgs_cons (pg_name (i := 10) scLaw.nd rfl (.inl rfl)) pgs_nil))))))
            (pss_one (ps_setLc (i := 7) (own := [("_law_place", 15)]) (g := gName 15) rfl scLaw.nd rfl rfl (sw_true rfl rfl rfl (by decide +kernel)) (pi_list (pv 7)) (blkOk_by (N := nLaw) (sc := defScope sLaw) (by decide +kernel))
              (fun _ _ _ _ _ => pg_name (i := 15) scLaw.nd rfl (Or.inl rfl)) (fun _ _ _ _ _ => pts_one (pt_cmpR (k_notIn (K := K) rfl) (pv 15) (pv 11) (by rfl))) (fun _ _ _ _ _ => pv 15))))) pss_nil)))
        (pss_one (ps_expr (pe_bm PySem.F.plainAttrs_list PySem.F.slot_list_append PySem.F.type_list_append mt_append (pv 4) (pa_cons (pe_op op_sub (pv 2) (pv 8)) pa_nil))))))))
      (pss_cons (ps_if (pt_not (pt_val (pe_cal cA hr (pa_cons (pe_cal cO hr (pa_cons (pv 2) pa_nil)) (pa_cons (pe_callTy (k_tupOf (K := K) rfl) (by rfl) T.tuple PyProof.Rows.boot_tuple (pa_cons
            (pe_lc (own := [("_law_size", 16)]) (g := gName 16) (tt := tYes) rfl scLaw.nd (pi_range1 (by rfl) T.range (pa_cons (pe_op op_add (pe_callB (cr_max rfl) (by rfl) T.max (by decide +kernel) (pa_cons (pv 3) pa_nil)) pe_int) pa_nil)) (blkOk_by (N := nLaw) (sc := defScope sLaw) (by decide +kernel))
              (fun _ _ _ _ _ => pg_name (i := 16) scLaw.nd rfl (Or.inl rfl)) (fun _ _ _ _ _ => pts_nil)
              (fun _ _ _ _ _ => k_pe (K := K) rfl (fun K => tBM K "list" (rCntI K) (tVar 3) (tCons (tVar 16) tNil)) (pe_bm PySem.F.plainAttrs_list PySem.F.slot_list_count PySem.F.type_list_count mt_lcount (pv 3) (pa_cons (pv 16) pa_nil)))) pa_nil)) pa_nil))))) pss_never pss_nil)
      (pss_cons (ps_if (pt_not (pt_val (pe_cal cA hr (pa_cons (pe_cal cR hr (pa_cons (pv 2) pa_nil)) (pa_cons (pe_callTy (k_tupOf (K := K) rfl) (by rfl) T.tuple PyProof.Rows.boot_tuple (pa_cons
            (pe_lc (own := [("_law_size", 16)]) (g := gName 16) (tt := tYes) rfl scLaw.nd (pi_range1 (by rfl) T.range (pa_cons (pe_op op_add (pe_callB (cr_max rfl) (by rfl) T.max (by decide +kernel) (pa_cons (pv 4) pa_nil)) pe_int) pa_nil)) (blkOk_by (N := nLaw) (sc := defScope sLaw) (by decide +kernel))
              (fun _ _ _ _ _ => pg_name (i := 16) scLaw.nd rfl (Or.inl rfl)) (fun _ _ _ _ _ => pts_nil)
              (fun _ _ _ _ _ => k_pe (K := K) rfl (fun K => tBM K "list" (rCntI K) (tVar 4) (tCons (tVar 16) tNil)) (pe_bm PySem.F.plainAttrs_list PySem.F.slot_list_count PySem.F.type_list_count mt_lcount (pv 4) (pa_cons (pv 16) pa_nil)))) pa_nil)) pa_nil))))) pss_never pss_nil)
      (pss_cons (ps_set (i := 6) scLaw.nd rfl (.inl rfl) (pe_cal cT hr (pa_cons (pv 1) (pa_cons (pe_callB (k_len (K := K) rfl) (by rfl) T.len PySem.boot_len (pa_cons (pv 3) pa_nil)) pa_nil))))
      (pss_cons (ps_set (i := 5) scLaw.nd rfl (.inr rfl) (pe_ix ix_list (pe_cal cP hr (pa_cons (pv 2) pa_nil)) (pv 6) (fun _ _ => rfl)))
      (pss_cons (ps_set (i := 13) scLaw.nd rfl (.inl rfl) (pe_cal cF hr (pa_cons (pv 5) pa_nil)))
      (pss_one (ps_ret (pe_cal cA hr (pa_cons (pe_lst (pa_cons (pe_cal cOr hr (pa_cons (pv 13) pa_nil)) (pa_cons (pe_cal cMo hr (pa_cons (pv 13) pa_nil)) (pa_cons (pe_cal cLe hr (pa_cons (pv 13) pa_nil)) pa_nil))))
        (pa_cons (pe_lst (pa_cons (pv 5) (pa_cons (pe_ix ix_list (pv 3) (pv 6) (fun _ _ => rfl)) (pa_cons (pe_ix ix_list (pv 4) (pv 6) (fun _ _ => rfl)) pa_nil)))) pa_nil))))))))))))), ?_⟩
    -- the list of draws
    refine q_asgL (xs := [.ref a, .int 0, .int 8038, .int 0]) (el_lst (ea_cons (ev_var rfl) (ea_cons ev_c (ea_cons ev_c (EvA.one ev_c)))) (by show 4 ≤ 100000; decide)) fun rp H1 nrp e1 hrp => ?_
    -- how many people
    refine q_asgTaken (K := K) (r := rp) (a := a) (ns := ns) (m := 5) (c := 1) (ev_var rfl) ev_c (by decide) (by decide) ⟨0, 8038, 0, hrp, ex_l e1 hs, by omega, by decide, by decide, by decide⟩ fun H2 n b2 row2 hn0 hn5 => ?_
    obtain ⟨m, hm⟩ : ∃ m : Nat, 1 + n = (m : Int) := ⟨(1 + n).toNat, by omega⟩
    rw [hm]
    have m1 : 1 ≤ m := by omega
    have m5 : m ≤ 5 := by omega
    have M := many_facts m1 m5
    have e2 : Ex H H2 := fun c o hc => b2 c o (fun w => by rw [w, nrp] at hc; cases hc) (e1 c o hc)
    -- two empty lists
    refine ⟨Nat.zero_le _, fun op nop => ⟨Nat.zero_le _, fun dp ndp => ⟨by show 2 ≤ sizeLine; decide, fun t nt => ⟨t, _, rfl, SqT.of upd_same, rfl, _, _, rfl, _, _, rfl, rfl, ?_⟩⟩⟩⟩
    obtain ⟨k0, z0, x0, r2, _, _, rz⟩ := row2
    have hro : rp ≠ op := ne_of_none r2 nop
    have hrd : rp ≠ dp := ne_of_none ((Ex.new nop) _ _ r2) ndp
    have hod : op ≠ dp := ne_of_none (upd_same (H := H2) (o := .lst [])) ndp
    have LPs : LP H rp op dp := ⟨nrp, fresh_back e2 nop, fresh_back (e2.trans (Ex.new nop)) ndp, hro, hrd, hod⟩
    have e3 : Ex H2 (upd (upd (upd H2 op (.lst [])) dp (.lst [])) t (.tup [V.ref op, V.ref dp])) := ((Ex.new nop).trans (Ex.new ndp)).trans (Ex.new nt)
    have W0 : LW K H a rp op dp ns [] [] (upd (upd (upd H2 op (.lst [])) dp (.lst [])) t (.tup [V.ref op, V.ref dp])) :=
      ⟨e2.trans e3, ⟨k0, z0, x0, e3 _ _ r2, rz⟩, ((Ex.new ndp).trans (Ex.new nt)) _ _ upd_same, (Ex.new nt) _ _ upd_same⟩
    generalize upd (upd (upd H2 op (.lst [])) dp (.lst [])) t (.tup [V.ref op, V.ref dp]) = G3 at W0 ⊢
    -- all orders
    refine q_forX (K := K) (ep_cal (EvA.one (ev_var rfl)) fun H4 e Q k => ⟨m, rfl, by omega, M.fit, k⟩) fun v G4 e4 ⟨pp, xs, ev, hpp, hrows⟩ => ⟨pp, xs, ev, SqL.of hpp,
      (fun i σ' H' => ∃ (y5 y7 y8 y9 y10 y11 y12 : Option V), σ' = [some (.ref a), some (.ref rp), some (.int (m : Int)), some (.ref op), some (.ref dp), y5, none, y7, y8, y9, y10, y11, y12, none, none, none, none] ∧
        LW K H a rp op dp ns (((permsAt m m).take i).map (oddsOf m)) (((permsAt m m).take i).map (deedsOf m)) H' ∧ H' pp = some (.lst xs) ∧ Rows H' xs (permsAt m m)),
      ⟨none, none, none, none, none, none, none, rfl, W0.up e4, hpp, hrows⟩, (fun i σ' H' _ ⟨_, _, _, _, _, _, _, _, _, h, _⟩ => SqL.of h), ?_, ?_⟩
    · rintro i x σ' H5 hx ⟨y5, y7, y8, y9, y10, y11, y12, rfl, W, hpp, hrows⟩
      obtain ⟨r, hr0⟩ : ∃ r, (permsAt m m)[i]? = some r := ⟨_, List.getElem?_eq_getElem (by rw [← hrows.1]; exact (List.getElem?_eq_some_iff.mp hx).1)⟩
      have hr1 := M.told r (List.mem_of_getElem? hr0)
      have hlr := hr1.len
      have hxr := hrows.2 i x r hx hr0
      have n2 := M.n2
      have hi : i < (permsAt m m).length := (List.getElem?_eq_some_iff.mp hr0).1
      have hppo : pp ≠ op := refs_ne hpp hrows M.n1 W.od
      have hppd : pp ≠ dp := refs_ne hpp hrows M.n1 W.de
      have hlO : ∀ g : List Int → Int, (((permsAt m m).take i).map g).length < 100000 := fun g => by
        rw [List.length_map, List.length_take]
        omega
      -- its pairs at odds
      refine q_app (v := .int (oddsOf m r)) W.od (ev_var rfl) ?_ (by rw [List.length_map]; exact hlO _) fun H6 e6 => ?_
      · refine ev_cbP (ep_l (el_lcN (fun _ => true) (fun (j : Nat) => .int (((r.drop j).countP fun n => decide (n < r.getD j 0) : Nat) : Int)) (ei_range1 (n := (m : Int)) (EvA.one (ev_var rfl)) ⟨by omega, by omega⟩) (by omega) (fun x => rfl) fun j y H7 e7 hj hy => ⟨et_yes, fun _ => ?_⟩)) ?_
        · subst hy
          have hj2 : j < r.length := by omega
          have hat : (r.map V.int)[j]? = some (.int (r.getD j 0)) := by
            rw [List.getElem?_map, List.getD_eq_getElem?_getD, List.getElem?_eq_getElem hj2]
            rfl
          refine ev_count (K := K) (fun n => decide (n < r.getD j 0)) (ep_from (K := K) (ns := r) (m := j) (ev_var rfl) (hxr.up e7) (ev_var rfl)) (by rw [List.length_drop]; omega) (fun x => rfl) (fun x => rfl) fun n H8 e8 => ?_
          obtain ⟨b, eb, hb⟩ := hxr.up (e7.trans e8)
          subst eb
          exact et_test (ev_op (r := rI0 fun i j => .bl (decide (i < j))) (ev_var rfl) (ev_op (ev_var rfl) (ev_var rfl) (rv_ixT (K := K) (SqT.of hb) (atI_nat hat))) rv_I0)
        · rintro v H7 e7 ⟨p, rfl, hp⟩ Q' k
          refine ⟨p, (List.range m).map fun (j : Nat) => (((r.drop j).countP fun n => decide (n < r.getD j 0) : Nat) : Int), rfl, SqL.of ?_, k⟩
          rw [hp, given_all, List.map_map, Int.toNat_natCast]
          rfl
      have W6 := (W.up e6).putO LPs (oddsOf m r)
      have hpp6 := (upd_ne (H := H6) (o := .lst ((((permsAt m m).take i).map (oddsOf m)).map V.int ++ [V.int (oddsOf m r)])) hppo).trans (e6 _ _ hpp)
      have hrows6 := (hrows.up e6).put (zs := (((permsAt m m).take i).map (oddsOf m)).map V.int ++ [V.int (oddsOf m r)]) (e6 _ _ W.od)
      have hx6 := hrows6.2 i x r hx hr0
      generalize upd H6 op (.lst ((((permsAt m m).take i).map (oddsOf m)).map V.int ++ [V.int (oddsOf m r)])) = G6 at W6 hpp6 hrows6 hx6 ⊢
      -- what is left, the rings
      refine ⟨_, rfl, _, rfl, RgOk.of_le (by omega) (by omega) (by omega) (by omega), fun lp nlp => ?_⟩
      rw [rgV_eq]
      refine ⟨_, _, rfl, ?_⟩
      have e7 : Ex G6 (upd G6 lp (.lst ((rg m).map V.int))) := Ex.new nlp
      have hlp : (upd G6 lp (.lst ((rg m).map V.int))) lp = some (.lst ((rg m).map V.int)) := upd_same
      generalize upd G6 lp (.lst ((rg m).map V.int)) = G7 at e7 hlp ⊢
      refine q_forR1 (n := (m : Int)) (EvA.one (ev_var rfl)) ⟨by omega, by omega⟩
        (fun t σ' H' => ∃ (lp : Addr) (y9 y10 y11 y12 : Option V), σ' = [some (.ref a), some (.ref rp), some (.int (m : Int)), some (.ref op), some (.ref dp), some x, none, some (.ref lp), some (.int (leftAt m r t).2), y9, y10, y11, y12, none, none, none, none] ∧
          Ex G6 H' ∧ H' lp = some (.lst ((leftAt m r t).1.map V.int)))
        (fun H8 e8 => ⟨lp, y9, y10, y11, y12, rfl, e7.trans e8, e8 _ _ hlp⟩) ?_ ?_
      · rintro t σ' H8 ht ⟨lp, y9, y10, y11, y12, rfl, e8, hlp⟩
        have hli := left_in m r t
        cases hleft : (leftAt m r t).1 with
        | nil =>
          rw [hleft] at hlp
          refine s_when (b := false) (et_neNil (ns := []) (ev_var rfl) (SqL.of hlp)) (fun z => nomatch z) fun _ H9 e9 => ?_
          have hst : leftAt m r (t + 1) = leftAt m r t := by
            show stepR m r (leftAt m r t) = _
            unfold stepR
            rw [hleft]
          refine ⟨lp, some (.int (t : Int)), y10, y11, y12, ?_, e8.trans e9, ?_⟩
          · rw [hst]
            rfl
          · rw [hst, hleft]
            exact e9 _ _ hlp
        | cons hd tl =>
          rw [hleft] at hlp hli
          have hst : leftAt m r (t + 1) = ((hd :: tl).filter (fun p => !(ringWalk r hd m).1.contains p), (leftAt m r t).2 + 1) := by
            show stepR m r (leftAt m r t) = _
            unfold stepR
            rw [hleft]
          have hd0 := hli.2 hd List.mem_cons_self
          refine s_when (b := true) (et_neNil (ns := hd :: tl) (ev_var rfl) (SqL.of hlp)) (fun _ H9 e9 => ?_) (fun z => nomatch z)
          -- here, rings, ring
          refine ⟨_, rfl, lp, _, 0, .int hd, rfl, rfl, SqL.of (e9 _ _ hlp), atI_nat (j := 0) rfl, _, rfl, _, 1, rfl, rfl, Nat.zero_le _, fun gp ngp => ⟨by show 3 ≤ sizeLine; decide, fun tp ntp => ⟨tp, _, rfl, SqT.of upd_same, rfl, _, _, rfl, _, _, rfl, _, _, rfl, rfl, ?_⟩⟩⟩
          have hgp := (Ex.new (o := .tup [V.int hd, V.int ((leftAt m r t).2 + 1), V.ref gp]) ntp) _ _ (upd_same (H := H9) (a := gp) (o := .lst []))
          have e10 : Ex H8 (upd (upd H9 gp (.lst [])) tp (.tup [V.int hd, V.int ((leftAt m r t).2 + 1), V.ref gp])) := e9.trans ((Ex.new ngp).trans (Ex.new ntp))
          generalize upd (upd H9 gp (.lst [])) tp (.tup [V.int hd, V.int ((leftAt m r t).2 + 1), V.ref gp]) = G10 at e10 hgp ⊢
          refine q_forR1 (n := (m : Int)) (EvA.one (ev_var rfl)) ⟨by omega, by omega⟩
            (fun s σ' H' => ∃ (gp : Addr) (y12 : Option V), σ' = [some (.ref a), some (.ref rp), some (.int (m : Int)), some (.ref op), some (.ref dp), some x, none, some (.ref lp), some (.int ((leftAt m r t).2 + 1)), some (.int (t : Int)), some (.int (ringWalk r hd s).2), some (.ref gp), y12, none, none, none, none] ∧
              Ex H8 H' ∧ H' gp = some (.lst ((ringWalk r hd s).1.map V.int)))
            (fun H11 e11 => ⟨gp, y12, rfl, e10.trans e11, e11 _ _ hgp⟩) ?_ ?_
          · rintro s σ' H11 hs' ⟨gp, y12, rfl, e11, hg⟩
            obtain ⟨i0, i1⟩ := ring_in hr1 hd0.1 hd0.2 s
            have hrl := ring_len r hd s
            obtain ⟨b, eb, hb⟩ := hx6.up (e8.trans e11)
            subst eb
            have hit : (ringWalk r hd s).2.toNat < r.length := by omega
            have hat : (r.map V.int)[(ringWalk r hd s).2.toNat]? = some (.int (r.getD (ringWalk r hd s).2.toNat 0)) := by
              rw [List.getElem?_map, List.getD_eq_getElem?_getD, List.getElem?_eq_getElem hit]
              rfl
            have hge : (((ringWalk r hd s).2.toNat : Nat) : Int) = (ringWalk r hd s).2 := by omega
            have hcat := el_cat (xs := (ringWalk r hd s).1.map V.int) (ys := [V.int (ringWalk r hd s).2]) (ta := tVar 11) (tb := tLst (tCons (tVar 10) tNil))
              (σ := [some (.ref a), some (.ref rp), some (.int (m : Int)), some (.ref op), some (.ref dp), some (.ref b), none, some (.ref lp), some (.int ((leftAt m r t).2 + 1)), some (.int (t : Int)), some (.int (ringWalk r hd s).2), some (.ref gp), some (.int (s : Int)), none, none, none, none]) (ev_var rfl) hg
              (el_lst (EvA.one (ev_var rfl)) (by show 1 ≤ 100000; decide)) (by rw [List.length_map, hrl]; show s + 1 ≤ 100000; omega)
            refine s_asg2 (K := K) (Pb := fun _ v _ => v = .int (r.getD (ringWalk r hd s).2.toNat 0)) (ep_l hcat) (fun u H12 e12 _ => ep_ev (ev_op (ev_var rfl) (ev_is (ev_var rfl) (congrArg V.int hge.symm)) (rv_ixT (SqT.of (e12 _ _ hb)) (atI_nat hat)))) fun u v H12 H13 H14 e12 ⟨gp2, eu, hgp2⟩ e13 ev e14 => ?_
            subst eu ev
            refine ⟨gp2, _, rfl, ((e11.trans e12).trans e13).trans e14, (e13.trans e14) _ _ ?_⟩
            rw [hgp2]
            show _ = some (HO.lst (((ringWalk r hd s).1 ++ [(ringWalk r hd s).2]).map V.int))
            rw [List.map_append]
            rfl
          · rintro σ' H11 ⟨gp, y12, rfl, e11, hg⟩
            rw [Int.toNat_natCast] at hg ⊢
            refine s_asgL (el_lcN (fun i => !(ringWalk r hd m).1.contains ((hd :: tl).getD i 0)) (fun i => .int ((hd :: tl).getD i 0)) (ei_list (K := K) (xs := (hd :: tl).map V.int) (ep_evr (ev_var rfl) fun H12 e => ⟨lp, rfl, SqL.of (e _ _ (e11 _ _ hlp))⟩)) (by rw [List.length_map]; omega) (fun x => rfl) fun i y H12 e12 hi' hy => ?_) fun p H12 hp e12 h12 => ?_
            · rw [List.getElem?_map] at hy
              obtain ⟨n, hn, rfl⟩ := Option.map_eq_some_iff.mp hy
              have hg2 : (hd :: tl).getD i 0 = n := by
                rw [List.getD_eq_getElem?_getD, hn]
                rfl
              rw [hg2]
              exact ⟨et_niL (K := K) (ev_var rfl) (ev_var rfl) (SqL.of (e12 _ _ hg)), fun _ => ev_var rfl⟩
            · rw [List.length_map, given_filter fun n => !(ringWalk r hd m).1.contains n] at h12
              refine ⟨p, some (.int (t : Int)), some (.int (ringWalk r hd m).2), some (.ref gp), y12, ?_, (e8.trans e11).trans e12, ?_⟩
              · rw [hst]
                rfl
              · rw [hst]
                exact h12
      · rintro σ' H8 ⟨lp, y9, y10, y11, y12, rfl, e8, hlp⟩
        rw [Int.toNat_natCast]
        refine s_app (v := .int (deedsOf m r)) (W6.up e8).de (ev_var rfl) (ev_cmp (gg := fun i j => .int (i - j)) (ev_var rfl) (ev_var rfl)) (by rw [List.length_map]; exact hlO _) fun H9 e9 => ?_
        have W9 := ((W6.up e8).up e9).putD LPs (deedsOf m r)
        refine ⟨_, _, _, _, _, _, _, rfl, ?_, (upd_ne hppd).trans ((e8.trans e9) _ _ hpp6), (hrows6.up (e8.trans e9)).put (e9 _ _ (W6.up e8).de)⟩
        have ht : ∀ g : List Int → Int, ((permsAt m m).take (i + 1)).map g = ((permsAt m m).take i).map g ++ [g r] := fun g => by
          rw [List.take_add_one, hr0, List.map_append]
          rfl
        rw [ht, ht]
        exact W9
    · rintro σ' H5 ⟨y5, y7, y8, y9, y10, y11, y12, rfl, W, hpp, hrows⟩
      rw [hrows.1, List.take_length] at W
      have n1 := M.n1
      have n2 := M.n2
      have cnt : ∀ {H' : Hp} {σ : L2.St} {s : Nat} {p : Addr} {O ms : List Int} (_ : σ[s]? = some (some (.ref p))) (_ : H' p = some (.lst (O.map V.int))) (_ : ((ms.length - 1 : Nat) : Int) ∈ O) (_ : ∀ y ∈ O, y ≤ ((ms.length - 1 : Nat) : Int)) (_ : 1 ≤ ms.length) (_ : ms.length ≤ 100)
          (_ : ms = (List.range ms.length).map fun (s : Nat) => ((O.count (s : Int) : Nat) : Int)) (_ : ∀ x, wipe ((wipe σ [16]).set 16 (some x)) [16] = wipe σ [16]) (_ : ∀ x, ((wipe σ [16]).set 16 (some x))[s]? = some (some (.ref p))) (_ : ∀ x, ((wipe σ [16]).set 16 (some x))[16]? = some (some x)),
          EvP (tCB (rTupOf K) (tCons (tLc (iRng1 (tCons (tOp (rI0 fun i j => .int (i + j)) (tCB (rMax K) (tCons (tVar s) tNil)) (tC (.int 1))) tNil)) (gName 16) tYes (tBM K "list" (rCntI K) (tVar s) (tCons (tVar 16) tNil)) [16]) tNil)) σ H' (fun v H => Tup H v ms) := by
        intro H' σ s p O ms hσ hp h1 h2 h3 h4 h5 h6 h7 h8
        have hn : (((ms.length - 1 : Nat) : Int) + 1).toNat = ms.length := by omega
        refine (ep_tupOf (K := K) (ep_l (el_lcN (fun _ => true) (fun (i : Nat) => .int ((O.count (i : Int) : Nat) : Int)) (ei_range1 (n := ((ms.length - 1 : Nat) : Int) + 1) (EvA.one (ev_cmp (gg := fun i j => .int (i + j)) (ev_max (ev_var hσ) hp h1 h2) ev_c)) ⟨by omega, by omega⟩) (by omega) h6 fun i x H1 e hi hx => ⟨et_yes, fun _ => ?_⟩))).imp fun v H2 e ⟨b, ev, hb⟩ => ⟨b, ev, ?_⟩
        · subst hx
          exact ev_lcount (ev_var (h7 _)) (e _ _ hp) (ev_var (h8 _))
        · rw [hb, given_all, hn]
          conv => rhs; rw [h5]
          rw [List.map_map]
          rfl
      -- by pairs at odds
      refine q_when (b := false) (et_not (a := true) (et_B (ev_cal2 (Pa := fun v H => Tup H v (oddsAll (m - 1))) (Pb := fun v H => Tup H v (oddsAll (m - 1))) (ep_cal (EvA.one (ev_var rfl)) fun H6 e6 Q k => ⟨m, rfl, m1, by omega, k⟩) (fun v H1 H2 e h => h.up e)
        (cnt (s := 3) rfl W.od M.om M.oM M.o1 M.o2 M.oc (fun x => rfl) (fun x => rfl) (fun x => rfl)) fun u v H6 e6 hu hv Q k => ⟨u, v, rfl, alike_tup hu hv (by have := M.o2; omega), k⟩))) (fun z => nomatch z) fun _ H6 e6 => ?_
      have W6 := W.up e6
      -- by least deeds
      refine q_when (b := false) (et_not (a := true) (et_B (ev_cal2 (Pa := fun v H => Tup H v (ringsAll (m - 1))) (Pb := fun v H => Tup H v (ringsAll (m - 1))) (ep_cal (EvA.one (ev_var rfl)) fun H6 e6 Q k => ⟨m, rfl, m1, by omega, k⟩) (fun v H1 H2 e h => h.up e)
        (cnt (s := 4) rfl W6.de M.rm M.rM M.r1 M.r2 M.rc (fun x => rfl) (fun x => rfl) (fun x => rfl)) fun u v H6 e6 hu hv Q k => ⟨u, v, rfl, alike_tup hu hv (by have := M.r2; omega), k⟩))) (fun z => nomatch z) fun _ H7 e7 => ?_
      have W7 := W6.up e7
      -- one of the orders
      have hlo : ((((permsAt m m).map (oddsOf m)).map V.int).length : Int) = ((permsAt m m).length : Int) := by rw [List.length_map, List.length_map]
      refine q_asgTaken0 (K := K) (r := rp) (a := a) (ns := ns) (m := ((permsAt m m).length : Int)) (ev_var rfl) (ev_is (ev_cb (EvA.one (ev_var rfl)) (rc_lenL (K := K) (SqL.of W7.od))) (by rw [hlo])) (by omega) (by omega) (W7.rowOk hs (by omega)) fun H8 n8 b8 row8 h80 h81 => ?_
      have W8 := W7.drawn LPs b8 row8
      obtain ⟨i, hi⟩ : ∃ i : Nat, n8 = (i : Int) := ⟨n8.toNat, by omega⟩
      subst hi
      have hil : i < (permsAt m m).length := by omega
      have hri : (permsAt m m)[i]? = some (permsAt m m)[i] := List.getElem?_eq_getElem hil
      have R := M.told _ (List.getElem_mem hil)
      generalize (permsAt m m)[i] = r at hri R
      have hlr := R.len
      have tw := R.twos m1 m5
      have htl : (tabM r).length = m := (tabM_len r).trans hlr
      refine q_asgP (ep_ixRows (K := K) (i := i) (r := r) (ep_cal (EvA.one (ev_var rfl)) fun H9 e9 Q k => ⟨m, rfl, by omega, M.fit, k⟩) (ev_var rfl) hri) fun x H9 e9 hx => ?_
      refine q_asgP (ep_cal (P := fun v H => Tab H v ((tabM r).map pr)) (EvA.one (ev_var rfl)) fun H10 e10 Q k => ⟨x, r, rfl, hx.up e10, by omega, by omega, R.perm, k⟩) fun tb H10 e10 htb => ?_
      have hx10 := hx.up e10
      have W10 := (W8.up e9).up e10
      obtain ⟨kk, hk1, hk2⟩ := R.rings
      have hat : ∀ g : List Int → Int, (((permsAt m m).map g).map V.int)[i]? = some (.int (g r)) := fun g => by
        rw [List.getElem?_map, List.getElem?_map, hri]
        rfl
      refine s_ret (v := .bl true) (ev_cal2 (Pa := fun v H => ∃ p u, v = .ref p ∧ H p = some (.lst [u, .int (oddsOf m r), .int (deedsOf m r)]) ∧ Tup H u r) (Pb := fun v H => ∃ p u, v = .ref p ∧ H p = some (.lst [u, .int (oddsOf m r), .int (deedsOf m r)]) ∧ Tup H u r)
        (ep_lst3 (ep_cal (EvA.one (ev_var rfl)) fun H11 e11 Q k => ⟨tb, tabM r, rfl, htb.up e11, R.desc, tw, ?_⟩) (fun v H1 H2 e h => h.up e) (ev_cal (EvA.one (ev_var rfl)) fun H11 e11 Q k => ⟨tb, tabM r, rfl, htb.up e11, R.desc, tw, ?_⟩)
          (ev_cal (EvA.one (ev_var rfl)) fun H11 e11 Q k => ⟨tb, tabM r, kk, rfl, htb.up e11, R.desc, tw, ?_, ?_⟩))
        (fun v H1 H2 e ⟨p, u, h1, h2, h3⟩ => ⟨p, u, h1, e _ _ h2, h3.up e⟩)
        (ep_lst3 ((ep_ev (ev_var rfl)).imp fun v H11 e11 ev => ?_) (fun v H1 H2 e h => h.up e) (ev_op (ev_var rfl) (ev_var rfl) (rv_ixL (K := K) (SqL.of W10.od) (atI_nat (hat _)))) (ev_op (ev_var rfl) (ev_var rfl) (rv_ixL (K := K) (SqL.of W10.de) (atI_nat (hat _)))))
        fun u v H11 e11 ⟨p, x1, h1, h2, h3⟩ ⟨p', x2, h4, h5, h6⟩ Q k => ⟨u, v, rfl, .inr ⟨p, p', _, _, h1, h4, .inr ⟨h2, h5⟩, rfl, by show 3 ≤ 1000; decide, ?_⟩, k⟩) fun H11 _ => q H11
      · rw [R.ord]
        exact k
      · rw [R.ord, R.most]
        exact k
      · rw [R.ord, htl]
        exact hk1
      · rw [htl, hk2]
        exact k
      · subst ev
        exact hx10.up e11
      · intro j y z hy hz
        match j, hy, hz with
        | 0, hy, hz =>
          cases Option.some.inj hy
          cases Option.some.inj hz
          exact alike_tup h3 h6 (by omega)
        | 1, hy, hz =>
          cases Option.some.inj hy
          cases Option.some.inj hz
          exact alike_ints _ _ _
        | 2, hy, hz =>
          cases Option.some.inj hy
          cases Option.some.inj hz
          exact alike_ints _ _ _
end
end K38
set_option Elab.async false
set_option linter.all false
set_option maxRecDepth 100000
set_option maxHeartbeats 16000000
/-! K38Z: the top, the facts joined, the statement. -/
namespace K38
open PySem L2 Evl
section
variable {P : Program} {w : World} {K : PySem.W.Frag} {mg : Str → Option Value} {base : Heap}
/-- a def of the text stands -/
structure Stands (K : PySem.W.Frag) (x : Str) (st : Stmt) : Prop where
  ex : ∃ (f : Addr) (oc : Value) (od an : Option Addr) (sl : Array (Option Value)) (kV dc pm cd ct : Value), PySem.W.nsIn K mainGlobals x = some (some (.ref f)) ∧
    K.lookup f = some ⟨oc, od, .func (PySem.W.fnOf x x (defArgs st) (defBody st) (defScope st) .none kV dc pm an cd ct), sl⟩ ∧ PySem.W.codeIn K cd x = true ∧ PySem.W.keepIn K (.ref f) = true
theorem stands {x : Str} {st : Stmt} {f : Addr} {oc : Value} {od an : Option Addr} {sl : Array (Option Value)} {kV dc pm cd ct : Value} (a : PySem.W.nsIn K mainGlobals x = some (some (.ref f)))
    (l : K.lookup f = some ⟨oc, od, .func (PySem.W.fnOf x x (defArgs st) (defBody st) (defScope st) .none kV dc pm an cd ct), sl⟩) (c : PySem.W.codeIn K cd x = true) (k : PySem.W.keepIn K (.ref f) = true) : Stands K x st :=
  ⟨f, oc, od, an, sl, kV, dc, pm, cd, ct, a, l, c, k⟩
theorem Stands.fn {x : Str} {st : Stmt} {h : Heap} (S : Stands K x st) (X : K.In h) (G : h.Ns mainGlobals mg) : ∃ f fd, Fun K x x st f fd ∧ mg x = some (.ref f) := by
  obtain ⟨f, oc, od, an, sl, kV, dc, pm, cd, ct, a, l, c, k⟩ := S
  exact ⟨f, _, fun_mk l c k, PySem.W.mg_of X G a⟩
theorem con {x : Str} {v : Int} {t : Tok} (h : PySem.W.nsIn K mainGlobals x = some (some (.int v t))) : ∃ t, PySem.W.nsIn K mainGlobals x = some (some (.int v t)) := ⟨t, h⟩
/-- what is read off the top -/
structure Left (K : PySem.W.Frag) : Prop where
  d_whole : Stands K "whole" sWhole
  d_within : Stands K "within" sWithin
  d_need_number : Stands K "need_number" sNeedNumber
  d_tuple_of : Stands K "tuple_of" sTupleOf
  d_is_row : Stands K "is_row" sIsRow
  d_bad_row : Stands K "bad_row" sBadRow
  d_need_table : Stands K "need_table" sNeedTable
  d_is_order : Stands K "is_order" sIsOrder
  d_need_twos : Stands K "need_twos" sNeedTwos
  d_order_of : Stands K "order_of" sOrderOf
  d_order : Stands K "order" sOrder
  d_table_of : Stands K "table_of" sTableOf
  d_from_order : Stands K "from_order" sFromOrder
  d_rings_of : Stands K "rings_of" sRingsOf
  d_least_by_rings : Stands K "least_by_rings" sLeastBy
  d_most_by_odds : Stands K "most_by_odds" sMostBy
  d_count_orders_by_odds : Stands K "count_orders_by_odds" sCntOdds
  d_count_orders_by_rings : Stands K "count_orders_by_rings" sCntRings
  d__law_taken : Stands K "_law_taken" sTaken
  d__law_perms : Stands K "_law_perms" sPerms
  d__law_alike : Stands K "_law_alike" sAlike
  d_law : Stands K "law" sLaw
  n_isinstance : PySem.W.nsIn K mainGlobals "isinstance" = some none
  n_int : PySem.W.nsIn K mainGlobals "int" = some none
  n_bool : PySem.W.nsIn K mainGlobals "bool" = some none
  n_tuple : PySem.W.nsIn K mainGlobals "tuple" = some none
  n_list : PySem.W.nsIn K mainGlobals "list" = some none
  n_str : PySem.W.nsIn K mainGlobals "str" = some none
  n_len : PySem.W.nsIn K mainGlobals "len" = some none
  n_all : PySem.W.nsIn K mainGlobals "all" = some none
  n_any : PySem.W.nsIn K mainGlobals "any" = some none
  n_sum : PySem.W.nsIn K mainGlobals "sum" = some none
  n_max : PySem.W.nsIn K mainGlobals "max" = some none
  n_sorted : PySem.W.nsIn K mainGlobals "sorted" = some none
  n_range : PySem.W.nsIn K mainGlobals "range" = some none
  n_enumerate : PySem.W.nsIn K mainGlobals "enumerate" = some none
  c_MOST_PEOPLE : ∃ t, PySem.W.nsIn K mainGlobals "MOST_PEOPLE" = some (some (.int 6 t))
  c_MOST_GOODS : ∃ t, PySem.W.nsIn K mainGlobals "MOST_GOODS" = some (some (.int 5 t))
  c_MOST_HEAP : ∃ t, PySem.W.nsIn K mainGlobals "MOST_HEAP" = some (some (.int 99 t))
theorem Left.nm {h : Heap} (L : Left K) (X : K.In h) (G : h.Ns mainGlobals mg) : Nm mg where
  isi := PySem.W.mg_none_of X G L.n_isinstance
  int := PySem.W.mg_none_of X G L.n_int
  bool := PySem.W.mg_none_of X G L.n_bool
  tuple := PySem.W.mg_none_of X G L.n_tuple
  list := PySem.W.mg_none_of X G L.n_list
  str := PySem.W.mg_none_of X G L.n_str
  len := PySem.W.mg_none_of X G L.n_len
  all := PySem.W.mg_none_of X G L.n_all
  any := PySem.W.mg_none_of X G L.n_any
  sum := PySem.W.mg_none_of X G L.n_sum
  max := PySem.W.mg_none_of X G L.n_max
  sorted := PySem.W.mg_none_of X G L.n_sorted
  range := PySem.W.mg_none_of X G L.n_range
  enum := PySem.W.mg_none_of X G L.n_enumerate
  mp := let ⟨t, e⟩ := L.c_MOST_PEOPLE; ⟨t, PySem.W.mg_of X G e⟩
  mgd := let ⟨t, e⟩ := L.c_MOST_GOODS; ⟨t, PySem.W.mg_of X G e⟩
  mh := let ⟨t, e⟩ := L.c_MOST_HEAP; ⟨t, PySem.W.mg_of X G e⟩
theorem law_of {h : Heap} {fa : Addr} (L : Left K) (X : K.In h) (G : h.Ns mainGlobals mg) (hfa : mg "law" = some (.ref fa)) :
    ∃ fd : FuncData, (∀ (s : Shared) (v : Value), BindsTo s fd ⟨[v], []⟩ [("_law_script", v)]) ∧ ∀ base : Heap, K.In base → base.Ns mainGlobals mg → FnOk P w K mg base CX0 8 fa fd ["_law_script"] (spLaw K) := by
  have T : Nm mg := L.nm X G
  obtain ⟨f0, fd0, F0, g0⟩ := L.d_whole.fn (mg := mg) X G
  obtain ⟨f1, fd1, F1, g1⟩ := L.d_within.fn (mg := mg) X G
  obtain ⟨f2, fd2, F2, g2⟩ := L.d_need_number.fn (mg := mg) X G
  obtain ⟨f3, fd3, F3, g3⟩ := L.d_tuple_of.fn (mg := mg) X G
  obtain ⟨f4, fd4, F4, g4⟩ := L.d_is_row.fn (mg := mg) X G
  obtain ⟨f5, fd5, F5, g5⟩ := L.d_bad_row.fn (mg := mg) X G
  obtain ⟨f6, fd6, F6, g6⟩ := L.d_need_table.fn (mg := mg) X G
  obtain ⟨f7, fd7, F7, g7⟩ := L.d_is_order.fn (mg := mg) X G
  obtain ⟨f8, fd8, F8, g8⟩ := L.d_need_twos.fn (mg := mg) X G
  obtain ⟨f9, fd9, F9, g9⟩ := L.d_order_of.fn (mg := mg) X G
  obtain ⟨f10, fd10, F10, g10⟩ := L.d_order.fn (mg := mg) X G
  obtain ⟨f11, fd11, F11, g11⟩ := L.d_table_of.fn (mg := mg) X G
  obtain ⟨f12, fd12, F12, g12⟩ := L.d_from_order.fn (mg := mg) X G
  obtain ⟨f13, fd13, F13, g13⟩ := L.d_rings_of.fn (mg := mg) X G
  obtain ⟨f14, fd14, F14, g14⟩ := L.d_least_by_rings.fn (mg := mg) X G
  obtain ⟨f15, fd15, F15, g15⟩ := L.d_most_by_odds.fn (mg := mg) X G
  obtain ⟨f16, fd16, F16, g16⟩ := L.d_count_orders_by_odds.fn (mg := mg) X G
  obtain ⟨f17, fd17, F17, g17⟩ := L.d_count_orders_by_rings.fn (mg := mg) X G
  obtain ⟨f18, fd18, F18, g18⟩ := L.d__law_taken.fn (mg := mg) X G
  obtain ⟨f19, fd19, F19, g19⟩ := L.d__law_perms.fn (mg := mg) X G
  obtain ⟨f20, fd20, F20, g20⟩ := L.d__law_alike.fn (mg := mg) X G
  obtain ⟨f21, fd21, F21, g21⟩ := L.d_law.fn (mg := mg) X G
  have b0 : Binds K fd0 ["value"] [] := F0.binds (ps := ["value"]) fun _ _ _ _ _ _ us hl => match us, hl with | [_], _ => rfl
  have b1 : Binds K fd1 ["value", "low", "high"] [] := F1.binds (ps := ["value", "low", "high"]) fun _ _ _ _ _ _ us hl => match us, hl with | [_, _, _], _ => rfl
  have b2 : Binds K fd2 ["value", "low", "high"] [] := F2.binds (ps := ["value", "low", "high"]) fun _ _ _ _ _ _ us hl => match us, hl with | [_, _, _], _ => rfl
  have b3 : Binds K fd3 ["value", "low", "high"] [] := F3.binds (ps := ["value", "low", "high"]) fun _ _ _ _ _ _ us hl => match us, hl with | [_, _, _], _ => rfl
  have b4 : Binds K fd4 ["value", "goods"] [] := F4.binds (ps := ["value", "goods"]) fun _ _ _ _ _ _ us hl => match us, hl with | [_, _], _ => rfl
  have b5 : Binds K fd5 ["table"] [] := F5.binds (ps := ["table"]) fun _ _ _ _ _ _ us hl => match us, hl with | [_], _ => rfl
  have b6 : Binds K fd6 ["table"] [] := F6.binds (ps := ["table"]) fun _ _ _ _ _ _ us hl => match us, hl with | [_], _ => rfl
  have b7 : Binds K fd7 ["value", "many"] [] := F7.binds (ps := ["value", "many"]) fun _ _ _ _ _ _ us hl => match us, hl with | [_, _], _ => rfl
  have b8 : Binds K fd8 ["table"] [] := F8.binds (ps := ["table"]) fun _ _ _ _ _ _ us hl => match us, hl with | [_], _ => rfl
  have b9 : Binds K fd9 ["table"] [] := F9.binds (ps := ["table"]) fun _ _ _ _ _ _ us hl => match us, hl with | [_], _ => rfl
  have b10 : Binds K fd10 ["table"] [] := F10.binds (ps := ["table"]) fun _ _ _ _ _ _ us hl => match us, hl with | [_], _ => rfl
  have b11 : Binds K fd11 ["told"] [] := F11.binds (ps := ["told"]) fun _ _ _ _ _ _ us hl => match us, hl with | [_], _ => rfl
  have b12 : Binds K fd12 ["told"] [] := F12.binds (ps := ["told"]) fun _ _ _ _ _ _ us hl => match us, hl with | [_], _ => rfl
  have b13 : Binds K fd13 ["told"] [] := F13.binds (ps := ["told"]) fun _ _ _ _ _ _ us hl => match us, hl with | [_], _ => rfl
  have b14 : Binds K fd14 ["table"] [] := F14.binds (ps := ["table"]) fun _ _ _ _ _ _ us hl => match us, hl with | [_], _ => rfl
  have b15 : Binds K fd15 ["table"] [] := F15.binds (ps := ["table"]) fun _ _ _ _ _ _ us hl => match us, hl with | [_], _ => rfl
  have b16 : Binds K fd16 ["many"] [] := F16.binds (ps := ["many"]) fun _ _ _ _ _ _ us hl => match us, hl with | [_], _ => rfl
  have b17 : Binds K fd17 ["many"] [] := F17.binds (ps := ["many"]) fun _ _ _ _ _ _ us hl => match us, hl with | [_], _ => rfl
  have b18 : Binds K fd18 ["_law_row", "_law_many"] [] := F18.binds (ps := ["_law_row", "_law_many"]) fun _ _ _ _ _ _ us hl => match us, hl with | [_, _], _ => rfl
  have b19 : Binds K fd19 ["_law_many"] [] := F19.binds (ps := ["_law_many"]) fun _ _ _ _ _ _ us hl => match us, hl with | [_], _ => rfl
  have b20 : Binds K fd20 ["_law_found", "_law_due"] [] := F20.binds (ps := ["_law_found", "_law_due"]) fun _ _ _ _ _ _ us hl => match us, hl with | [_, _], _ => rfl
  have b21 : Binds K fd21 ["_law_script"] [] := F21.binds (ps := ["_law_script"]) fun _ _ _ _ _ _ us hl => match us, hl with | [_], _ => rfl
  have e := hfa.symm.trans g21
  cases e
  refine ⟨fd21, fun s v => ?_, fun base KB GB => ?_⟩
  · obtain ⟨oc, od, kV, doc, pm, an, cdv, ct, osl, rfl, _⟩ := F21.ex
    exact .of_eq rfl
  · have c_whole : Cal P w K mg base 1 "whole" ["value"] spWhole := ⟨f0, fd0, ok_whole F0 T, g0, F0.kp, b0⟩
    have c_within : Cal P w K mg base 2 "within" ["value", "low", "high"] spWithin := ⟨f1, fd1, ok_within F1 c_whole, g1, F1.kp, b1⟩
    have c_need_number : Cal P w K mg base 3 "need_number" ["value", "low", "high"] spNeedNumber := ⟨f2, fd2, ok_needNumber F2 c_within, g2, F2.kp, b2⟩
    have c_tuple_of : Cal P w K mg base 1 "tuple_of" ["value", "low", "high"] spTupleOf := ⟨f3, fd3, ok_tupleOf F3 T, g3, F3.kp, b3⟩
    have c_is_row : Cal P w K mg base 3 "is_row" ["value", "goods"] spIsRow := ⟨f4, fd4, ok_isRow F4 T c_tuple_of c_within, g4, F4.kp, b4⟩
    have c_bad_row : Cal P w K mg base 4 "bad_row" ["table"] spBadRow := ⟨f5, fd5, ok_badRow F5 T c_tuple_of c_is_row, g5, F5.kp, b5⟩
    have c_need_table : Cal P w K mg base 5 "need_table" ["table"] spNeedTable := ⟨f6, fd6, ok_needTable F6 T c_tuple_of c_bad_row, g6, F6.kp, b6⟩
    have c_is_order : Cal P w K mg base 2 "is_order" ["value", "many"] spIsOrder := ⟨f7, fd7, ok_isOrder F7 T c_tuple_of c_whole, g7, F7.kp, b7⟩
    have c_need_twos : Cal P w K mg base 6 "need_twos" ["table"] spNeedTwos := ⟨f8, fd8, ok_needTwos F8 T c_need_table, g8, F8.kp, b8⟩
    have c_order_of : Cal P w K mg base 1 "order_of" ["table"] spOrderOf := ⟨f9, fd9, ok_orderOf F9 T, g9, F9.kp, b9⟩
    have c_order : Cal P w K mg base 7 "order" ["table"] spOrder := ⟨f10, fd10, ok_order F10 c_need_twos c_order_of, g10, F10.kp, b10⟩
    have c_table_of : Cal P w K mg base 1 "table_of" ["told"] spTableOf := ⟨f11, fd11, ok_tableOf F11 T, g11, F11.kp, b11⟩
    have c_from_order : Cal P w K mg base 3 "from_order" ["told"] spFromOrder := ⟨f12, fd12, ok_fromOrder F12 T c_is_order c_table_of, g12, F12.kp, b12⟩
    have c_rings_of : Cal P w K mg base 1 "rings_of" ["told"] spRingsOf := ⟨f13, fd13, ok_ringsOf F13 T, g13, F13.kp, b13⟩
    have c_least_by_rings : Cal P w K mg base 7 "least_by_rings" ["table"] spLeastBy := ⟨f14, fd14, ok_leastBy F14 T c_need_twos c_order_of c_rings_of, g14, F14.kp, b14⟩
    have c_most_by_odds : Cal P w K mg base 7 "most_by_odds" ["table"] spMostBy := ⟨f15, fd15, ok_mostBy F15 T c_need_twos c_order_of, g15, F15.kp, b15⟩
    have c_count_orders_by_odds : Cal P w K mg base 4 "count_orders_by_odds" ["many"] spCntOdds := ⟨f16, fd16, ok_cntOdds F16 T c_need_number, g16, F16.kp, b16⟩
    have c_count_orders_by_rings : Cal P w K mg base 4 "count_orders_by_rings" ["many"] spCntRings := ⟨f17, fd17, ok_cntRings F17 T c_need_number, g17, F17.kp, b17⟩
    have c__law_taken : Cal P w K mg base 1 "_law_taken" ["_law_row", "_law_many"] (spTaken K) := ⟨f18, fd18, ok_taken F18 T, g18, F18.kp, b18⟩
    have c__law_perms : Cal P w K mg base 1 "_law_perms" ["_law_many"] spPerms := ⟨f19, fd19, ok_perms F19 T, g19, F19.kp, b19⟩
    have c__law_alike : Cal P w K mg base 3 "_law_alike" ["_law_found", "_law_due"] (spAlike 2) := ⟨f20, fd20, ok_alike F20 T g20 b20 2, g20, F20.kp, b20⟩
    exact ok_law F21 T c__law_taken c__law_perms c__law_alike c_count_orders_by_odds c_count_orders_by_rings c_from_order c_order c_most_by_odds c_least_by_rings
end
end K38
open PySem PySem.W PyProof.Rows
set_option maxHeartbeats 0 in
theorem PySem.Challenge.cw_laytogether_k38_whole_numbers_of_orders_holds : PySem.Challenge.rw_laytogether_k38_whole_numbers_of_orders.Holds := by
  w_on; o_law; k_head; (case hw => w_witness2)
  k_fill
  refine L2.walk_of (l := PySem.Challenge.rw_laytogether_k38_whole_numbers_of_orders) (n := 63) (k := 8) (x := "_law_script") (CX := fun _ => L2.CX0) (sp := fun w => K38.spLaw _) rfl (by decide) rfl ⟨rfl, by decide, by decide⟩ (fun w h Y => PySem.W.kIn_of Y) ?F (fun _ _ a ns hl _ hS => ⟨a, ns, rfl, hS, hl, fun _ => rfl⟩) (fun _ _ _ _ _ h => h)
  case F =>
    intro w mg fa h KX G hmg
    refine K38.law_of ?L KX G hmg
    refine' { d_whole := K38.stands ?a0 ?l0 ?e0 ?k0, d_within := K38.stands ?a1 ?l1 ?e1 ?k1, d_need_number := K38.stands ?a2 ?l2 ?e2 ?k2, d_tuple_of := K38.stands ?a3 ?l3 ?e3 ?k3, d_is_row := K38.stands ?a4 ?l4 ?e4 ?k4, d_bad_row := K38.stands ?a5 ?l5 ?e5 ?k5, d_need_table := K38.stands ?a6 ?l6 ?e6 ?k6, d_is_order := K38.stands ?a7 ?l7 ?e7 ?k7, d_need_twos := K38.stands ?a8 ?l8 ?e8 ?k8, d_order_of := K38.stands ?a9 ?l9 ?e9 ?k9, d_order := K38.stands ?a10 ?l10 ?e10 ?k10, d_table_of := K38.stands ?a11 ?l11 ?e11 ?k11, d_from_order := K38.stands ?a12 ?l12 ?e12 ?k12, d_rings_of := K38.stands ?a13 ?l13 ?e13 ?k13, d_least_by_rings := K38.stands ?a14 ?l14 ?e14 ?k14, d_most_by_odds := K38.stands ?a15 ?l15 ?e15 ?k15, d_count_orders_by_odds := K38.stands ?a16 ?l16 ?e16 ?k16, d_count_orders_by_rings := K38.stands ?a17 ?l17 ?e17 ?k17, d__law_taken := K38.stands ?a18 ?l18 ?e18 ?k18, d__law_perms := K38.stands ?a19 ?l19 ?e19 ?k19, d__law_alike := K38.stands ?a20 ?l20 ?e20 ?k20, d_law := K38.stands ?a21 ?l21 ?e21 ?k21, n_isinstance := ?n0, n_int := ?n1, n_bool := ?n2, n_tuple := ?n3, n_list := ?n4, n_str := ?n5, n_len := ?n6, n_all := ?n7, n_any := ?n8, n_sum := ?n9, n_max := ?n10, n_sorted := ?n11, n_range := ?n12, n_enumerate := ?n13, c_MOST_PEOPLE := K38.con ?c0, c_MOST_GOODS := K38.con ?c1, c_MOST_HEAP := K38.con ?c2 }
    (case a0 => k_is); (case l0 => k_is); (case e0 => k_is); (case k0 => k_is)
    (case a1 => k_is); (case l1 => k_is); (case e1 => k_is); (case k1 => k_is)
    (case a2 => k_is); (case l2 => k_is); (case e2 => k_is); (case k2 => k_is)
    (case a3 => k_is); (case l3 => k_is); (case e3 => k_is); (case k3 => k_is)
    (case a4 => k_is); (case l4 => k_is); (case e4 => k_is); (case k4 => k_is)
    (case a5 => k_is); (case l5 => k_is); (case e5 => k_is); (case k5 => k_is)
    (case a6 => k_is); (case l6 => k_is); (case e6 => k_is); (case k6 => k_is)
    (case a7 => k_is); (case l7 => k_is); (case e7 => k_is); (case k7 => k_is)
    (case a8 => k_is); (case l8 => k_is); (case e8 => k_is); (case k8 => k_is)
    (case a9 => k_is); (case l9 => k_is); (case e9 => k_is); (case k9 => k_is)
    (case a10 => k_is); (case l10 => k_is); (case e10 => k_is); (case k10 => k_is)
    (case a11 => k_is); (case l11 => k_is); (case e11 => k_is); (case k11 => k_is)
    (case a12 => k_is); (case l12 => k_is); (case e12 => k_is); (case k12 => k_is)
    (case a13 => k_is); (case l13 => k_is); (case e13 => k_is); (case k13 => k_is)
    (case a14 => k_is); (case l14 => k_is); (case e14 => k_is); (case k14 => k_is)
    (case a15 => k_is); (case l15 => k_is); (case e15 => k_is); (case k15 => k_is)
    (case a16 => k_is); (case l16 => k_is); (case e16 => k_is); (case k16 => k_is)
    (case a17 => k_is); (case l17 => k_is); (case e17 => k_is); (case k17 => k_is)
    (case a18 => k_is); (case l18 => k_is); (case e18 => k_is); (case k18 => k_is)
    (case a19 => k_is); (case l19 => k_is); (case e19 => k_is); (case k19 => k_is)
    (case a20 => k_is); (case l20 => k_is); (case e20 => k_is); (case k20 => k_is)
    (case a21 => k_is); (case l21 => k_is); (case e21 => k_is); (case k21 => k_is)
    (case n0 => k_is)
    (case n1 => k_is)
    (case n2 => k_is)
    (case n3 => k_is)
    (case n4 => k_is)
    (case n5 => k_is)
    (case n6 => k_is)
    (case n7 => k_is)
    (case n8 => k_is)
    (case n9 => k_is)
    (case n10 => k_is)
    (case n11 => k_is)
    (case n12 => k_is)
    (case n13 => k_is)
    (case c0 => k_is)
    (case c1 => k_is)
    (case c2 => k_is)
